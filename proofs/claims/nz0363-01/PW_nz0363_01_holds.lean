import PyProof.Rows.All
import Wide.All
import OpenK.AllK
import Wide.FinOn
import KE.BitLaws
import PySem.Challenge.RW_nz0363_01
set_option Elab.async false
set_option maxRecDepth 100000
set_option linter.all false
set_option rowWalk.seconds 0
set_option genInjectivity false
set_option genSizeOfSpec false
set_option genSizeOf false
local macro_rules | `(tactic| walk_at $s:str) => `(tactic| k_extra $s)
/-! BLog -/
namespace Mine
open PySem PySem.W PyProof.Rows PySem.Spec PySem.Calls

/-! ## a logic for runs that stand under no decoder (a bytearray asks the whole stack for one) -/
noncomputable def isDec : Code → Bool
  | .builtin id _ => Builtin.Bytes.decodersThatHold.contains id
  | _ => false
noncomputable def NoD (Γ : PySem.Ctx) : Prop := isDec Γ.code = false ∧ ∀ x ∈ Γ.below, isDec x.1 = false
noncomputable def wpB {α : Type} (M : Model) (A : Around) (t : Sem α) (Q : α → Shared → Prop) (E : Value → Shared → Prop) (s : Shared) : Prop :=
  ∀ Γ p, Γ.In A → NoD Γ → Sem.wp M Γ t (fun a _ s' => Q a s') (fun e _ s' => E e s') p s
noncomputable def codeB (M : Model) (A : Around) (c : Code) (R : Result → Shared → Prop) (s : Shared) : Prop :=
  ∀ Γ p, Γ.code = c → Γ.Below A → NoD Γ → wpCode M Γ R p s
abbrev noE : Value → Shared → Prop := fun _ _ => False

section
variable {α β : Type} {M : Model} {A : Around} {E : Value → Shared → Prop} {s : Shared}
theorem wpB_of {t : Sem α} {Q : α → Shared → Prop} (h : wpAny M A t Q E s) : wpB M A t Q E s := fun Γ p hΓ _ => h Γ p hΓ
theorem codeB_of {c : Code} {R : Result → Shared → Prop} (h : codeAny M A c R s) : codeB M A c R s := fun Γ p hc hΓ _ => h Γ p hc hΓ
theorem wpB_mono {t : Sem α} {Q Q' : α → Shared → Prop} {E' : Value → Shared → Prop} (h : wpB M A t Q E s) (hQ : ∀ a s, Q a s → Q' a s) (hE : ∀ e s, E e s → E' e s) : wpB M A t Q' E' s :=
  fun Γ p hΓ hn => Sem.wp_mono M Γ t (fun a _ s => hQ a s) (fun e _ s => hE e s) p s (h Γ p hΓ hn)
theorem codeB_mono {c : Code} {R R' : Result → Shared → Prop} (h : codeB M A c R s) (hR : ∀ r s, R r s → R' r s) : codeB M A c R' s :=
  fun Γ p hc hΓ hn => wpCode_mono hR (h Γ p hc hΓ hn)
theorem wpB_pure {a : α} {Q : α → Shared → Prop} (h : Q a s) : wpB M A (pure a) Q E s := fun _ _ _ _ => h
theorem wpB_bind {m : Sem α} {f : α → Sem β} {Q : β → Shared → Prop} (h : wpB M A m (fun a s' => wpB M A (f a) Q E s') E s) : wpB M A (m >>= f) Q E s := fun Γ p hΓ hn => by
  rw [Sem.wp_bind']
  exact Sem.wp_mono M Γ m (fun a p' s' h' => h' Γ p' hΓ hn) (fun _ _ _ h' => h') p s (h Γ p hΓ hn)
/-- a step of the library's logic, what is behind it in ours -/
theorem wpB_step {m : Sem α} {f : α → Sem β} {Q : β → Shared → Prop} (h : wpAny M A m (fun a s' => wpB M A (f a) Q E s') E s) : wpB M A (m >>= f) Q E s := wpB_bind (wpB_of h)
theorem wpB_holding {vs : List Value} {m : Sem α} {Q : α → Shared → Prop} (h : wpB M A m Q E s) : wpB M A (holding vs m) Q E s := fun Γ p hΓ hn => by
  rw [Sem.wp_holding]; exact h Γ p hΓ hn
theorem wpB_keep {vs : List Value} {m : Sem α} {Q : α → Shared → Prop} (h : wpB M A m Q E s) : wpB M A (m.keep vs) Q E s := fun Γ p hΓ hn => by
  rw [Sem.wp_keep]; exact h Γ p hΓ hn
theorem wpB_onRaise {m : Sem α} {k : Value → Sem Unit} {Q : α → Shared → Prop} (h : wpB M A m Q noE s) : wpB M A (m.onRaise k) Q E s := fun Γ p hΓ hn => by
  rw [Sem.wp_onRaise]
  exact Sem.wp_mono M Γ m (fun _ _ _ h' => h') (fun _ _ _ h' => h'.elim) p s (h Γ p hΓ hn)
theorem nod_enter {Γ : PySem.Ctx} {c : Code} {h : Option Value} {p : Pos} (hn : NoD Γ) (hd : isDec c = false) : NoD (Γ.enter c h p) :=
  ⟨hd, fun x hx => (List.mem_cons.mp hx).elim (fun e => e ▸ hn.1) (hn.2 x)⟩
theorem wpB_run {c : Code} {Q : Flow → Shared → Prop} (hc : codeB M A c (fun r s' => match r with | .ok f => Q f s' | .error e => E e s') s) (hd : isDec c = false) : wpB M A (run c none) Q E s := fun Γ p hΓ hn => by
  rw [Sem.wp_run]
  exact hc _ p rfl (hΓ.enter c none p (by intro x; cases x)) (nod_enter hn hd)
theorem wpB_runValue {c : Code} {Q : Value → Shared → Prop} (hc : codeB M A c (fun r s' => match r with | .ok (.ret v) => Q v s' | .ok _ => False | .error e => E e s') s) (hd : isDec c = false) : wpB M A (runValue c) Q E s := fun Γ p hΓ hn => by
  rw [Sem.wp_runValue]
  exact hc _ p rfl (hΓ.enter c none p (by intro x; cases x)) (nod_enter hn hd)
theorem wpB_call {f : Value} {pos : List Value} {kw : List (Str × Value)} {Q : Value → Shared → Prop} (hc : codeB M A (.call f ⟨pos, kw⟩) (fun r s' => match r with | .ok (.ret v) => Q v s' | .ok _ => False | .error e => E e s') s) :
    wpB M A (call f pos kw) Q E s := wpB_runValue hc rfl
theorem codeB_of_tree {c : Code} {R : Result → Shared → Prop}
    (h : wpB M (A.under c) (M.den c) (fun fin s' => match fin with | .done f => R (.ok f) s' | .again c' => c'.quiet = true ∧ isDec c' = false ∧ codeB M A c' R s') (fun e s' => R (.error e) s') s) : codeB M A c R s := fun Γ p hc hΓ hn => by
  rw [wpCode_iff_wp, hc]
  refine Sem.wp_mono M Γ _ (fun fin p' s' h' => ?_) (fun _ _ _ h' => h') p s (h Γ p (hc ▸ hΓ.in) hn)
  cases fin with
  | done f => exact h'
  | again c' => exact ⟨h'.1, h'.2.2 (Γ.goto c') p' rfl (hΓ.goto c') ⟨h'.2.1, hn.2⟩⟩
theorem wpB_A {A' : Around} {t : Sem α} {Q : α → Shared → Prop} (h : wpB M A' t Q E s)
    (hh : A'.handled = A.handled) (hd : A.depth ≤ A'.depth) (hf : A'.frames = A.frames) (hg : A'.guards = A.guards) (hu : A.units ≤ A'.units) : wpB M A t Q E s :=
  fun Γ p hΓ hn => h Γ p ⟨hΓ.1.trans hh.symm, Nat.le_trans hΓ.2.1 hd, fun l hl => hΓ.2.2.1 l (hf ▸ hl), fun l hl => hΓ.2.2.2.1 l (hg ▸ hl), Nat.le_trans hΓ.2.2.2.2 hu⟩ hn
end

section
variable {prog : Program} {w : World} {A : Around} {E : Value → Shared → Prop} {R : Result → Shared → Prop} {s : Shared} {env : Env}
theorem codeB_builtin {id : String} {args : Args} {b : Builtin} (hb : entryFor table id = some b)
    (h : wpB (model prog w) (A.under (.builtin id args)) (b args)
      (fun fin s' => match fin with | .done f => R (.ok f) s' | .again c' => c'.quiet = true ∧ isDec c' = false ∧ codeB (model prog w) A c' R s') (fun e s' => R (.error e) s') s) :
    codeB (model prog w) A (.builtin id args) R s := by
  refine codeB_of_tree ?_
  show wpB _ _ (match entryFor table id with | some b => b args | none => unsupported ((withoutEnding? id "#data").getD id)) _ _ s
  rw [hb]; exact h
theorem codeB_func {body : List Stmt} (h : wpB (model prog w) (A.deeper env) (execs body env) (fun f s' => R (.ok (.ret (match f with | .ret v => v | _ => .none))) s') noE s) :
    codeB (model prog w) A (.func body env) R s := by
  refine codeB_of_tree ?_
  show wpB _ (A.deeper env) (do point; match ← (execs body env).onRaise (leaving env) with | .ret v => ret v | _ => ret .none) _ _ s
  refine wpB_step (wpAny_point (wpB_bind (wpB_onRaise (wpB_mono h (fun f s' h' => ?_) fun _ _ h' => h'))))
  cases f <;> exact wpB_pure h'
theorem codeB_call_function {a : Addr} {args : Args} {o : Obj} {fd : FuncData} {body : List Stmt} (hroom : A.depth < recursionLimit)
    (ho : s.heap.get? a = some o)
    (hd' : o.data = .func fd) (hco : fd.scope.isCoroutine = false) (hgen : fd.scope.isGenerator = false) (hbody : fd.body = .stmts body) (hcd : s.heap.CodeRec fd.code fd.qualname)
    (h : wpAny (model prog w) A.in1 (bindArgs fd args) (fun binds s₁ =>
      wpAny (model prog w) A.in1 (newFunctionEnv fd.scope fd.globals fd.closure binds (fd.qualname ++ ".<locals>.") (some a) fd.code none fd.builtins)
        (fun env s₂ => s₂.heap.NoLimit ∧ codeB (model prog w) A (.func body env) R s₂) (fun e s' => R (.error e) s') s₁) (fun e s' => R (.error e) s') s) :
    codeB (model prog w) A (.call (.ref a) args) R s := by
  refine codeB_of_tree (wpB_of ?_)
  show wpAny _ A.in1 (callAny (.ref a) args) _ _ s
  simp only [callAny]
  refine wpAny_bind (wpAny_load ho ?_)
  obtain ⟨c, oc, vs, tq, hc, hoc, hdc, hq⟩ := hcd
  simp only [hd', callFunction, hco, hgen, hbody, hc]
  rw [hc] at h
  refine wpAny_bind (m := field (.ref c) 1) (wpAny_field hoc hdc hq (wpAny_bind (wpAny_pure ?_)))
  exact wpAny_bind (wpAny_mono h (fun binds s₁ h₁ => wpAny_bind (wpAny_mono h₁ (fun env s₂ h₂ => wpAny_bind (wpAny_enterFrame h₂.1 hroom
    (wpAny_pure (And.intro rfl (And.intro rfl h₂.2))))) fun _ _ h' => h')) fun _ _ h' => h')
theorem codeB_call_def {a : Addr} {o : Obj} {fd : FuncData} {body : List Stmt} {args : Args} {binds : List (Str × Value)}
    (hroom : A.depth < recursionLimit) (ho : s.heap.get? a = some o) (hdata : o.data = .func fd) (hlim : s.heap.NoLimit) (hcd : s.heap.CodeRec fd.code fd.qualname)
    (hbody : fd.body = .stmts body) (hbind : BindsTo s fd args binds)
    (hcell : ∀ x ∈ fd.scope.names, x.2 ≠ .cell) (hloc : ∀ x ∈ binds, fd.scope.names.lookup x.1 = some .local)
    (h : ∀ h₀, h₀.Ns s.heap.objs.size (fun x => binds.reverse.lookup x) → (∀ b o, s.heap.get? b = some o → h₀.get? b = some o) →
      wpB (model prog w) (A.deeper (callEnv fd s.heap.objs.size a)) (execs body (callEnv fd s.heap.objs.size a)) (fun f s' => R (.ok (.ret (match f with | .ret v => v | _ => .none))) s')
        noE { s with heap := h₀, toks := s.toks + binds.length })
    (hco : fd.scope.isCoroutine = false) (hgen : fd.scope.isGenerator = false) (hk : fd.scope.kind = .function) :
    codeB (model prog w) A (.call (.ref a) args) R s := by
  refine codeB_call_function hroom ho hdata hco hgen hbody hcd (hbind _ _ _ _ ?_)
  refine wpAny_newFunctionEnv hcell hloc (fun h₀ hns₀ hsb₀ => ⟨hlim.fresh _ hsb₀, codeB_func (h h₀ hns₀ fun b o e => ?_)⟩) hk
  exact hsb₀.extBut b o (Nat.ne_of_lt (Heap.lt_size e)) (Heap.get?_push_of_some _ e)

/-! ### statements -/
theorem wpB_execs_nil {Q : Flow → Shared → Prop} (h : Q .next s) : wpB (model prog w) A (execs [] env) Q E s := wpB_of (wpAny_execs_nil h)
theorem wpB_execs_cons {st : Stmt} {rest : List Stmt} {Q : Flow → Shared → Prop} (h : wpB (model prog w) A (exec st env) (fun f s' => match f with | .next => wpB (model prog w) A (execs rest env) Q E s' | f => Q f s') E s) :
    wpB (model prog w) A (execs (st :: rest) env) Q E s := by
  show wpB _ _ (do match ← exec st env with | .next => execs rest env | f => pure f) _ _ _
  refine wpB_bind (wpB_mono h (fun f s' h' => ?_) fun _ _ x => x)
  cases f with
  | next => exact h'
  | _ => exact wpB_pure h'
/-- some statements by the library's logic, the rest in ours -/
theorem wp_app {Γ : PySem.Ctx} (hΓ : Γ.In A) (hn : NoD Γ) {rest : List Stmt} {Q : Flow → Shared → Prop} : ∀ (pre : List Stmt) (s : Shared) (p : Pos),
    Sem.wp (model prog w) Γ (execs pre env) (fun f _ s' => match f with | .next => wpB (model prog w) A (execs rest env) Q E s' | f => Q f s') (fun e _ s' => E e s') p s →
    Sem.wp (model prog w) Γ (execs (pre ++ rest) env) (fun f _ s' => Q f s') (fun e _ s' => E e s') p s
  | [], s, p, h => by
    have h' : wpB (model prog w) A (execs rest env) Q E s := h
    exact h' Γ p hΓ hn
  | st :: pre, s, p, h => by
    have e1 : execs (st :: pre) env = (exec st env >>= fun f => match f with | .next => execs pre env | f => pure f) := rfl
    have e2 : execs (st :: pre ++ rest) env = (exec st env >>= fun f => match f with | .next => execs (pre ++ rest) env | f => pure f) := rfl
    rw [e1, Sem.wp_bind'] at h
    rw [e2, Sem.wp_bind']
    refine Sem.wp_mono _ Γ _ (fun f p' s' h' => ?_) (fun _ _ _ x => x) p s h
    cases f with
    | next => exact wp_app hΓ hn pre s' p' h'
    | _ => exact h'
theorem wpB_execs_app {pre rest : List Stmt} {Q : Flow → Shared → Prop} (h : wpAny (model prog w) A (execs pre env) (fun f s' => match f with | .next => wpB (model prog w) A (execs rest env) Q E s' | f => Q f s') E s) :
    wpB (model prog w) A (execs (pre ++ rest) env) Q E s := fun Γ p hΓ hn => wp_app hΓ hn pre s p (h Γ p hΓ)
theorem wpB_cut (n : Nat) {body : List Stmt} {Q : Flow → Shared → Prop} (h : wpAny (model prog w) A (execs (body.take n) env) (fun f s' => match f with | .next => wpB (model prog w) A (execs (body.drop n) env) Q E s' | f => Q f s') E s) :
    wpB (model prog w) A (execs body env) Q E s := by
  have := wpB_execs_app h
  rwa [List.take_append_drop] at this
theorem wpB_If {test : Expr} {body orelse : List Stmt} {pos : Pos} {Q : Flow → Shared → Prop}
    (h : wpB (model prog w) A (isTrue test env (eval test env)) (fun b s₂ => if b then wpB (model prog w) A (execs body env) Q E s₂ else wpB (model prog w) A (execs orelse env) Q E s₂) E s) :
    wpB (model prog w) A (exec (.If test body orelse pos) env) Q E s := by
  rw [exec_If]
  refine wpB_step (wpAny_standAt (wpB_bind (wpB_mono h (fun b s₂ h₂ => ?_) fun _ _ x => x)))
  cases b <;> exact h₂

/-! ### tests -/
theorem wpB_not {x : Expr} {pos : Pos} {whole : Sem Value} {Q : Bool → Shared → Prop} (h : wpB (model prog w) A (isTrue x env (eval x env)) (fun c s' => Q (!c) s') E s) :
    wpB (model prog w) A (isTrue (.UnaryOp .Not x pos) env whole) Q E s := by
  show wpB _ A (do return !(← isTrue x env (eval x env))) Q E s
  exact wpB_bind (wpB_mono h (fun c s' h' => wpB_pure h') fun _ _ x => x)
theorem wpB_or {x : Expr} {rest : List Expr} {pos : Pos} {whole : Sem Value} {Q : Bool → Shared → Prop}
    (h : wpB (model prog w) A (isTrue x env (eval x env)) (fun c s' => if c then Q true s' else wpB (model prog w) A (isTrue (.BoolOp .Or rest pos) env whole) Q E s') E s) :
    wpB (model prog w) A (isTrue (.BoolOp .Or (x :: rest) pos) env whole) Q E s := by
  show wpB _ A (do
    match BoolOp.Or, ← isTrue x env (eval x env) with
    | .And, false => pure false
    | .Or, true => pure true
    | _, _ => allTrue .Or rest env) Q E s
  refine wpB_bind (wpB_mono h (fun c s' h' => ?_) fun _ _ x => x)
  cases c with
  | false => exact h'
  | true => exact wpB_pure h'
theorem wpB_plain {e : Expr} {whole : Sem Value} {Q : Bool → Shared → Prop} (h : wpB (model prog w) A whole (fun v s₁ => wpAny (model prog w) A (truthy v) Q E s₁) E s)
    (he : isTrue e env whole = (do let v ← whole; standAt e.pos; holding [v] (truthy v))) : wpB (model prog w) A (isTrue e env whole) Q E s := by
  rw [he]
  exact wpB_bind (wpB_mono h (fun v s₁ h₁ => wpB_of (wpAny_bind (wpAny_standAt (wpAny_holding h₁)))) fun _ _ x => x)
theorem wpB_compare {l r : Expr} {op : CmpOp} {pos : Pos} {whole : Sem Value} {Q : Bool → Shared → Prop}
    (h : wpB (model prog w) A (eval l env) (fun a s₁ => wpAny (model prog w) A (eval r env) (fun b s₂ => wpAny (model prog w) A (compareOp op a b)
      (fun c s₃ => wpAny (model prog w) A (truthy c) Q E s₃) E s₂) E s₁) E s)
    (hm : behindInMarks op r = false) : wpB (model prog w) A (isTrue (.Compare l [op] [r] pos) env whole) Q E s := fun Γ p hΓ hn => by
  simp only [isTrue_Compare1, markedBehindIn_of_false hm, Sem.wp_bind', Sem.wp_holding, Sem.wp_cmd_standAt, Sem.wp_operate]
  exact Sem.wp_mono _ Γ _ (fun a p₁ s₁ h₁ => Sem.wp_mono _ Γ _ (fun b _ s₂ h₂ => Sem.wp_mono _ Γ _ (fun c p₃ s₃ h₃ => h₃ Γ p₃ hΓ)
    (fun _ _ _ h' => h') _ _ (h₂ Γ _ hΓ)) (fun _ _ _ h' => h') _ _ (h₁ Γ p₁ hΓ)) (fun _ _ _ h' => h') _ _ (h Γ p hΓ hn)

/-! ### calls -/
theorem wpB_Call_Name {id : Str} {p pos : Pos} {args : List Expr} {Q : Value → Shared → Prop}
    (h : wpAny (model prog w) A (eval (.Name id p) env) (fun f s₁ => wpB (model prog w) A (callWith pos f [] (backTo pos (starEach args env)) []) Q E s₁) E s) :
    wpB (model prog w) A (eval (.Call (.Name id p) args [] pos) env) Q E s := by
  have e : eval (.Call (.Name id p) args [] pos) env = (do callWith pos (← eval (.Name id p) env) [] (backTo pos (starEach args env)) (backToKw pos (keywordEach [] env))) := rfl
  rw [e]
  exact wpB_step h

/-! ### loops -/
theorem codeB_whileLoop {test : Expr} {body : List Stmt} (I : Nat → Shared → Prop)
    (turn : ∀ n s, I n s →
      wpB (model prog w) A (isTrue test env (eval test env)) (fun b s₂ =>
        if b = true then wpB (model prog w) A (execs body env) (fun f s₃ => match f with
            | .next | .cont => ∃ m, m < n ∧ I m s₃
            | .brk => R (.ok .next) s₃
            | .ret v => R (.ok (.ret v)) s₃) noE s₂
        else R (.ok .next) s₂) noE s) :
    ∀ (n : Nat) (s : Shared), I n s → codeB (model prog w) A (.whileLoop test body [] env) R s := by
  intro n
  induction n using Nat.strongRecOn with
  | ind n ih =>
    intro s h
    refine codeB_of_tree ?_
    show wpB _ A ((whileTurn test body [] env).onRaise (fun x => do noteFrame x env; theTreesLotGoes x)) _ _ s
    refine wpB_onRaise ?_
    simp only [whileTurn]
    refine wpB_bind (wpB_mono (turn n s h) (fun b s₂ h₂ => ?_) fun _ _ h' => h')
    cases b with
    | false =>
      simp only [Bool.false_eq_true, if_false] at h₂ ⊢
      exact wpB_bind (wpB_execs_nil (wpB_pure h₂))
    | true =>
      simp only [if_true] at h₂ ⊢
      refine wpB_bind (wpB_mono h₂ (fun f s₃ h₃ => ?_) fun _ _ h' => h')
      cases f with
      | next => obtain ⟨m, hm, hI⟩ := h₃; exact wpB_pure ⟨rfl, rfl, ih m hm s₃ hI⟩
      | cont => obtain ⟨m, hm, hI⟩ := h₃; exact wpB_pure ⟨rfl, rfl, ih m hm s₃ hI⟩
      | brk => exact wpB_pure h₃
      | ret v => exact wpB_pure h₃
theorem wpB_While {test : Expr} {body : List Stmt} {pos : Pos} {Q : Flow → Shared → Prop}
    (h : codeB (model prog w) A (.whileLoop test body [] env) (fun r s' => match r with | .ok f => Q f s' | .error _ => False) s) :
    wpB (model prog w) A (exec (.While test body [] pos) env) Q E s := by
  rw [exec_While]
  refine wpB_step (wpAny_standAt ?_)
  unfold runOwn
  refine wpB_onRaise (wpB_run (codeB_mono h fun r s' hr => ?_) rfl)
  cases r with
  | ok f => exact hr
  | error e => exact hr
theorem codeB_forLoop {x : Str} {px : Pos} {it : Value} {body : List Stmt} (I : Nat → Shared → Prop)
    (turn : ∀ n s, I n s → wpAny (model prog w) A (pyNext it) (fun r s₁ => match r with
      | none => R (.ok .next) s₁
      | some v => wpAny (model prog w) A (assign (.Name x px) env v) (fun _ s₂ => wpB (model prog w) A (execs body env) (fun f s₃ => match f with
            | .next | .cont => ∃ m, m < n ∧ I m s₃
            | .brk => R (.ok .next) s₃
            | .ret v => R (.ok (.ret v)) s₃) noE s₂) noE s₁) noE s) :
    ∀ (n : Nat) (s : Shared), I n s → codeB (model prog w) A (.forLoop (.Name x px) it body [] env) R s := by
  intro n
  induction n using Nat.strongRecOn with
  | ind n ih =>
    intro s h
    refine codeB_of_tree ?_
    show wpB _ A ((forTurn (.Name x px) it body [] env).onRaise (fun x => do noteFrame x env; theTreesLotGoes x)) _ _ s
    refine wpB_onRaise ?_
    simp only [forTurn]
    refine wpB_step (wpAny_standAt (wpB_step (wpAny_onRaise (wpAny_mono (turn n s h) (fun r s₁ h₁ => ?_) fun _ _ h' => h'.elim))))
    cases r with
    | none => exact wpB_pure ⟨rfl, rfl, codeB_of (codeAny_block (wpAny_execs_nil h₁))⟩
    | some v =>
      have e : letOwnedTupleGo (.Name x px) it v = pure () := rfl
      dsimp only
      rw [e]
      refine wpB_step (wpAny_pure (wpB_step (wpAny_mono h₁ (fun _ s₂ h₂ => ?_) fun _ _ h' => h')))
      refine wpB_bind (wpB_mono h₂ (fun f s₃ h₃ => ?_) fun _ _ h' => h')
      cases f with
      | next => obtain ⟨m, hm, hI⟩ := h₃; exact wpB_pure ⟨rfl, rfl, ih m hm s₃ hI⟩
      | cont => obtain ⟨m, hm, hI⟩ := h₃; exact wpB_pure ⟨rfl, rfl, ih m hm s₃ hI⟩
      | brk => exact wpB_pure h₃
      | ret v => exact wpB_pure h₃
theorem wpB_For {x : Str} {px pos : Pos} {iter : Expr} {body : List Stmt} {Q : Flow → Shared → Prop}
    (h : wpAny (model prog w) A (eval iter env) (fun xv s₁ => wpAny (model prog w) A (pyIter xv) (fun it s₂ => codeB (model prog w) A (.forLoop (.Name x px) it body [] env) (fun r s' => match r with | .ok f => Q f s' | .error _ => False) s₂) E s₁) E s)
    (hs : ∀ x, foldedSetIterable iter env x = pure x) :
    wpB (model prog w) A (exec (.For (.Name x px) iter body [] pos) env) Q E s := by
  rw [exec_For]
  refine wpB_step (wpAny_standAt (wpB_step (wpAny_mono h (fun xv s₁ h₁ => ?_) fun _ _ x => x)))
  rw [hs]
  refine wpB_step (wpAny_pure (wpB_step (wpAny_standAt (wpB_step (wpAny_holding (wpAny_mono h₁ (fun it s₂ h₂ => ?_) fun _ _ x => x))))))
  unfold runOwn
  refine wpB_onRaise (wpB_run (codeB_mono h₂ fun r s' hr => ?_) rfl)
  cases r with
  | ok f => exact hr
  | error e => exact hr
end

section
variable {prog : Program} {w : World} {A₀ A : Around} {s : Shared} {K : Frag} {L : Addr} {h₀ base : Heap} {m mg mb : Str → Option Value} {news : List (Addr × Obj)} {p : Program} {loose : List Str} {mean : ExcName → Option Value}
/-- a def's entry in our logic -/
theorem enterB {env : Env} {outer : List Env} {R : Result → Shared → Prop} {name qual : Str} {params : Arguments} {body : List Stmt} {scope : Scope} {dV kV doc pm cdv ct oc : Value} {an od : Option Addr} {osl : Array (Option Value)} {f : Addr} {args : Args} {binds : List (Str × Value)}
    (B : Below A₀ base outer h₀) (F : Fr h₀ L s.heap m) (X₀ : K.In h₀) (N : News h₀ L s.heap news) (T : Top p loose mean mg mb h₀) (hA : A.frames = some (env :: outer)) (hf : env.frame = some L) (hke : env.scope.kind = .function)
    (ho : K.lookup f = some ⟨oc, od, .func (fnOf name qual params body scope dV kV doc pm an cdv ct), osl⟩) (hcd : codeIn K cdv qual = true) (hroom : A.depth < recursionLimit)
    (hbind : BindsTo s (fnOf name qual params body scope dV kV doc pm an cdv ct) args binds) (hloc : ∀ y ∈ binds, scope.names.lookup y.1 = some .local)
    (h : ∀ g L' h₁, Fr h₀ L g m → Fr g L' h₁ (fun y => binds.reverse.lookup y) → News g L' h₁ news → Below A base (env :: outer) g → K.In g → Top p loose mean mg mb g →
      (∀ b o, s.heap.get? b = some o → b ∉ news.map (·.1) → g.get? b = some o) →
      wpB (model prog w) (A.deeper (envOf qual scope L' f cdv)) (execs body (envOf qual scope L' f cdv))
        (fun fl s' => LeaveK h₀ L m g R (match fl with | .ret v => v | _ => .none) s') noE
        { s with heap := h₁, toks := s.toks + binds.length })
    (hco : scope.isCoroutine = false) (hgen : scope.isGenerator = false) (hk : scope.kind = .function)
    (hcell : ∀ x ∈ scope.names, x.2 ≠ .cell) : codeB (model prog w) A (.call (.ref f) args) R s := by
  obtain ⟨FG, BG, st, lv⟩ := groundX (R := R) B F N hA hf hke
  refine codeB_call_def (fd := fnX name qual params body scope [] dV kV doc pm an cdv ct) (body := body) (binds := binds) hroom ((X₀.keeps F.keep) _ _ ho) rfl (T.nolimit.keeps F.keep) (codeRec_of (X₀.keeps F.keep) hcd) rfl hbind hcell hloc (fun h₁ hns hk₁ => ?_) hco hgen hk
  exact wpB_mono (h _ s.heap.objs.size h₁ FG ⟨hns, fun b o e => hk₁ b o (of_hideAll _ e), Nat.le_of_eq (hideAll_size _ _)⟩
    (fun p hp => ⟨hk₁ _ _ (N p hp).1, Nat.ne_of_lt (Heap.lt_size (N p hp).1), hideAll_none _ (List.mem_map_of_mem hp)⟩) BG (X₀.keeps st) (T.keeps st) (fun b o e n => hideAll_get _ e n)) (fun fl s' hl => lv _ _ hl) fun _ _ y => y
end

/-! ### a loop over a range: what it keeps may lie anywhere -/
noncomputable def itObj (k left : Int) : Obj := { cls := .type "range_iterator", data := .fields #[.int k 0, .int left 0, .int 1 0] }
section
variable {prog : Program} {w : World} {A : Around} {E : Value → Shared → Prop} {s : Shared} {env : Env} {h₀ : Heap} {L : Addr} {x : Str} {body : List Stmt} {Q : Flow → Shared → Prop}
noncomputable def RngEnd (h₀ : Heap) (L : Addr) (J : (Str → Option Value) → List (Addr × Obj) → Prop) (own : List (Addr × Obj)) (s₁ s₂ : Shared) : Prop :=
  ∃ h' tk m' news' nx, s₂ = { s₁ with heap := h', toks := tk } ∧ Fr h₀ L h' m' ∧ News h₀ L h' news' ∧ (∀ p ∈ nx, p ∈ news') ∧ (∀ p ∈ own, p ∈ news') ∧ J m' nx
noncomputable def RngPost (h₀ : Heap) (L : Addr) (J : (Str → Option Value) → List (Addr × Obj) → Prop) (own : List (Addr × Obj)) (s₁ : Shared) (Q : Flow → Shared → Prop) (f : Flow) (s₂ : Shared) : Prop :=
  match f with
  | .ret v => Q (.ret v) s₂
  | .brk => Q .next s₂
  | _ => RngEnd h₀ L J own s₁ s₂
theorem RngEnd.intro {J : (Str → Option Value) → List (Addr × Obj) → Prop} {m' : Str → Option Value} {own news' : List (Addr × Obj)} (nx : List (Addr × Obj)) {s₁ : Shared} {h' : Heap} {tk : Nat} (F : Fr h₀ L h' m') (N : News h₀ L h' news')
    (hn : ∀ p ∈ nx, p ∈ news') (ho : ∀ p ∈ own, p ∈ news') (hj : J m' nx) : RngEnd h₀ L J own s₁ { s₁ with heap := h', toks := tk } := ⟨h', tk, m', news', nx, rfl, F, N, hn, ho, hj⟩
end
end Mine

/-! BA -/
namespace Mine
open PySem PySem.W PyProof.Rows PySem.Spec PySem.Calls
open PySem.Builtin (Bytes.payload Bytes.exported)

theorem ba_mro : mroOf (.type "bytearray") = pure [.type "bytearray", .type "object"] := by rw [mroOf_type]; kernel_rfl
theorem ba_lookup_new : typeLookup (.type "bytearray") "__new__" = pure (some (.builtin "bytearray.__new__")) := by rw [typeLookup_type, builtinLookup_eq_fast]; kernel_rfl
theorem ba_sub : isSubtype (.type "bytearray") (.type "bytearray") = pure true := by rw [isSubtype_type]; kernel_rfl
theorem ba_slot_init : Slot "bytearray" "__init__" "bytearray.__init__" :=
  .of (owner := "bytearray") (n := "__init__") (by rw [typeLookup_type, builtinLookup_eq_fast]; kernel_rfl) (by decide +kernel) (by decide +kernel) (by decide +kernel)
    (by first | exact .inl (by decide +kernel) | exact .inr (by decide +kernel)) ba_sub
theorem ba_slot_extend : Slot "bytearray" "extend" "bytearray.extend" :=
  .of (owner := "bytearray") (n := "extend") (by rw [typeLookup_type, builtinLookup_eq_fast]; kernel_rfl) (by decide +kernel) (by decide +kernel) (by decide +kernel)
    (by first | exact .inl (by decide +kernel) | exact .inr (by decide +kernel)) ba_sub
theorem ba_called : TypeCalled "bytearray" "bytearray.__new__" "bytearray.__init__" :=
  ⟨by decide +kernel, by decide +kernel, ⟨_, _, ba_mro⟩, madeBy_type ba_mro ba_lookup_new (by decide +kernel), by decide +kernel, ba_sub, ba_slot_init⟩
theorem ba_typeCall0 : checkTypeCall "bytearray" ⟨[], []⟩ = pure () := by kernel_rfl
theorem ba_typeCall1 (a : Value) : checkTypeCall "bytearray" ⟨[a], []⟩ = pure () := by kernel_rfl
theorem ba_newCall0 : checkBuiltinCall "bytearray.__new__" ⟨[.type "bytearray"], []⟩ = pure () := by kernel_rfl
theorem ba_newCall1 (a : Value) : checkBuiltinCall "bytearray.__new__" ⟨[.type "bytearray", a], []⟩ = pure () := by kernel_rfl
theorem ba_entry_new : entryFor table "bytearray.__new__" = some Builtin.«list.__new__» :=
  entryFor_alias (id' := "list.__new__") (by kernel_rfl) (by first | rfl | decide +kernel) (by decide +kernel) (by kernel_rfl)
theorem ba_entry_init : entryFor table "bytearray.__init__" = some Builtin.«bytearray.__init__» := by first | exact entryFor_of_fast (by kernel_rfl) | exact entryFor_of_tree (by kernel_rfl)
theorem ba_entry_extend : entryFor table "bytearray.extend" = some Builtin.«bytearray.extend» := by first | exact entryFor_of_fast (by kernel_rfl) | exact entryFor_of_tree (by kernel_rfl)
theorem ba_plain_new : plainId "bytearray.__new__" = true := by decide +kernel
theorem ba_plain_init : plainId "bytearray.__init__" = true := by decide +kernel
theorem ba_plain_extend : plainId "bytearray.extend" = true := by decide +kernel
theorem ba_args_init0 (a : Value) : argsOk "bytearray.__init__" ⟨[a], []⟩ := by unfold argsOk; kernel_rfl
theorem ba_args_init1 (a b : Value) : argsOk "bytearray.__init__" ⟨[a, b], []⟩ := by unfold argsOk; kernel_rfl
theorem ba_args_extend (a b : Value) : argsOk "bytearray.extend" ⟨[a, b], []⟩ := by unfold argsOk; kernel_rfl
theorem ba_bind0 : Builtin.Bytes.bindOptional "bytearray.__init__" "bytearray" ["source", "encoding", "errors"] [] [] = pure [none, none, none] := by kernel_rfl
theorem ba_bind1 (v : Value) : Builtin.Bytes.bindOptional "bytearray.__init__" "bytearray" ["source", "encoding", "errors"] [v] [] = pure [some v, none, none] := by kernel_rfl
theorem ba_look_release : typeLookup (.type "bytearray") "__release_buffer__" = pure (some (.builtin "bytearray.__release_buffer__")) := by rw [typeLookup_type, builtinLookup_eq_fast]; kernel_rfl
theorem ba_look_buffer : typeLookup (.type "bytearray") "__buffer__" = pure (some (.builtin "bytearray.__buffer__")) := by rw [typeLookup_type, builtinLookup_eq_fast]; kernel_rfl
theorem ba_no_bytes : typeLookup (.type "bytearray") "__bytes__" = pure none := by rw [typeLookup_type, builtinLookup_eq_fast]; kernel_rfl
theorem ba_no_index : typeLookup (.type "bytearray") "__index__" = pure none := by rw [typeLookup_type, builtinLookup_eq_fast]; kernel_rfl
theorem by_no_index : typeLookup (.type "bytes") "__index__" = pure none := by rw [typeLookup_type, builtinLookup_eq_fast]; kernel_rfl

noncomputable def baObj (b : List UInt8) : Obj := { cls := .type "bytearray", data := .bytearray b.toArray }
theorem noGuard_ids {id : String} {args : Args} (h : (Code.builtin id args).isGuard = false) : guardIds.contains id = false := h

section
variable {prog : Program} {w : World} {M : Model} {A : Around} {E : Value → Shared → Prop} {s : Shared} {S : Addr} {b : List UInt8}
theorem ba_type (h : s.heap.get? S = some (baObj b)) : s.TypeIs (.ref S) "bytearray" := ⟨_, h, rfl⟩
/-- no code of the stack holds the bytearray -/
theorem wpB_exported {self : Value} {Q : Bool → Shared → Prop} (hg : A.guards = some []) (h : Q false s) : wpB M A (Bytes.exported self) Q E s := fun Γ p hΓ hn => by
  unfold Bytes.exported
  rw [Sem.wp_bind']
  show Q (((Γ.code, p) :: Γ.below).any _) s
  have hz : guardsOf ((Γ.code, p) :: Γ.below) = [] := by
    rw [guardsOf_cons]
    exact hΓ.2.2.2.1 [] hg
  have e : ∀ x ∈ ((Γ.code, p) :: Γ.below), x.1.isGuard = false ∧ isDec x.1 = false := by
    intro x hx
    refine ⟨?_, ?_⟩
    · cases hgx : x.1.isGuard with
      | false => rfl
      | true =>
        have : x.1 ∈ guardsOf ((Γ.code, p) :: Γ.below) := List.mem_filter.mpr ⟨List.mem_map_of_mem hx, hgx⟩
        rw [hz] at this
        cases this
    · rcases List.mem_cons.mp hx with rfl | hx
      · exact hn.1
      · exact hn.2 x hx
  have key : ∀ l : List (Code × Pos), (∀ x ∈ l, x.1.isGuard = false ∧ isDec x.1 = false) → ∀ f : Code × Pos → Bool, (∀ c q, c.isGuard = false → isDec c = false → f (c, q) = false) → l.any f = false := by
    intro l hl f hf
    rw [List.any_eq_false]
    intro x hx
    rw [hf x.1 x.2 (hl x hx).1 (hl x hx).2]
    exact Bool.false_ne_true
  rw [key _ e _ ?_]
  · exact h
  · intro c q h1 h2
    cases c with
    | builtin id args =>
      have g : ∀ k : String, guardIds.contains k = true → id ≠ k := fun k hk e => by
        have h3 := noGuard_ids h1
        rw [e, hk] at h3
        cases h3
      obtain ⟨pos, kw⟩ := args
      have h3 : Builtin.Bytes.decodersThatHold.contains id = false := h2
      unfold Builtin.Bytes.exported.match_1
      refine (dif_neg (g "bytearray.__contains__" (by decide +kernel))).trans ?_
      refine (dif_neg (g "bytearray.__mod__" (by decide +kernel))).trans ?_
      refine (dif_neg (g "bytearray.__rmod__" (by decide +kernel))).trans ?_
      refine (dif_neg (g "_struct.pack_into.held" (by decide +kernel))).trans ?_
      refine (dif_neg (g "bytearray.find.held" (by decide +kernel))).trans ?_
      cases pos with
      | nil => rfl
      | cons v r =>
        show (_ && Builtin.Bytes.decodersThatHold.contains id) = false
        rw [h3, Bool.and_false]
    | _ => rfl

theorem if_no {α : Type} {c : Bool} {a b : Sem α} {Q : α → Shared → Prop} (hc : c = false) (h : wpB M A b Q E s) : wpB M A (if c = true then a else b) Q E s := by
  subst hc; exact h
theorem if_yes {α : Type} {c : Bool} {a b : Sem α} {Q : α → Shared → Prop} (hc : c = true) (h : wpB M A a Q E s) : wpB M A (if c = true then a else b) Q E s := by
  subst hc; exact h
theorem ifA_no {α : Type} {c : Bool} {a b : Sem α} {Q : α → Shared → Prop} (hc : c = false) (h : wpAny M A b Q E s) : wpAny M A (if c = true then a else b) Q E s := by
  subst hc; exact h
theorem ba_owner_new : ("bytearray.__new__".splitOn ".__new__").headD "" = "bytearray" := by rw [split_bytearray]; rfl
theorem ba_new {args : List Value} {Q₁ : Value → Shared → Prop} (hc : checkBuiltinCall "bytearray.__new__" ⟨.type "bytearray" :: args, []⟩ = pure ())
    (h : Q₁ (.ref s.heap.objs.size) { s with heap := s.heap.push (baObj []) }) :
    codeAny (model prog w) A (.call (.builtin "bytearray.__new__") ⟨.type "bytearray" :: args, []⟩) (wants Q₁ E) s := by
  refine codeAny_of_tree ?_
  show wpAny _ A.in1 (do checkBuiltinCall "bytearray.__new__" ⟨.type "bytearray" :: args, []⟩; again (.builtin "bytearray.__new__" ⟨.type "bytearray" :: args, []⟩)) _ _ s
  refine wpAny_bind (wpAny_of_eq hc (wpAny_pure ⟨plainId_quiet ba_plain_new _, codeAny_builtin_stack ba_entry_new rfl fun p st => ?_⟩))
  rw [Around.under_plainId ba_plain_new _]
  have hsub := ba_sub
  have hown := ba_owner_new
  obtain ⟨hp, g, d, tk, os⟩ := s
  simp only [hown]
  wp_walk
  exact h
theorem wpAny_ownRel {Q : Bool → Shared → Prop} (h : s.heap.get? S = some (baObj b)) (hq : Q false s) : wpAny M A (Builtin.Bytes.ownRelease (.ref S)) Q E s := by
  unfold Builtin.Bytes.ownRelease Builtin.Bytes.slotIsOwn
  refine wpAny_bind (wpAny_bind (wpAny_specialOf (ba_type h) ba_look_release ?_))
  dsimp only
  have key : ∀ x : String, x = "bytearray" → ∀ Q' : Bool → Shared → Prop, Q' true s → wpAny M A (isInstance (.ref S) (.type x)) Q' E s := fun x hx Q' hq' => by
    rw [hx]
    exact wpAny_isInstance (ba_type h) ba_sub hq'
  refine ifA_no (by decide +kernel) ?_
  exact key _ (by decide +kernel) _ (wpAny_pure hq)
theorem wpAny_payload {Q : Array UInt8 → Shared → Prop} (h : s.heap.get? S = some (baObj b)) (hq : Q b.toArray s) : wpAny M A (Bytes.payload (.ref S)) Q E s := by
  unfold Builtin.Bytes.payload Builtin.Bytes.payload?
  refine wpAny_bind (wpAny_bind (wpAny_load h ?_))
  exact wpAny_pure (wpAny_pure hq)
theorem wpAny_exportsOf {Q : Nat → Shared → Prop} (h : s.heap.get? S = some (baObj b)) (hq : Q 0 s) : wpAny M A (Builtin.Bytes.exportsOf (.ref S)) Q E s := by
  unfold Builtin.Bytes.exportsOf
  refine wpAny_bind (wpAny_load h ?_)
  exact wpAny_pure hq
theorem wpAny_baWrite {f : Array UInt8 → Array UInt8} {c : List UInt8} {Q : Unit → Shared → Prop} (h : s.heap.get? S = some (baObj b)) (e : f b.toArray = c.toArray) (hz : c.length ≤ sizeLine)
    (hq : ∀ h', h'.get? S = some (baObj c) → Heap.SameBut S s.heap h' → Q () { s with heap := h' }) : wpAny M A (Builtin.Bytes.write (.ref S) f) Q E s := by
  show wpAny _ _ (updateBytearray S f) _ _ _
  unfold updateBytearray
  refine wpAny_bind (wpAny_load h ?_)
  show wpAny _ _ (update S (Obj.mapBytearray f) >>= fun _ => lookBehind S) _ _ _
  refine wpAny_bind (wpAny_update h ?_)
  have h2 : (s.heap.update S (Obj.mapBytearray f)).get? S = some (baObj c) := by
    have := Heap.get?_update_self (Obj.mapBytearray f) h rfl
    rw [this]
    show some ({ cls := .type "bytearray", data := Data.bytearray (f b.toArray) 0 } : Obj) = _
    rw [e]
    rfl
  refine wpAny_lookBehind h2 ?_ (hq _ h2 (Heap.SameBut.update ..))
  show (if c.toArray.size > sizeLine then some "bytearray:memory" else none) = none
  rw [if_neg]
  rw [List.size_toArray]
  omega
/-- nobody holds it: the look at both -/
theorem wpB_free {Q : Bool → Shared → Prop} (hg : A.guards = some []) (h : s.heap.get? S = some (baObj b)) (hq : Q false s) :
    wpB M A (Bytes.exported (.ref S) <||> (do return (← Builtin.Bytes.exportsOf (.ref S)) > 0)) Q E s := by
  show wpB M A (Bytes.exported (.ref S) >>= fun r => _) Q E s
  refine wpB_bind (wpB_exported hg ?_)
  show wpB M A ((do return decide ((← Builtin.Bytes.exportsOf (.ref S)) > 0)) : Sem Bool) Q E s
  exact wpB_step (wpAny_exportsOf h (wpB_pure hq))
theorem ba_init0 {R : Fin → Shared → Prop} (hg : A.guards = some []) (h : s.heap.get? S = some (baObj b))
    (hq : ∀ h', h'.get? S = some (baObj []) → Heap.SameBut S s.heap h' → R (.done (.ret .none)) { s with heap := h' }) : wpB M A (Builtin.«bytearray.__init__» ⟨[.ref S], []⟩) R E s := by
  unfold Builtin.«bytearray.__init__»
  refine wpB_step (wpAny_ownRel h ?_)
  refine if_no rfl ?_
  refine wpB_step (wpAny_of_eq ba_bind0 ?_)
  refine wpB_step (wpAny_of_eq (a := ()) rfl ?_)
  refine wpB_step (wpAny_of_eq (a := ()) rfl ?_)
  refine wpB_bind (wpB_free hg h ?_)
  refine if_no rfl ?_
  refine wpB_step (wpAny_baWrite (c := []) h rfl (Nat.zero_le _) fun h' h1 h2 => ?_)
  exact wpB_of (wpAny_bind (wpAny_of_eq (a := ()) rfl (wpAny_pure (hq h' h1 h2))))
theorem ba_init1 {R : Fin → Shared → Prop} {c : List UInt8} {t : Tok} (hg : A.guards = some []) (h : s.heap.get? S = some (baObj b)) (hz : c.length ≤ sizeLine)
    (hq : ∀ h', h'.get? S = some (baObj c) → Heap.SameBut S s.heap h' → R (.done (.ret .none)) { s with heap := h' }) : wpB M A (Builtin.«bytearray.__init__» ⟨[.ref S, .bytes c.toArray t], []⟩) R E s := by
  unfold Builtin.«bytearray.__init__»
  refine wpB_step (wpAny_ownRel h ?_)
  refine if_no rfl ?_
  refine wpB_step (wpAny_of_eq (ba_bind1 _) ?_)
  refine wpB_step (wpAny_of_eq (a := ()) rfl ?_)
  refine wpB_step (wpAny_of_eq (a := ()) rfl ?_)
  refine wpB_bind (wpB_free hg h ?_)
  refine if_no rfl ?_
  refine wpB_step (wpAny_baWrite (c := []) h rfl (Nat.zero_le _) fun h' h1 h2 => ?_)
  refine wpB_step (wpAny_of_eq (a := none) rfl ?_)
  refine if_no rfl ?_
  refine wpB_step (wpAny_of_eq (a := ()) rfl ?_)
  refine wpB_step (wpAny_of_eq (a := none) (KBy.special_eq by_no_index) ?_)
  refine if_no rfl ?_
  refine wpB_step (wpAny_of_eq KBy.buffer_eq ?_)
  refine wpB_step (wpAny_rule ?_)
  refine wpB_step (wpAny_baWrite (c := c) h1 rfl hz fun h'' h3 h4 => ?_)
  exact wpB_of (wpAny_bind (wpAny_pure (wpAny_pure (hq h'' h3 (h2.trans h4)))))
theorem wpB_special {name : Str} {id : String} {T : String} {self : Value} {args : List Value} {Q : Option Value → Shared → Prop} (hT : s.TypeIs self T) (h : Slot T name id)
    (hc : wpB M A (call (.builtin id) (self :: args)) (fun v => Q (some v)) E s) : wpB M A (callSpecial? self name args) Q E s := by
  simp only [callSpecial?]
  refine wpB_step (wpAny_specialOf hT h.lookup ?_)
  simp only [h.bind]
  refine wpB_holding (wpB_step (wpAny_pure (wpB_bind (wpB_mono hc (fun v s' h' => wpB_pure h') fun _ _ h' => h'))))
/-- a type's call, its init in our logic -/
theorem ba_call {args : List Value} {Q : Value → Shared → Prop} (ht : checkTypeCall "bytearray" ⟨args, []⟩ = pure ()) (hn : checkBuiltinCall "bytearray.__new__" ⟨.type "bytearray" :: args, []⟩ = pure ())
    (ha : ∀ v, argsOk "bytearray.__init__" ⟨v :: args, []⟩)
    (hi : ∀ S (s₁ : Shared) (R : Fin → Shared → Prop), s₁.heap.get? S = some (baObj []) → (∀ h', h'.get? S = some (baObj b) → Heap.SameBut S s₁.heap h' → R (.done (.ret .none)) { s₁ with heap := h' }) → wpB (model prog w) A.in1.in1 (Builtin.«bytearray.__init__» ⟨.ref S :: args, []⟩) R E s₁)
    (hq : ∀ h', h'.get? s.heap.objs.size = some (baObj b) → (∀ b o, s.heap.get? b = some o → h'.get? b = some o) → Q (.ref s.heap.objs.size) { s with heap := h' }) :
    wpB (model prog w) A (call (.type "bytearray") args) Q E s := by
  obtain ⟨c, tl, hmro⟩ := ba_called.mro
  refine wpB_call (codeB_of_tree (wpB_of ?_))
  show wpAny _ _ (callAny (.type "bytearray") _) _ _ _
  refine wpAny_pure ⟨Code.quiet_builtin _ (by decide +kernel), rfl, codeB_builtin F.entry_type_call ?_⟩
  rw [Around.under_plain (weight_type_call_type "bytearray" args []) rfl]
  unfold Builtin.«type.__call__»
  dsimp only
  refine if_no (by decide +kernel) ?_
  refine if_no ba_called.canCreate ?_
  refine wpB_step (wpAny_of_eq ht ?_)
  refine wpB_step (wpAny_of_eq hmro ?_)
  refine if_no rfl ?_
  refine wpB_step (wpAny_of_eq ba_called.made ?_)
  dsimp only
  refine wpB_step (wpAny_pure ?_)
  refine wpB_step (wpAny_holding (wpAny_call (codeAny_mono (ba_new (Q₁ := fun v s₁ => v = .ref s.heap.objs.size ∧ s₁ = { s with heap := s.heap.push (baObj []) }) (E := fun _ _ => False) hn ⟨rfl, rfl⟩) fun r s₁ hr => ?_)))
  cases r with
  | error e => exact hr.elim
  | ok fl =>
    cases fl with
    | ret obj =>
      obtain ⟨rfl, rfl⟩ := hr
      have h1 : ({ s with heap := s.heap.push (baObj []) } : Shared).heap.get? s.heap.objs.size = some (baObj []) := Heap.get?_push_size _ rfl
      refine wpB_step (wpAny_isInstance (ba_type h1) ba_called.sub ?_)
      refine if_no rfl ?_
      refine wpB_bind (wpB_holding (wpB_special (ba_type h1) ba_slot_init ?_))
      refine wpB_call (codeB_of_tree (wpB_step ?_))
      refine ba_slot_init.check _ _ _ _ _ _ _ _ (ba_type h1) (ha _) ?_
      refine wpB_pure ⟨plainId_quiet ba_plain_init _, rfl, codeB_builtin ba_entry_init ?_⟩
      rw [Around.under_plainId ba_plain_init _]
      refine wpB_mono (hi _ _ (fun fin s' => fin = .done (.ret .none) ∧ ∃ h', h'.get? s.heap.objs.size = some (baObj b) ∧ Heap.SameBut s.heap.objs.size (s.heap.push (baObj [])) h' ∧ s' = { s with heap := h' }) h1 fun h' a1 a2 => ⟨rfl, h', a1, a2, rfl⟩) ?_ ?_
      · rintro fin s' ⟨rfl, h', a1, a2, rfl⟩
        refine if_no (by decide +kernel) ?_
        refine wpB_pure ?_
        exact hq h' a1 fun b' o e => a2.extBut b' o (Nat.ne_of_lt (Heap.lt_size e)) (Heap.get?_push_of_some _ e)
      · intro e s' he
        exact he
    | _ => exact hr.elim
theorem ba_call0 {Q : Value → Shared → Prop} (hg : A.guards = some []) (hq : ∀ h', h'.get? s.heap.objs.size = some (baObj []) → (∀ b o, s.heap.get? b = some o → h'.get? b = some o) → Q (.ref s.heap.objs.size) { s with heap := h' }) :
    wpB (model prog w) A (call (.type "bytearray") []) Q E s :=
  ba_call ba_typeCall0 ba_newCall0 ba_args_init0 (fun S s₁ R h k => ba_init0 hg h k) hq
theorem ba_call1 {Q : Value → Shared → Prop} {c : List UInt8} {t : Tok} (hg : A.guards = some []) (hz : c.length ≤ sizeLine) (hq : ∀ h', h'.get? s.heap.objs.size = some (baObj c) → (∀ b o, s.heap.get? b = some o → h'.get? b = some o) → Q (.ref s.heap.objs.size) { s with heap := h' }) :
    wpB (model prog w) A (call (.type "bytearray") [.bytes c.toArray t]) Q E s :=
  ba_call (ba_typeCall1 _) (ba_newCall1 _) (fun v => ba_args_init1 v _) (fun S s₁ R h k => ba_init1 hg h hz k) hq

/-! ### extend; bytes of it -/
theorem ba_take {id : String} {c : Array UInt8} {t : Tok} : Builtin.Bytes.takeBufferQuiet? id (.bytes c t) 0 = pure (some (c, none)) := by
  unfold Builtin.Bytes.takeBufferQuiet? Builtin.Bytes.takeBuffer?
  rw [KBy.special_eq KBy.look_buffer, KBy.own_buffer, show ((0 : Int) == Builtin.Bytes.fullReadOnly) = false from by decide, KBy.buffer_eq]
  kernel_rfl
theorem ba_extend {c : List UInt8} {t : Tok} {Q : Value → Shared → Prop} (hg : A.guards = some []) (h : s.heap.get? S = some (baObj b)) (hz : b.length + c.length ≤ sizeLine)
    (hq : ∀ h', h'.get? S = some (baObj (b ++ c)) → Heap.SameBut S s.heap h' → Q .none { s with heap := h' }) :
    wpB (model prog w) A (call (.builtin "bytearray.extend") [.ref S, .bytes c.toArray t]) Q E s := by
  refine wpB_call (codeB_of_tree (wpB_step (m := checkBuiltinCall "bytearray.extend" ⟨[.ref S, .bytes c.toArray t], []⟩) ?_))
  refine ba_slot_extend.check _ _ _ _ _ _ _ _ (ba_type h) (ba_args_extend _ _) ?_
  refine wpB_pure ⟨plainId_quiet ba_plain_extend _, rfl, codeB_builtin ba_entry_extend ?_⟩
  rw [Around.under_plainId ba_plain_extend _]
  unfold Builtin.«bytearray.extend»
  refine wpB_step (wpAny_of_eq (a := (.ref S, .bytes c.toArray t)) rfl ?_)
  dsimp only
  refine wpB_step (wpAny_of_eq (KBy.special_eq KBy.look_buffer) ?_)
  refine if_yes rfl ?_
  refine wpB_step (wpAny_rule (wpB_step (wpAny_payload h ?_)))
  refine wpB_step (wpAny_of_eq ba_take ?_)
  dsimp only
  refine if_yes rfl ?_
  have put : ∀ {s₁ : Shared}, s₁ = s → wpB (model prog w) A.in1 (do Builtin.Bytes.write (.ref S) (· ++ c.toArray); ret Value.none) (fun (fin : PySem.Fin) s' => match fin with | .done f => (match (Except.ok f : Result) with | .ok (.ret v) => Q v s' | .ok _ => False | .error e => E e s') | .again c' => c'.quiet = true ∧ isDec c' = false ∧ codeB (model prog w) A c' (fun r s' => match r with | .ok (.ret v) => Q v s' | .ok _ => False | .error e => E e s') s') E s₁ := by
    rintro s₁ rfl
    refine wpB_step (wpAny_baWrite (c := b ++ c) h (by simp) (by rw [List.length_append]; exact hz) fun h' h1 h2 => ?_)
    exact wpB_pure (hq h' h1 h2)
  show wpB (model prog w) A.in1 (if (!c.toArray.isEmpty) = true then _ else _) _ _ _
  cases hc : c.toArray.isEmpty with
  | true => exact if_no rfl (put rfl)
  | false =>
    refine if_yes rfl ?_
    refine wpB_bind ?_
    unfold Builtin.Bytes.checkResize
    refine wpB_bind (wpB_free hg h ?_)
    exact if_no rfl (wpB_pure (put rfl))
end
end Mine

/-! BC -/
namespace Mine
open PySem PySem.W PyProof.Rows PySem.Spec PySem.Calls
theorem bb_look_bytes : typeLookup (.type "bytes") "__bytes__" = pure (some (.builtin "bytes.__bytes__")) := by rw [typeLookup_type, builtinLookup_eq_fast]; kernel_rfl
theorem ba_plainAttrs : PlainAttrs "bytearray" :=
  ⟨⟨"bytearray.__getattribute__", by rw [typeLookup_type, builtinLookup_eq_fast]; kernel_rfl, by decide +kernel⟩, by rw [typeLookup_type, builtinLookup_eq_fast]; kernel_rfl⟩
theorem ba_extend_type : typeOf (.builtin "bytearray.extend") = pure (.type "method_descriptor") := by show builtinType _ = _; rw [builtinType_eq_fast]; kernel_rfl
section
variable {prog : Program} {w : World} {M : Model} {A : Around} {E : Value → Shared → Prop} {s : Shared} {S : Addr} {b : List UInt8}
/-- bytes(b) of bytes is b itself -/
theorem bytes_self {c : Array UInt8} {t : Tok} {Q : Value → Shared → Prop} (h : Q (.bytes c t) s) : wpAny (model prog w) A (call (.type "bytes") [.bytes c t]) Q E s := by
  refine callType_codes (Q₁ := fun obj s₁ => s₁.TypeIs obj "bytes" ∧ Q obj s₁) F.bm_called (F.bm_typeCall _) F.entry_object_init ?_ fun obj s₁ h₁ =>
    ⟨h₁.1, F.args_object_init_2 obj _, object_init_meets F.bm_called.init.lookup F.bm_called.made (by decide) prog w A.in1 _ s₁ ⟨h₁.1, rfl, h₁.2⟩⟩
  refine codeAny_of_tree ?_
  show wpAny _ A.in1.in1 (do checkBuiltinCall "bytes.__new__" ⟨[.type "bytes", .bytes c t], []⟩; again (.builtin "bytes.__new__" ⟨[.type "bytes", .bytes c t], []⟩)) _ _ s
  refine wpAny_bind (wpAny_of_eq (F.bm_newCall _) (wpAny_pure ⟨plainId_quiet F.bm_plain _, codeAny_builtin F.bm_entry ?_⟩))
  rw [Around.under_plainId F.bm_plain _]
  unfold Builtin.«bytes.__new__»
  refine wpAny_bind (wpAny_of_eq (a := true) rfl ?_)
  refine bm_if_false rfl ?_
  refine wpAny_bind (wpAny_of_eq F.bm_sub ?_)
  refine bm_if_false rfl ?_
  refine wpAny_bind (wpAny_of_eq (F.bm_bind _) ?_)
  refine wpAny_bind (wpAny_of_eq (a := ()) rfl ?_)
  refine wpAny_bind (wpAny_of_eq (a := ()) rfl ?_)
  refine bm_if_false rfl ?_
  refine wpAny_bind (wpAny_of_eq (KBy.special_eq bb_look_bytes) ?_)
  dsimp only
  refine wpAny_bind (wpAny_rule ?_)
  refine wpAny_bind (wpAny_typeOf (PySem.W.typeIs_bytes _ _ _) ?_)
  refine bm_if_true (by decide) ?_
  show wpAny _ _ (if (Value.type "bytes" == Value.type "bytes") = true then _ else _) _ _ _
  refine bm_if_true (by decide) ?_
  exact wpAny_pure ⟨PySem.W.typeIs_bytes _ _ _, h⟩
theorem wpAny_baBuffer {id : String} {Q : Option (Array UInt8) → Shared → Prop} (h : s.heap.get? S = some (baObj b)) (hq : Q (some b.toArray) s) : wpAny M A (Builtin.Bytes.buffer? id (.ref S) true) Q E s := by
  unfold Builtin.Bytes.buffer?
  refine wpAny_bind (wpAny_specialOf (ba_type h) ba_look_buffer ?_)
  (try dsimp only)
  have key : ∀ x : String, x = "bytearray" → ∀ Q' : Bool → Shared → Prop, Q' true s → wpAny M A (isInstance (.ref S) (.type x)) Q' E s := fun x hx Q' hq' => by
    rw [hx]
    exact wpAny_isInstance (ba_type h) ba_sub hq'
  refine wpAny_bind ?_
  unfold Builtin.Bytes.slotIsOwn
  refine wpAny_bind (wpAny_specialOf (ba_type h) ba_look_buffer ?_)
  try dsimp only
  refine ifA_no (by decide +kernel) ?_
  refine key _ (by decide +kernel) _ ?_
  refine ifA_no rfl ?_
  refine wpAny_bind (wpAny_specialOf (ba_type h) ba_look_buffer ?_)
  (try dsimp only)
  refine wpAny_bind (wpAny_ownRel h ?_)
  refine ifA_no rfl ?_
  exact wpAny_bind (wpAny_payload h (wpAny_pure hq))
theorem bytes_ba {Q : Value → Shared → Prop} (h : s.heap.get? S = some (baObj b)) (hz : b.length ≤ sizeLine) (hq : ∀ t k, Q (.bytes b.toArray t) { s with toks := k }) : wpAny (model prog w) A (call (.type "bytes") [.ref S]) Q E s := by
  refine callType_codes (Q₁ := fun obj s₁ => s₁.TypeIs obj "bytes" ∧ Q obj s₁) F.bm_called (F.bm_typeCall _) F.entry_object_init ?_ fun obj s₁ h₁ =>
    ⟨h₁.1, F.args_object_init_2 obj _, object_init_meets F.bm_called.init.lookup F.bm_called.made (by decide) prog w A.in1 _ s₁ ⟨h₁.1, rfl, h₁.2⟩⟩
  refine codeAny_of_tree ?_
  show wpAny _ A.in1.in1 (do checkBuiltinCall "bytes.__new__" ⟨[.type "bytes", .ref S], []⟩; again (.builtin "bytes.__new__" ⟨[.type "bytes", .ref S], []⟩)) _ _ s
  refine wpAny_bind (wpAny_of_eq (F.bm_newCall _) (wpAny_pure ⟨plainId_quiet F.bm_plain _, codeAny_builtin F.bm_entry ?_⟩))
  rw [Around.under_plainId F.bm_plain _]
  unfold Builtin.«bytes.__new__»
  refine wpAny_bind (wpAny_of_eq (a := true) rfl ?_)
  refine bm_if_false rfl ?_
  refine wpAny_bind (wpAny_of_eq F.bm_sub ?_)
  refine bm_if_false rfl ?_
  refine wpAny_bind (wpAny_of_eq (F.bm_bind _) ?_)
  refine wpAny_bind (wpAny_of_eq (a := ()) rfl ?_)
  refine wpAny_bind (wpAny_of_eq (a := ()) rfl ?_)
  refine bm_if_false rfl ?_
  refine wpAny_bind (wpAny_specialOf (ba_type h) ba_no_bytes ?_)
  refine wpAny_bind (wpAny_bind ?_)
  show wpAny _ _ (load S >>= _) _ _ _
  refine wpAny_bind (wpAny_load h ?_)
  refine wpAny_pure (wpAny_pure ?_)
  refine bm_if_false rfl ?_
  refine wpAny_bind (wpAny_specialOf (ba_type h) ba_no_index ?_)
  refine bm_if_true rfl ?_
  show wpAny _ _ (Builtin.Bytes.buffer? "bytes.__new__" (.ref S) true >>= _) _ _ _
  refine wpAny_bind (wpAny_baBuffer h ?_)
  dsimp only
  refine wpAny_bind (wpAny_rule ?_)
  refine wpAny_bind (wpAny_mkBytes ?_ (by rw [List.size_toArray]; exact hz))
  show wpAny _ _ (if (Value.type "bytes" == Value.type "bytes") = true then _ else _) _ _ _
  refine bm_if_true (by decide) ?_
  exact wpAny_pure ⟨PySem.W.typeIs_bytes _ _ _, hq _ _⟩
theorem ba_extend_get {pl : Sem Bool} {Q : Value × List Value → Shared → Prop} (h : s.heap.get? S = some (baObj b)) (hq : Q (.builtin "bytearray.extend", [.ref S]) s) : wpAny (model prog w) A (getMethod (.ref S) "extend" pl) Q E s :=
  getMethod_builtin (ba_type h) ba_plainAttrs ba_slot_extend ba_extend_type (fun a e => by cases e; exact ⟨_, h, rfl⟩) hq
end
/-! ### calls in our logic -/
section
variable {prog : Program} {w : World} {A : Around} {E : Value → Shared → Prop} {s : Shared} {env : Env} {K : Frag}
theorem wpB_callWith {P : Heap → Prop} {pos : Pos} {f : Value} {first : List Value} {args : List (Bool × Sem Value)} {Q : Value → Shared → Prop} (hplain : args.any (·.1) = false)
    (hk : ∀ h, P h → ∃ k, (k = Keeper.frame ∨ k = Keeper.machine ∨ k = Keeper.boundFrame) ∧ Looks (model prog w) h (keeperOf f) k)
    (h : wpAny (model prog w) A (evalArgs f true args []) (fun a s₁ => P s₁.heap ∧ wpB (model prog w) A (call f (first ++ a.pos) a.kw) Q E s₁) E s) : wpB (model prog w) A (callWith pos f first args []) Q E s := by
  unfold callWith
  refine wpB_step (wpAny_holding (wpAny_mono h (fun a s₁ h₁ => wpB_step (wpAny_standAt ?_)) fun _ _ x => x))
  obtain ⟨k, hk', L⟩ := hk _ h₁.1
  simp only [hplain, List.any_nil, Bool.or_false]
  refine wpB_step (L.here ?_)
  have tail : ∀ {t : Sem Value}, wpB (model prog w) A t Q E s₁ → wpB (model prog w) A (t >>= fun r => holding [r] point >>= fun _ => pure r) Q E s₁ :=
    fun ht => wpB_bind (wpB_mono ht (fun r s₂ hr => wpB_of (wpAny_bind (wpAny_holding (wpAny_point (wpAny_pure hr))))) fun _ _ x => x)
  have marked (mk : Value) : wpB (model prog w) A (callMarked mk f (first ++ a.pos) a.kw) Q E s₁ := by unfold callMarked; exact wpB_keep h₁.2
  rcases hk' with rfl | rfl | rfl <;> dsimp only <;> first | exact tail h₁.2 | (split <;> first | exact tail h₁.2 | exact tail (marked _))
theorem wpB_callK {pos : Pos} {f : Value} {first : List Value} {e : Expr} {rest : List Expr} {Q : Value → Shared → Prop} (hk : keepIn K f = true)
    (h : wpAny (model prog w) A (spliced (backTo pos (starEach (e :: rest) env))) (fun vs s₁ => K.In s₁.heap ∧ wpB (model prog w) A (call f (first ++ vs)) Q E s₁) E s)
    (he : starEach (e :: rest) env = (false, eval e env) :: starEach rest env) (hplain : (backTo pos (starEach rest env)).any (·.1) = false) :
    wpB (model prog w) A (callWith pos f first (backTo pos (starEach (e :: rest) env)) []) Q E s := by
  rw [he] at h ⊢
  exact wpB_callWith (by show (false || (backTo pos (starEach rest env)).any (·.1)) = false; rw [hplain]; rfl) (keeps_K hk) (evalArgs_plain h)
theorem wpB_callK0 {pos : Pos} {f : Value} {first : List Value} {Q : Value → Shared → Prop} (X : K.In s.heap) (hk : keepIn K f = true) (h : wpB (model prog w) A (call f (first ++ [])) Q E s) :
    wpB (model prog w) A (callWith pos f first (backTo pos (starEach [] env)) []) Q E s :=
  wpB_callWith rfl (keeps_K hk) (evalArgs_nil3 ⟨X, h⟩)
theorem wpB_callP {pos : Pos} {f : Value} {first : List Value} {e : Expr} {rest : List Expr} {Q : Value → Shared → Prop} (hk : keeperOf f = pure Keeper.machine)
    (h : wpAny (model prog w) A (spliced (backTo pos (starEach (e :: rest) env))) (fun vs s₁ => wpB (model prog w) A (call f (first ++ vs)) Q E s₁) E s)
    (he : starEach (e :: rest) env = (false, eval e env) :: starEach rest env) (hplain : (backTo pos (starEach rest env)).any (·.1) = false) :
    wpB (model prog w) A (callWith pos f first (backTo pos (starEach (e :: rest) env)) []) Q E s := by
  rw [he] at h ⊢
  exact wpB_callWith (P := fun _ => True) (by show (false || (backTo pos (starEach rest env)).any (·.1)) = false; rw [hplain]; rfl) (fun _ _ => ⟨.machine, .inr (.inl rfl), Looks.of_pure hk⟩) (evalArgs_plain (wpAny_mono h (fun _ _ x => ⟨trivial, x⟩) fun _ _ x => x))
theorem wpB_callP0 {pos : Pos} {f : Value} {first : List Value} {Q : Value → Shared → Prop} (hk : keeperOf f = pure Keeper.machine) (h : wpB (model prog w) A (call f (first ++ [])) Q E s) :
    wpB (model prog w) A (callWith pos f first (backTo pos (starEach [] env)) []) Q E s :=
  wpB_callWith (P := fun _ => True) rfl (fun _ _ => ⟨.machine, .inr (.inl rfl), Looks.of_pure hk⟩) (evalArgs_nil3 ⟨trivial, h⟩)
theorem wpB_Call_Attr {o : Expr} {name : Str} {apos pos : Pos} {args : List Expr} {Q : Value → Shared → Prop}
    (hbase : attributeBase o name env (eval o env) = eval o env)
    (hfew : ((backTo pos (starEach args env)).all (fun x => !x.1) && (backToKw pos (keywordEach [] env)).all (fun x => x.1.isSome) && decide (args.length + ([] : List Keyword).length + (if ([] : List Keyword).isEmpty then 0 else 1) < 30)) = true)
    (hline : (apos.endLine == pos.line) = true)
    (h : wpAny (model prog w) A (eval o env) (fun ov s₁ => wpAny (model prog w) A (getMethod ov name (do return (← importBound o env).getD true)) (fun r s₂ => wpB (model prog w) A (callWith pos r.1 r.2 (backTo pos (starEach args env)) []) Q E s₂) E s₁) E s) :
    wpB (model prog w) A (eval (.Call (.Attribute o name apos) args [] pos) env) Q E s := by
  have e1 : eval (.Call (.Attribute o name apos) args [] pos) env = (do
    let ov ← attributeBase o name env (eval o env)
    standAt apos.atName
    methodCall o name apos pos env ov (args.length + ([] : List Keyword).length) (backTo pos (starEach args env)) (backToKw pos (keywordEach [] env))) := rfl
  rw [e1, hbase]
  refine wpB_step (wpAny_mono h (fun ov s₁ h₁ => ?_) fun _ _ e => e)
  refine wpB_step (wpAny_standAt ?_)
  have hform : methodCallForm (args.length + ([] : List Keyword).length) (backTo pos (starEach args env)) (backToKw pos (keywordEach [] env)) = true := hfew
  have hpos : methodCallPos true o env apos pos = pure pos := by unfold methodCallPos; simp [hline]
  unfold methodCall
  rw [hform]
  refine wpB_step (wpAny_holding (wpAny_mono h₁ (fun r s₂ h₂ => ?_) fun _ _ e => e))
  exact wpB_step (wpAny_of_eq hpos h₂)
end
end Mine

/-! BHead -/
namespace Mine
open PySem PySem.W PyProof.Rows PySem.Spec PySem.Calls

/-! ## the head, over a walk in our logic: the law's call stands on the claim's caller alone -/
theorem nod_caller : NoD (⟨.builtin "claim.caller" {}, none, none, [], none⟩ : PySem.Ctx) := ⟨by decide +kernel, fun x hx => nomatch hx⟩
theorem thread_endsB {prog : Program} {w : World} {t : Sem PySem.Fin} {s : Shared} {R : Result → Shared → Prop} (hreg : s.asleep)
    (h : wpB (model prog w) callerA t (fun fin s' => ∃ f, fin = .done f ∧ (R (.ok f) s' ∧ leftWithCleanup s'.gens = false)) (fun e s' => R (.error e) s' ∧ leftWithCleanup s'.gens = false) s) :
    ∃ n r s' s'', runN (denote table) prog w n s ⟨t, .builtin "claim.caller" {}, default, []⟩ = .halted (outcomeOf r) s' ∧
      schedN (denote table) prog w n (.single s ⟨t, .builtin "claim.caller" {}, default, []⟩) = .halted (outcomeOf r) s' ∧ s'.forget = s''.forget ∧ R r s'' := by
  have h1 : Sem.wp (model prog w) ⟨.builtin "claim.caller" {}, none, none, [], none⟩ t (Sem.finPost (model prog w) ⟨.builtin "claim.caller" {}, none, none, [], none⟩ fun r s' => R r s' ∧ leftWithCleanup s'.gens = false)
      (fun e _ s' => R (.error e) s' ∧ leftWithCleanup s'.gens = false) default s := by
    refine Sem.wp_mono _ _ t (fun fin p' s' h' => ?_) (fun _ _ _ h' => h') default s (h _ default caller_in nod_caller)
    obtain ⟨f, rfl, hf⟩ := h'
    exact hf
  obtain ⟨n, r, s₁, s₂, hs, hn, hfo, hR⟩ := wp_halts_full (M := model prog w) (R := R) hreg h1
  exact ⟨n, r, s₂, s₁, hn, hs, hfo, hR⟩

theorem callFromB {c : ClaimW} {tree : List Value → Sem PySem.Fin} {w : World} {s : Shared} {free : Addr → Prop} {gens : Prop} {kept : Heap → Prop} (hz : s.asleep) (hgens : s.gens = #[])
    (hspec : ∀ args, c.pre args = true → WData.layableAll args = true →
      ∀ ord : List DictEntry → List DictEntry, (∀ l, (ord l).Perm l) →
      ∃ vs s₁, layAllW c.records (classAt s.heap) w.params ord args s = some (vs, s₁) ∧
        wpB (model c.prog w) callerA (tree vs) (fun fin s' => ∃ f, fin = .done f ∧ (c.Ends s args vs s₁ (.ok f) s' ∧ s'.os = s.os ∧ AllBare s'.gens ∧ kept s'.heap))
          (fun e s' => c.Ends s args vs s₁ (.error e) s' ∧ s'.os = s.os ∧ AllBare s'.gens ∧ kept s'.heap) s₁) :
    c.CallFrom (fun vs => ⟨tree vs, .builtin "claim.caller" {}, default, []⟩) w free gens kept s := by
  intro args hpre hlay ord hord
  obtain ⟨vs, s₁, hlaid, hcode⟩ := hspec args hpre hlay ord hord
  have hal := layAllW_rest _ _ _ hlaid
  obtain ⟨k, r, s', s'', hrun, hsched, hfo, hcase, hos, hkp⟩ := thread_endsB (prog := c.prog) (w := w) (t := tree vs) (s := s₁)
    (R := fun r s' => c.Ends s args vs s₁ r s' ∧ s'.os = s.os ∧ kept s'.heap)
    (Shared.asleep_of_life hal.2.2.2 hz)
    (wpB_mono hcode (by
      rintro fin s' ⟨f, e, h1, h2, h3, h4⟩
      exact ⟨f, e, ⟨h1, h2, h4⟩, leftWithCleanup_false_of_bare h3⟩) (by
      rintro e s' ⟨h1, h2, h3, h4⟩
      exact ⟨⟨h1, h2, h4⟩, leftWithCleanup_false_of_bare h3⟩))
  obtain ⟨eh, _, _, eo, _⟩ := Shared.forget_eq hfo
  have hcase := hcase.congr eh
  have hkp : kept s'.heap := by rw [eh]; exact hkp
  rw [← eo] at hos
  have hlife : s'.heap.life = s.heap.life := (runN_life _ _ _ hrun).trans hal.2.2.2
  refine ⟨vs, s₁, hlaid, k, _, s', hsched, ?_, (fun _ i x hx => by rw [hgens] at hx; simp at hx), hkp, by rw [hlife], Shared.rest_eq hos⟩
  rcases hcase with ⟨v, rfl, d1, d2, d3, d4, d5⟩ | ⟨e, ob, cls, rfl, d1, d2, d3, d4, d5⟩
  · exact .inl ⟨v, rfl, d1, d2, d3, fun b o y _ => d4 b o y, d5⟩
  · exact .inr ⟨e, ob, cls, rfl, d1, d2, d3, d4, fun b o y _ => d5 b o y⟩

abbrev WalkB (q : Program) (loose : List Str) (XP : (Str → Option Value) → Heap → Prop) (YP : World → Heap → Prop) (r : RowW) (d : DefRec) (kwd : List (Str × Expr)) : Prop :=
  ∀ (w : World) (s₀ s₁ : Shared) (mg mb : Str → Option Value), Ground q loose r.records XP w s₀ mg mb s₁.heap → YP w s₁.heap → ∀ (a : Addr) (o : Obj) (pm cd doc dV kV : Value), s₁.heap.get? a = some o →
    o.data = .func { docDef d.name d.params d.body d.scope pm cd doc with defaults := dV, kwdefaults := kV } → s₁.heap.CodeRec cd d.name → Dflts mg s₁.heap d.params kwd dV kV → mg d.name = some (.ref a) → s₁.gens = #[] →
    ∀ (args : List WData) (vals : List Value) (as : List Addr), r.claim.pre args = true → WData.layableAll args = true → ReadsAllW r.records (classAt s₀.heap) s₁.heap vals args as → WellAll w.params s₁.heap vals args → (∀ a ∈ as, (a == sysModules) = false) →
      wpB (model r.prog w) callerA (PySem.call (.ref a) vals) (fun v s' => GoodWG r.claim (classAt s₀.heap) (ExcName.means s₀.heap) args s₁ (.ok (.ret v)) s')
        (fun e s' => GoodWG r.claim (classAt s₀.heap) (ExcName.means s₀.heap) args s₁ (.error e) s') s₁

theorem openB {r : RowW} {tree : List Value → Sem PySem.Fin} {q : Program} {loose defs kps : List Str} {writes : Bool} {Xt : Shared → Bool} {XP : (Str → Option Value) → Heap → Prop} {α : Type} {Yf : Shared → α} {Ya : World → α} {YP : World → Heap → Prop} {N : Nat}
    (left : LeftO r.prog q loose Xt Yf Ya N) (hY : ∀ w s, Yf s = Ya w → YP w s.heap) (hYk : ∀ w h h', YP w h → (∀ b o, h.get? b = some o → h'.get? b = some o) → YP w h') (hX : ∀ s, Xt s = true → XP (s.heap.nsMap mainGlobals) s.heap) (hXk : ∀ mg h h', XP mg h → (∀ b o, h.get? b = some o → h'.get? b = some o) → XP mg h')
    (hRf : ∀ s, Xt s = true → RecFacts r.records s.heap) (hwr : (!writes || r.records.isEmpty) = true) (ok : (chainsOk q && opensWell r.prog && (frees r && r.within.isEmpty)) = true) (hb : r.prog.bare) (hw : r.promised)
    (ht : ∀ vs (w : World) (s : Shared) mg f (Q : PySem.Fin → Shared → Prop) (E : Value → Shared → Prop), s.heap.Ns mainGlobals mg → mg r.name = some f → wpB (model r.prog w) callerA (PySem.call f vs) (fun v s' => Q (.done (.ret v)) s') E s → wpB (model r.prog w) callerA (tree vs) Q E s)
    (pin : ∀ w s, s.heap.isNs mainGlobals = true → Ground q loose [] XP w s (s.heap.nsMap mainGlobals) (s.heap.nsMap builtinsNs) s.heap → ∀ n ∈ defs, isTheDefsW r.prog s.heap n)
    (call : ∀ (w : World) (s₀ s₁ : Shared) (mg mb : Str → Option Value), Ground q loose r.records XP w s₀ mg mb s₁.heap → YP w s₁.heap → ∀ (args : List WData) (vs : List Value) (as : List Addr),
      r.claim.pre args = true → WData.layableAll args = true → Laid r.records w s₀ s₁ args vs as → sysModules < s₀.heap.objs.size → ∃ f, mg r.name = some f ∧
        wpB (model r.prog w) callerA (PySem.call f vs) (fun v s' => GoodWG r.claim (classAt s₀.heap) (ExcName.means s₀.heap) args s₁ (.ok (.ret v)) s')
          (fun e s' => GoodWG r.claim (classAt s₀.heap) (ExcName.means s₀.heap) args s₁ (.error e) s') s₁) : r.claim.HoldsOpenBy (fun vs => ⟨tree vs, .builtin "claim.caller" {}, default, []⟩) defs kps writes := by
  obtain ⟨ok, k5⟩ := Bool.and_eq_true_iff.mp ok
  obtain ⟨hch, o1⟩ := Bool.and_eq_true_iff.mp ok
  obtain ⟨k5, k6⟩ := Bool.and_eq_true_iff.mp k5
  obtain ⟨hsame, hu, ha, hap, hm⟩ := frees_parts k5
  refine ⟨⟨hb, o1, by show r.makers.map _ = []; rw [hm]; rfl⟩, hw.witness, fun w => ⟨(left.behind hX hch w).1, fun s' hs' => ?_⟩⟩
  obtain ⟨s₀, hf, hg0, s, hT, hz, hgens, hg, G00, y⟩ := (left.behind (XP := fun mg h => XP mg h ∧ RecFacts r.records h) (fun s hs => ⟨hX s hs, hRf s hs⟩) hch w).2 s' hs'
  have G0 : Ground q loose [] XP w s (s.heap.nsMap mainGlobals) (s.heap.nsMap builtinsNs) s.heap := ⟨G00.T, G00.B, G00.D, G00.TE, G00.TD, G00.W, G00.X.1, G00.cls, G00.has, G00.apart, G00.once, G00.K⟩
  have RF := G00.X.2
  have hT' := hT
  refine ⟨s₀, hf, hg0, s, hT, pin w s hg G0, RF.1, RF.2.1, ?_⟩
  have hgens : s.gens = #[] := Array.eq_empty_of_size_eq_zero (beq_iff_eq.mp hgens)
  have G : Ground q loose r.records XP w s _ _ s.heap := RF.ground G0
  refine callFromB (c := r.claim) hz hgens fun args hpre hlay ord hord => ?_
  obtain ⟨⟨vs, s₁⟩, hlaid⟩ := Option.isSome_iff_exists.mp (layAllW_isSome (P := w.params) (ord := ord) G.has args r.args s (pre_splitW hpre).1)
  have keeps := layAllW_keeps _ _ _ hlaid
  have hal := layAllW_rest _ _ _ hlaid
  obtain ⟨as, hrd, hin, hold⟩ := reads_layAllW hord _ _ _ hlaid hlay s₁.heap (fun _ _ e => e)
  have L : Laid r.records w s s₁ args vs as := ⟨⟨ord, hord, hlaid⟩, hrd, hin, hold, keeps, hal.1.trans hgens, hal.2.2.1⟩
  have G₁ := G.keeps hXk keeps
  obtain ⟨f, hf, h⟩ := call w s s₁ _ _ G₁ (hYk _ _ _ (hY w s y) keeps) args vs as hpre hlay L G.low
  have hi := ident_freeW hu ha hap
  have hwi : r.claim.within = [] := List.isEmpty_iff.mp k6
  refine ⟨vs, s₁, hlaid, ht vs w s₁ _ f _ _ G₁.T.g hf (wpB_mono h (fun v s' g => ⟨_, rfl, ?_⟩) fun e s' g => ?_)⟩
  · have z := g.laid (c := r.claim) hsame hwi hi L
    exact ⟨z.1, z.2.1, z.2.2, fun q => ⟨namesKept_of hT' hg kps keeps g.2.1.old, noTable hwr q⟩⟩
  · have z := g.laid (c := r.claim) hsame hwi hi L
    exact ⟨z.1, z.2.1, z.2.2, fun q => ⟨namesKept_of hT' hg kps keeps g.2.1.old, noTable hwr q⟩⟩
end Mine

namespace MineTop.PySem.W
open _root_.PySem _root_.PySem.W _root_.PyProof.Rows Mine
/-- the head that «open_top» takes where it stands in MineTop: the library's own, over a walk in our logic -/
theorem holds_open {r : OpenRow} {q : Program} {loose : List Str} {Xt : Shared → Bool} {XP : (Str → Option Value) → Heap → Prop} {α : Type} {Yf : Shared → α} {Ya : World → α} {YP : World → Heap → Prop} {d : DefRec} {kwd : List (Str × Expr)} {N : Nat}
    (left : LeftO r.prog q loose Xt Yf Ya N) (hY : ∀ w s, Yf s = Ya w → YP w s.heap) (hYk : ∀ w h h', YP w h → (∀ b o, h.get? b = some o → h'.get? b = some o) → YP w h')
    (hX : ∀ s, Xt s = true → XP (s.heap.nsMap mainGlobals) s.heap) (hXk : ∀ mg h h', XP mg h → (∀ b o, h.get? b = some o → h'.get? b = some o) → XP mg h')
    (hdef : defOf q r.name = some (d, kwd)) (hp : r.prog.theDef r.name = some (d.params, d.body, d.scope)) (hk : kwWritten? d.params.kwonlyargs d.params.kw_defaults = some kwd) (hRf : ∀ s, Xt s = true → RecFacts r.records s.heap) (hwr : (!r.writes || r.records.isEmpty) = true)
    (k1 : r.wellSaid = true) (ok : (chainsOk q && opensWell r.prog && (frees r.toRowW && r.within.isEmpty)) = true) (hb : r.prog.bare) (hw : r.toRowW.promised)
    (call : WalkB q loose XP YP r.toRowW d kwd) : r.Holds := by
  refine ⟨k1, hw, openB (r := r.toRowW) (tree := fun vs => do match ← nsGet mainNs r.name with
      | some f => do ret (← PySem.call f vs)
      | none => unsupported "claim.caller:no-such-global") left hY hYk hX hXk hRf hwr ok hb hw
    (fun vs w s mg f Q E hg hf h => wpB_step (wpAny_nsGet hg (by rw [hf]; exact wpB_bind (wpB_mono h (fun _ _ x => wpB_pure x) fun _ _ x => x))))
    (fun w s hg G n hn => ?_) fun w s₀ s₁ mg mb G Y args vs as hpre hlay L low => ?_⟩
  · obtain rfl : n = r.name := by split at hn <;> simp_all
    exact pinned_of_view hg G hdef hp hk
  · obtain ⟨a, o, pm, cd, doc, dV, kV, h1, h2, h3, h4, h5⟩ := G.fn hdef
    exact ⟨.ref a, h1, call w s₀ s₁ mg mb G Y a o pm cd doc dV kV h2 h3 h4 h5 (defOf_name hdef ▸ h1) L.gens args vs as hpre hlay L.reads L.well (L.low low)⟩
end MineTop.PySem.W

/-! TopT -/
namespace Mine
open PySem PySem.W PyProof.Rows PySem.Spec PySem.Calls

/-! ## the top's run over a tree of objects, and the looks behind it -/
noncomputable def treeGo : List Obj → Nat → BT → Option BT
  | [], _, t => some t
  | o :: l, n, t => match ((t.ins n o).get n).isSome with
    | true => treeGo l (n + 1) (t.ins n o)
    | false => none
theorem treeGo_abs {life : Life} : ∀ (l : List Obj) (n : Nat) (t t' : BT), treeGo l n t = some t' → absHeap t' (n + l.length) life = ⟨(absHeap t n life).objs ++ l.toArray, life⟩
  | [], n, t, t', h => by
    obtain rfl : t = t' := Option.some.inj h
    show absHeap t n life = ⟨(absHeap t n life).objs ++ #[], life⟩
    rw [Array.append_empty]
    rfl
  | o :: l, n, t, t', h => by
    unfold treeGo at h
    cases g : ((t.ins n o).get n).isSome with
    | false => rw [g] at h; cases h
    | true =>
      rw [g] at h
      have := treeGo_abs (life := life) l (n + 1) _ _ h
      rw [List.length_cons, show n + (l.length + 1) = n + 1 + l.length by omega, this, absHeap_ins g]
      show Heap.mk _ _ = Heap.mk _ _
      refine congrArg (Heap.mk · life) ?_
      show (absHeap t n life).objs.push o ++ l.toArray = (absHeap t n life).objs ++ (o :: l).toArray
      apply Array.ext'
      simp
noncomputable def toT (s : Shared) : Option SharedT := (treeGo s.heap.objs.toList 0 .nil).map fun t => ⟨t, s.heap.objs.toList.length, s.heap.life, s.gens, s.drawn, s.toks, s.os⟩
theorem toT_abs {s : Shared} {x : SharedT} (h : toT s = some x) : x.abs = s := by
  obtain ⟨t, ht, rfl⟩ := Option.map_eq_some_iff.mp h
  obtain ⟨⟨⟨objs⟩, life⟩, gens, drawn, toks, os⟩ := s
  have := treeGo_abs (life := life) _ _ _ _ ht
  rw [Nat.zero_add] at this
  show Shared.mk (absHeap _ _ _) _ _ _ _ = _
  dsimp only at this ⊢
  rw [this]
  show Shared.mk (Heap.mk (#[] ++ (List.toArray objs)) _) _ _ _ _ = _
  rw [Array.empty_append]
theorem left_of {p q : Program} {loose : List Str} {Xt : Shared → Bool} {α : Type} {Yf : Shared → α} {Ya : World → α} {N : Nat} {g0 : Bool} {w : World} {s₀ x : Shared} (o : fencedOpening treeTable p w N = some s₀) (a : (s₀.heap.isNs mainGlobals && s₀.gens.size == 0) = true)
    (k : topRun treeTable p w s₀.heap.objs.size (s₀.heap.nsMap mainGlobals "__annotations__") N s₀ (topStub p) = some x) (e : (staticsOk (importedModules p.main.body) s₀.heap x.heap && namesBound p x.heap && gensDone x && laidKept s₀.heap x.heap) = true)
    (d : (openSeen q loose (importedModules p.main.body) Xt g0 x, Yf x) = (openGood q loose, Ya w)) : (openEnds treeTable p w N).map (fun s => (openSeen q loose (importedModules p.main.body) Xt g0 s, Yf s)) = some (openGood q loose, Ya w) := by
  unfold openEnds
  rw [o]
  show (topFrom treeTable p w N s₀).map _ = _
  unfold topFrom
  rw [a]
  show ((topRun treeTable p w s₀.heap.objs.size (s₀.heap.nsMap mainGlobals "__annotations__") N s₀ (topStub p)).bind _).map _ = _
  rw [k]
  show (match staticsOk (importedModules p.main.body) s₀.heap x.heap && namesBound p x.heap && gensDone x && laidKept s₀.heap x.heap with | true => some x | false => none).map _ = _
  rw [e]
  exact congrArg some d
end Mine

/-! TopS -/
namespace Mine
open PySem PySem.W PyProof.Rows PySem.Spec PySem.Calls
/-! ## the top's states at three places (printed by TopGen) -/
noncomputable def fn (i j : Nat) : Stmt := match (behindTheImports PySem.Challenge.rw_nz0363_01.row.toRowW.prog)[i]? with
  | some (.ClassDef _ _ _ b _ _ _ _ _ _ _) => b.getD j (.Pass default)
  | some s => s
  | none => .Pass default
noncomputable def aOf : Stmt → Arguments
  | .FunctionDef _ a _ _ _ _ _ _ _ _ => a
  | _ => { posonlyargs := [], args := [], vararg := none, kwonlyargs := [], kw_defaults := [], kwarg := none, defaults := [] }
noncomputable def bOf : Stmt → List Stmt
  | .FunctionDef _ _ b _ _ _ _ _ _ _ => b
  | _ => []
noncomputable def sOf : Stmt → Scope
  | .FunctionDef _ _ _ _ _ _ s _ _ _ => s
  | _ => { kind := .module, names := [], isGenerator := false, isCoroutine := false, more := [] }
noncomputable def vs (x : String) (n : Tok) : Value := .str (Str.ofString x) n
noncomputable def en (P : Params) (x : String) (n : Tok) (v : Value) : DictEntry := { hash := PyData.keyHash P (Str.ofString x), key := vs x n, val := v }
noncomputable def topL (l : List Obj) (toks : Nat) (os : OsState) : SharedT := ⟨(treeGo l 0 .nil).getD .nil, l.length, {}, #[], {}, toks, os⟩
noncomputable def top1 (P : Params) : List Obj := [ boot_o_0 P
  , { cls := Value.type "dict", data := Data.dict #[en P "builtins" 162 (Value.ref 4), en P "__main__" 163 (Value.ref 5)] 2 }
  , { cls := Value.none, data := Data.dict #[en P "type.__subclasses__.Exception.0" 212 (Value.int 31 0), en P "type.__subclasses__.Exception.n" 213 (Value.int 1 0)] 2 }
  , { cls := Value.type "dict", data := Data.dict #[en P "__name__" 165 (vs "raftkeep.errors" 194), en P "__doc__" 166 (Value.none), en P "__package__" 167 (Value.none), en P "__loader__" 168 (Value.builtin "__main__.__loader__#opaque"), en P "__spec__" 169 (Value.none), en P "__annotations__" 170 (Value.ref 6), en P "__builtins__" 171 (Value.ref 4), en P "__file__" 173 (vs "/claim/cut.py" 172), en P "__cached__" 174 (Value.none), en P "_wall" 193 (Value.ref 21), en P "KeepError" 215 (Value.ref 31), en P "StoreError" 231 (Value.ref 44), en P "Corrupt" 247 (Value.ref 56), en P "ShortOctets" 263 (Value.ref 68), en P "BadOption" 279 (Value.ref 80)] 15 }
  , { cls := Value.type "module", dict := some 0 }
  , { cls := Value.type "module", dict := some 3 }
  , { cls := Value.type "dict", data := Data.dict #[] }
  , { cls := Value.type "tuple", data := Data.seq #[] }
  , { cls := Value.none, data := Data.fields #[] }
  , { cls := Value.type "code", data := Data.fields #[vs "<module>" 176, vs "<module>" 177, vs "/claim/cut.py" 178, Value.int 1 0, Value.int 0 0, Value.int 0 0, Value.int 0 0, Value.int 0 0, Value.ref 7, Value.bool false, Value.int 175 0, Value.ref 8, Value.none, Value.none, Value.none, Value.none, Value.int 179 0, Value.int 1 0, vs "/claim/cut.py" 180] }
  , { cls := Value.type "frame", slots := #[some (Value.ref 9), some (Value.ref 3), some (Value.ref 3), none, some (vs "__main__" 164), none, some (Value.ref 0)] }
  , { cls := Value.type "tuple", data := Data.seq #[] }
  , { cls := Value.none, data := Data.fields #[Value.int 1 0, Value.int 0 0, Value.ref 20, Value.int 5 0, Value.int 0 0, Value.ref 27, Value.int 7 0, Value.int 0 0, Value.ref 40, Value.int 9 0, Value.int 0 0, Value.ref 52, Value.int 11 0, Value.int 0 0, Value.ref 64, Value.int 13 0, Value.int 0 0, Value.ref 76] }
  , { cls := Value.type "code", data := Data.fields #[vs "<module>" 182, vs "<module>" 183, vs "/claim/cut.py" 184, Value.int 1 0, Value.int 0 0, Value.int 0 0, Value.int 0 0, Value.int 0 0, Value.ref 11, Value.bool false, Value.int 181 0, Value.ref 12, Value.none, Value.none, Value.none, Value.none, Value.int 185 0, Value.int 1 0, vs "/claim/cut.py" 186] }
  , { cls := Value.type "frame", slots := #[some (Value.ref 13), some (Value.ref 3), some (Value.ref 3), none, some (vs "__main__" 164), none, some (Value.ref 0)] }
  , { cls := Value.type "tuple", data := Data.seq #[] }
  , { cls := Value.none, data := Data.fields #[] }
  , { cls := Value.type "tuple", data := Data.seq #[vs "k" 190] }
  , { cls := Value.type "tuple", data := Data.seq #[] }
  , { cls := Value.none, data := Data.func { name := Str.ofString "_wall", qualname := Str.ofString "_wall", params := aOf (fn 0 0), body := FuncBody.stmts (bOf (fn 0 0)), scope := sOf (fn 0 0), globals := 0, closure := [], defaults := Value.none, kwdefaults := Value.none } }
  , { cls := Value.type "code", data := Data.fields #[vs "_wall" 187, vs "_wall" 188, vs "/claim/cut.py" 189, Value.int 1 0, Value.int 1 0, Value.int 0 0, Value.int 0 0, Value.int 3 0, Value.ref 15, Value.bool true, Value.int 181 0, Value.ref 16, Value.none, Value.ref 17, Value.ref 18, Value.ref 19, Value.int 191 0, Value.int 1 0, vs "/claim/cut.py" 192] }
  , { cls := Value.type "function", data := Data.func { name := Str.ofString "_wall", qualname := Str.ofString "_wall", params := aOf (fn 0 0), body := FuncBody.stmts (bOf (fn 0 0)), scope := sOf (fn 0 0), globals := 3, closure := [], defaults := Value.none, kwdefaults := Value.none, pyModule := vs "__main__" 164, code := Value.ref 20 } }
  , { cls := Value.type "tuple", data := Data.seq #[Value.type "Exception"] }
  , { cls := Value.type "builtin_function_or_method", data := Data.fields #[Value.builtin "type.__prepare__", Value.type "type"] }
  , { cls := Value.type "dict", data := Data.dict #[en P "__module__" 203 (vs "raftkeep.errors" 194), en P "__qualname__" 205 (vs "KeepError" 204), en P "__firstlineno__" 207 (Value.int 5 206), en P "__static_attributes__" 208 (Value.ref 29)] 4 }
  , { cls := Value.type "tuple", data := Data.seq #[] }
  , { cls := Value.none, data := Data.fields #[] }
  , { cls := Value.type "code", data := Data.fields #[vs "KeepError" 198, vs "KeepError" 199, vs "/claim/cut.py" 200, Value.int 5 0, Value.int 0 0, Value.int 0 0, Value.int 0 0, Value.int 0 0, Value.ref 25, Value.bool false, Value.int 181 0, Value.ref 26, Value.none, Value.none, Value.none, Value.none, Value.int 201 0, Value.int 5 0, vs "/claim/cut.py" 202] }
  , { cls := Value.type "frame", slots := #[some (Value.ref 27), some (Value.ref 3), some (Value.ref 24), none, some (vs "raftkeep.errors" 194), none, some (Value.ref 0)] }
  , { cls := Value.type "tuple", data := Data.seq #[] }
  , { cls := Value.type "dict", data := Data.dict #[en P "__module__" 203 (vs "raftkeep.errors" 194), en P "__firstlineno__" 207 (Value.int 5 206), en P "__static_attributes__" 208 (Value.ref 29), en P "__weakref__" 210 (Value.ref 32), en P "__doc__" 211 (Value.none)] 3 }
  , { cls := Value.type "type", data := Data.cls { name := Str.ofString "KeepError", bases := [Value.type "Exception"], mro := [Value.ref 31, Value.type "Exception", Value.type "BaseException", Value.type "object"], ns := 30, qualname := Str.ofString "KeepError", subclasses := [Value.ref 44] }, slots := #[some (Value.ref 22), none, some (vs "KeepError" 196), some (vs "KeepError" 204), some (Value.builtin "Exception.__new__"), some (Value.bool true)] }
  , { cls := Value.type "getset_descriptor", data := Data.fields #[vs "__weakref__" 209, Value.ref 31, Value.builtin "ExceptionGroup.__weakref__", Value.none] }
  , { cls := Value.type "super", data := Data.fields #[Value.ref 31, Value.ref 31, Value.ref 31] }
  , { cls := Value.type "builtin_function_or_method", data := Data.fields #[Value.builtin "object.__init_subclass__", Value.ref 31] }
  , { cls := Value.type "tuple", data := Data.seq #[Value.ref 31] }
  , { cls := Value.type "builtin_function_or_method", data := Data.fields #[Value.builtin "type.__prepare__", Value.type "type"] }
  , { cls := Value.type "dict", data := Data.dict #[en P "__module__" 223 (vs "raftkeep.errors" 194), en P "__qualname__" 225 (vs "StoreError" 224), en P "__firstlineno__" 227 (Value.int 7 226), en P "__static_attributes__" 228 (Value.ref 42)] 4 }
  , { cls := Value.type "tuple", data := Data.seq #[] }
  , { cls := Value.none, data := Data.fields #[] }
  , { cls := Value.type "code", data := Data.fields #[vs "StoreError" 218, vs "StoreError" 219, vs "/claim/cut.py" 220, Value.int 7 0, Value.int 0 0, Value.int 0 0, Value.int 0 0, Value.int 0 0, Value.ref 38, Value.bool false, Value.int 181 0, Value.ref 39, Value.none, Value.none, Value.none, Value.none, Value.int 221 0, Value.int 7 0, vs "/claim/cut.py" 222] }
  , { cls := Value.type "frame", slots := #[some (Value.ref 40), some (Value.ref 3), some (Value.ref 37), none, some (vs "raftkeep.errors" 194), none, some (Value.ref 0)] }
  , { cls := Value.type "tuple", data := Data.seq #[] }
  , { cls := Value.type "dict", data := Data.dict #[en P "__module__" 223 (vs "raftkeep.errors" 194), en P "__firstlineno__" 227 (Value.int 7 226), en P "__static_attributes__" 228 (Value.ref 42), en P "__doc__" 229 (Value.none)] 2 }
  , { cls := Value.type "type", data := Data.cls { name := Str.ofString "StoreError", bases := [Value.ref 31], mro := [Value.ref 44, Value.ref 31, Value.type "Exception", Value.type "BaseException", Value.type "object"], ns := 43, qualname := Str.ofString "StoreError", subclasses := [Value.ref 56, Value.ref 80] }, slots := #[some (Value.ref 35), none, some (vs "StoreError" 216), some (vs "StoreError" 224), some (Value.builtin "Exception.__new__"), some (Value.bool true)] }
  , { cls := Value.type "super", data := Data.fields #[Value.ref 44, Value.ref 44, Value.ref 44] }
  , { cls := Value.type "builtin_function_or_method", data := Data.fields #[Value.builtin "object.__init_subclass__", Value.ref 44] }
  , { cls := Value.type "tuple", data := Data.seq #[Value.ref 44] }
  , { cls := Value.type "builtin_function_or_method", data := Data.fields #[Value.builtin "type.__prepare__", Value.type "type"] }
  , { cls := Value.type "dict", data := Data.dict #[en P "__module__" 239 (vs "raftkeep.errors" 194), en P "__qualname__" 241 (vs "Corrupt" 240), en P "__firstlineno__" 243 (Value.int 9 242), en P "__static_attributes__" 244 (Value.ref 54)] 4 }
  , { cls := Value.type "tuple", data := Data.seq #[] }
  , { cls := Value.none, data := Data.fields #[] }
  , { cls := Value.type "code", data := Data.fields #[vs "Corrupt" 234, vs "Corrupt" 235, vs "/claim/cut.py" 236, Value.int 9 0, Value.int 0 0, Value.int 0 0, Value.int 0 0, Value.int 0 0, Value.ref 50, Value.bool false, Value.int 181 0, Value.ref 51, Value.none, Value.none, Value.none, Value.none, Value.int 237 0, Value.int 9 0, vs "/claim/cut.py" 238] }
  , { cls := Value.type "frame", slots := #[some (Value.ref 52), some (Value.ref 3), some (Value.ref 49), none, some (vs "raftkeep.errors" 194), none, some (Value.ref 0)] }
  , { cls := Value.type "tuple", data := Data.seq #[] }
  , { cls := Value.type "dict", data := Data.dict #[en P "__module__" 239 (vs "raftkeep.errors" 194), en P "__firstlineno__" 243 (Value.int 9 242), en P "__static_attributes__" 244 (Value.ref 54), en P "__doc__" 245 (Value.none)] 2 }
  , { cls := Value.type "type", data := Data.cls { name := Str.ofString "Corrupt", bases := [Value.ref 44], mro := [Value.ref 56, Value.ref 44, Value.ref 31, Value.type "Exception", Value.type "BaseException", Value.type "object"], ns := 55, qualname := Str.ofString "Corrupt", subclasses := [Value.ref 68] }, slots := #[some (Value.ref 47), none, some (vs "Corrupt" 232), some (vs "Corrupt" 240), some (Value.builtin "Exception.__new__"), some (Value.bool true)] }
  , { cls := Value.type "super", data := Data.fields #[Value.ref 56, Value.ref 56, Value.ref 56] }
  , { cls := Value.type "builtin_function_or_method", data := Data.fields #[Value.builtin "object.__init_subclass__", Value.ref 56] }
  , { cls := Value.type "tuple", data := Data.seq #[Value.ref 56] }
  , { cls := Value.type "builtin_function_or_method", data := Data.fields #[Value.builtin "type.__prepare__", Value.type "type"] }
  , { cls := Value.type "dict", data := Data.dict #[en P "__module__" 255 (vs "raftkeep.errors" 194), en P "__qualname__" 257 (vs "ShortOctets" 256), en P "__firstlineno__" 259 (Value.int 11 258), en P "__static_attributes__" 260 (Value.ref 66)] 4 }
  , { cls := Value.type "tuple", data := Data.seq #[] }
  , { cls := Value.none, data := Data.fields #[] }
  , { cls := Value.type "code", data := Data.fields #[vs "ShortOctets" 250, vs "ShortOctets" 251, vs "/claim/cut.py" 252, Value.int 11 0, Value.int 0 0, Value.int 0 0, Value.int 0 0, Value.int 0 0, Value.ref 62, Value.bool false, Value.int 181 0, Value.ref 63, Value.none, Value.none, Value.none, Value.none, Value.int 253 0, Value.int 11 0, vs "/claim/cut.py" 254] }
  , { cls := Value.type "frame", slots := #[some (Value.ref 64), some (Value.ref 3), some (Value.ref 61), none, some (vs "raftkeep.errors" 194), none, some (Value.ref 0)] }
  , { cls := Value.type "tuple", data := Data.seq #[] }
  , { cls := Value.type "dict", data := Data.dict #[en P "__module__" 255 (vs "raftkeep.errors" 194), en P "__firstlineno__" 259 (Value.int 11 258), en P "__static_attributes__" 260 (Value.ref 66), en P "__doc__" 261 (Value.none)] 2 }
  , { cls := Value.type "type", data := Data.cls { name := Str.ofString "ShortOctets", bases := [Value.ref 56], mro := [Value.ref 68, Value.ref 56, Value.ref 44, Value.ref 31, Value.type "Exception", Value.type "BaseException", Value.type "object"], ns := 67, qualname := Str.ofString "ShortOctets" }, slots := #[some (Value.ref 59), none, some (vs "ShortOctets" 248), some (vs "ShortOctets" 256), some (Value.builtin "Exception.__new__"), some (Value.bool true)] }
  , { cls := Value.type "super", data := Data.fields #[Value.ref 68, Value.ref 68, Value.ref 68] }
  , { cls := Value.type "builtin_function_or_method", data := Data.fields #[Value.builtin "object.__init_subclass__", Value.ref 68] }
  , { cls := Value.type "tuple", data := Data.seq #[Value.ref 44] }
  , { cls := Value.type "builtin_function_or_method", data := Data.fields #[Value.builtin "type.__prepare__", Value.type "type"] }
  , { cls := Value.type "dict", data := Data.dict #[en P "__module__" 271 (vs "raftkeep.errors" 194), en P "__qualname__" 273 (vs "BadOption" 272), en P "__firstlineno__" 275 (Value.int 13 274), en P "__static_attributes__" 276 (Value.ref 78)] 4 }
  , { cls := Value.type "tuple", data := Data.seq #[] }
  , { cls := Value.none, data := Data.fields #[] }
  , { cls := Value.type "code", data := Data.fields #[vs "BadOption" 266, vs "BadOption" 267, vs "/claim/cut.py" 268, Value.int 13 0, Value.int 0 0, Value.int 0 0, Value.int 0 0, Value.int 0 0, Value.ref 74, Value.bool false, Value.int 181 0, Value.ref 75, Value.none, Value.none, Value.none, Value.none, Value.int 269 0, Value.int 13 0, vs "/claim/cut.py" 270] }
  , { cls := Value.type "frame", slots := #[some (Value.ref 76), some (Value.ref 3), some (Value.ref 73), none, some (vs "raftkeep.errors" 194), none, some (Value.ref 0)] }
  , { cls := Value.type "tuple", data := Data.seq #[] }
  , { cls := Value.type "dict", data := Data.dict #[en P "__module__" 271 (vs "raftkeep.errors" 194), en P "__firstlineno__" 275 (Value.int 13 274), en P "__static_attributes__" 276 (Value.ref 78), en P "__doc__" 277 (Value.none)] 2 }
  , { cls := Value.type "type", data := Data.cls { name := Str.ofString "BadOption", bases := [Value.ref 44], mro := [Value.ref 80, Value.ref 44, Value.ref 31, Value.type "Exception", Value.type "BaseException", Value.type "object"], ns := 79, qualname := Str.ofString "BadOption" }, slots := #[some (Value.ref 71), none, some (vs "BadOption" 264), some (vs "BadOption" 272), some (Value.builtin "Exception.__new__"), some (Value.bool true)] }
  , { cls := Value.type "super", data := Data.fields #[Value.ref 80, Value.ref 80, Value.ref 80] }
  , { cls := Value.type "builtin_function_or_method", data := Data.fields #[Value.builtin "object.__init_subclass__", Value.ref 80] } ]
noncomputable def top2 (P : Params) : List Obj := ((top1 P
  |>.set 3 { cls := Value.type "dict", data := Data.dict #[en P "__name__" 165 (vs "raftkeep.wal" 344), en P "__doc__" 166 (Value.none), en P "__package__" 167 (Value.none), en P "__loader__" 168 (Value.builtin "__main__.__loader__#opaque"), en P "__spec__" 169 (Value.none), en P "__annotations__" 170 (Value.ref 6), en P "__builtins__" 171 (Value.ref 4), en P "__file__" 173 (vs "/claim/cut.py" 172), en P "__cached__" 174 (Value.none), en P "_wall" 193 (Value.ref 21), en P "KeepError" 215 (Value.ref 31), en P "StoreError" 231 (Value.ref 44), en P "Corrupt" 247 (Value.ref 56), en P "ShortOctets" 263 (Value.ref 68), en P "BadOption" 279 (Value.ref 80), en P "MAX_32" 283 (Value.int 4294967295 282), en P "CHECK_CRC" 285 (Value.int 1 284), en P "CHECK_SUM" 287 (Value.int 2 286), en P "CRC_POLY" 289 (Value.int 2197175160 288), en P "MASK_DELTA" 291 (Value.int 2726488792 290), en P "put_fixed32" 298 (Value.ref 89), en P "read_fixed32" 306 (Value.ref 96), en P "make_crc_table" 316 (Value.ref 103), en P "crc32c" 328 (Value.ref 111), en P "mask" 335 (Value.ref 118), en P "checksum" 343 (Value.ref 125), en P "HEADER" 347 (Value.int 7 346), en P "MAX_BLOCK" 349 (Value.int 65542 348), en P "ZERO" 351 (Value.int 0 350), en P "FULL" 353 (Value.int 1 352), en P "FIRST" 355 (Value.int 2 354), en P "MIDDLE" 357 (Value.int 3 356), en P "LAST" 359 (Value.int 4 358), en P "AT_END" 362 (Value.int (-1) 361), en P "BROKEN" 365 (Value.int (-2) 364), en P "check_block" 372 (Value.ref 132), en P "check_kind" 379 (Value.ref 139), en P "make_fragment" 390 (Value.ref 146)] 38 })
  |>.set 12 { cls := Value.none, data := Data.fields #[Value.int 1 0, Value.int 0 0, Value.ref 20, Value.int 5 0, Value.int 0 0, Value.ref 27, Value.int 7 0, Value.int 0 0, Value.ref 40, Value.int 9 0, Value.int 0 0, Value.ref 52, Value.int 11 0, Value.int 0 0, Value.ref 64, Value.int 13 0, Value.int 0 0, Value.ref 76, Value.int 21 0, Value.int 0 0, Value.ref 88, Value.int 25 0, Value.int 0 0, Value.ref 95, Value.int 29 0, Value.int 0 0, Value.ref 102, Value.int 42 0, Value.int 0 0, Value.ref 110, Value.int 50 0, Value.int 0 0, Value.ref 117, Value.int 52 0, Value.int 0 0, Value.ref 124, Value.int 68 0, Value.int 0 0, Value.ref 131, Value.int 71 0, Value.int 0 0, Value.ref 138, Value.int 74 0, Value.int 0 0, Value.ref 145] })
  ++ [ { cls := Value.type "tuple", data := Data.seq #[] }
  , { cls := Value.none, data := Data.fields #[] }
  , { cls := Value.type "tuple", data := Data.seq #[vs "n" 295] }
  , { cls := Value.type "tuple", data := Data.seq #[] }
  , { cls := Value.none, data := Data.func { name := Str.ofString "put_fixed32", qualname := Str.ofString "put_fixed32", params := aOf (fn 13 0), body := FuncBody.stmts (bOf (fn 13 0)), scope := sOf (fn 13 0), globals := 0, closure := [], defaults := Value.none, kwdefaults := Value.none } }
  , { cls := Value.type "code", data := Data.fields #[vs "put_fixed32" 292, vs "put_fixed32" 293, vs "/claim/cut.py" 294, Value.int 21 0, Value.int 1 0, Value.int 0 0, Value.int 0 0, Value.int 3 0, Value.ref 83, Value.bool true, Value.int 181 0, Value.ref 84, Value.none, Value.ref 85, Value.ref 86, Value.ref 87, Value.int 296 0, Value.int 21 0, vs "/claim/cut.py" 297] }
  , { cls := Value.type "function", data := Data.func { name := Str.ofString "put_fixed32", qualname := Str.ofString "put_fixed32", params := aOf (fn 13 0), body := FuncBody.stmts (bOf (fn 13 0)), scope := sOf (fn 13 0), globals := 3, closure := [], defaults := Value.none, kwdefaults := Value.none, pyModule := vs "raftkeep.octets" 280, code := Value.ref 88 } }
  , { cls := Value.type "tuple", data := Data.seq #[] }
  , { cls := Value.none, data := Data.fields #[] }
  , { cls := Value.type "tuple", data := Data.seq #[vs "data" 302, vs "at" 303] }
  , { cls := Value.type "tuple", data := Data.seq #[] }
  , { cls := Value.none, data := Data.func { name := Str.ofString "read_fixed32", qualname := Str.ofString "read_fixed32", params := aOf (fn 14 0), body := FuncBody.stmts (bOf (fn 14 0)), scope := sOf (fn 14 0), globals := 0, closure := [], defaults := Value.none, kwdefaults := Value.none } }
  , { cls := Value.type "code", data := Data.fields #[vs "read_fixed32" 299, vs "read_fixed32" 300, vs "/claim/cut.py" 301, Value.int 25 0, Value.int 2 0, Value.int 0 0, Value.int 0 0, Value.int 3 0, Value.ref 90, Value.bool true, Value.int 181 0, Value.ref 91, Value.none, Value.ref 92, Value.ref 93, Value.ref 94, Value.int 304 0, Value.int 25 0, vs "/claim/cut.py" 305] }
  , { cls := Value.type "function", data := Data.func { name := Str.ofString "read_fixed32", qualname := Str.ofString "read_fixed32", params := aOf (fn 14 0), body := FuncBody.stmts (bOf (fn 14 0)), scope := sOf (fn 14 0), globals := 3, closure := [], defaults := Value.none, kwdefaults := Value.none, pyModule := vs "raftkeep.octets" 280, code := Value.ref 95 } }
  , { cls := Value.type "tuple", data := Data.seq #[] }
  , { cls := Value.none, data := Data.fields #[] }
  , { cls := Value.type "tuple", data := Data.seq #[vs "table" 310, vs "c" 311, vs "half" 312, vs "low" 313] }
  , { cls := Value.type "tuple", data := Data.seq #[] }
  , { cls := Value.none, data := Data.func { name := Str.ofString "make_crc_table", qualname := Str.ofString "make_crc_table", params := { posonlyargs := [], args := [], vararg := none, kwonlyargs := [], kw_defaults := [], kwarg := none, defaults := [] }, body := FuncBody.stmts (bOf (fn 15 0)), scope := sOf (fn 15 0), globals := 0, closure := [], defaults := Value.none, kwdefaults := Value.none } }
  , { cls := Value.type "code", data := Data.fields #[vs "make_crc_table" 307, vs "make_crc_table" 308, vs "/claim/cut.py" 309, Value.int 29 0, Value.int 0 0, Value.int 0 0, Value.int 0 0, Value.int 3 0, Value.ref 97, Value.bool true, Value.int 181 0, Value.ref 98, Value.none, Value.ref 99, Value.ref 100, Value.ref 101, Value.int 314 0, Value.int 29 0, vs "/claim/cut.py" 315] }
  , { cls := Value.type "function", data := Data.func { name := Str.ofString "make_crc_table", qualname := Str.ofString "make_crc_table", params := { posonlyargs := [], args := [], vararg := none, kwonlyargs := [], kw_defaults := [], kwarg := none, defaults := [] }, body := FuncBody.stmts (bOf (fn 15 0)), scope := sOf (fn 15 0), globals := 3, closure := [], defaults := Value.none, kwdefaults := Value.none, pyModule := vs "raftkeep.octets" 280, code := Value.ref 102 } }
  , { cls := Value.type "tuple", data := Data.seq #[Value.int 0 317] }
  , { cls := Value.type "tuple", data := Data.seq #[] }
  , { cls := Value.none, data := Data.fields #[] }
  , { cls := Value.type "tuple", data := Data.seq #[vs "data" 321, vs "start" 322, vs "table" 323, vs "c" 324, vs "octet" 325] }
  , { cls := Value.type "tuple", data := Data.seq #[] }
  , { cls := Value.none, data := Data.func { name := Str.ofString "crc32c", qualname := Str.ofString "crc32c", params := aOf (fn 16 0), body := FuncBody.stmts (bOf (fn 16 0)), scope := sOf (fn 16 0), globals := 0, closure := [], defaults := Value.none, kwdefaults := Value.none } }
  , { cls := Value.type "code", data := Data.fields #[vs "crc32c" 318, vs "crc32c" 319, vs "/claim/cut.py" 320, Value.int 42 0, Value.int 2 0, Value.int 0 0, Value.int 0 0, Value.int 3 0, Value.ref 105, Value.bool true, Value.int 181 0, Value.ref 106, Value.none, Value.ref 107, Value.ref 108, Value.ref 109, Value.int 326 0, Value.int 42 0, vs "/claim/cut.py" 327] }
  , { cls := Value.type "function", data := Data.func { name := Str.ofString "crc32c", qualname := Str.ofString "crc32c", params := aOf (fn 16 0), body := FuncBody.stmts (bOf (fn 16 0)), scope := sOf (fn 16 0), globals := 3, closure := [], defaults := Value.ref 104, kwdefaults := Value.none, pyModule := vs "raftkeep.octets" 280, code := Value.ref 110 } }
  , { cls := Value.type "tuple", data := Data.seq #[] }
  , { cls := Value.none, data := Data.fields #[] }
  , { cls := Value.type "tuple", data := Data.seq #[vs "c" 332] }
  , { cls := Value.type "tuple", data := Data.seq #[] }
  , { cls := Value.none, data := Data.func { name := Str.ofString "mask", qualname := Str.ofString "mask", params := aOf (fn 17 0), body := FuncBody.stmts (bOf (fn 17 0)), scope := sOf (fn 17 0), globals := 0, closure := [], defaults := Value.none, kwdefaults := Value.none } }
  , { cls := Value.type "code", data := Data.fields #[vs "mask" 329, vs "mask" 330, vs "/claim/cut.py" 331, Value.int 50 0, Value.int 1 0, Value.int 0 0, Value.int 0 0, Value.int 3 0, Value.ref 112, Value.bool true, Value.int 181 0, Value.ref 113, Value.none, Value.ref 114, Value.ref 115, Value.ref 116, Value.int 333 0, Value.int 50 0, vs "/claim/cut.py" 334] }
  , { cls := Value.type "function", data := Data.func { name := Str.ofString "mask", qualname := Str.ofString "mask", params := aOf (fn 17 0), body := FuncBody.stmts (bOf (fn 17 0)), scope := sOf (fn 17 0), globals := 3, closure := [], defaults := Value.none, kwdefaults := Value.none, pyModule := vs "raftkeep.octets" 280, code := Value.ref 117 } }
  , { cls := Value.type "tuple", data := Data.seq #[] }
  , { cls := Value.none, data := Data.fields #[] }
  , { cls := Value.type "tuple", data := Data.seq #[vs "kind" 339, vs "data" 340] }
  , { cls := Value.type "tuple", data := Data.seq #[] }
  , { cls := Value.none, data := Data.func { name := Str.ofString "checksum", qualname := Str.ofString "checksum", params := aOf (fn 18 0), body := FuncBody.stmts (bOf (fn 18 0)), scope := sOf (fn 18 0), globals := 0, closure := [], defaults := Value.none, kwdefaults := Value.none } }
  , { cls := Value.type "code", data := Data.fields #[vs "checksum" 336, vs "checksum" 337, vs "/claim/cut.py" 338, Value.int 52 0, Value.int 2 0, Value.int 0 0, Value.int 0 0, Value.int 3 0, Value.ref 119, Value.bool true, Value.int 181 0, Value.ref 120, Value.none, Value.ref 121, Value.ref 122, Value.ref 123, Value.int 341 0, Value.int 52 0, vs "/claim/cut.py" 342] }
  , { cls := Value.type "function", data := Data.func { name := Str.ofString "checksum", qualname := Str.ofString "checksum", params := aOf (fn 18 0), body := FuncBody.stmts (bOf (fn 18 0)), scope := sOf (fn 18 0), globals := 3, closure := [], defaults := Value.none, kwdefaults := Value.none, pyModule := vs "raftkeep.octets" 280, code := Value.ref 124 } }
  , { cls := Value.type "tuple", data := Data.seq #[] }
  , { cls := Value.none, data := Data.fields #[] }
  , { cls := Value.type "tuple", data := Data.seq #[vs "block" 369] }
  , { cls := Value.type "tuple", data := Data.seq #[] }
  , { cls := Value.none, data := Data.func { name := Str.ofString "check_block", qualname := Str.ofString "check_block", params := aOf (fn 29 0), body := FuncBody.stmts (bOf (fn 29 0)), scope := sOf (fn 29 0), globals := 0, closure := [], defaults := Value.none, kwdefaults := Value.none } }
  , { cls := Value.type "code", data := Data.fields #[vs "check_block" 366, vs "check_block" 367, vs "/claim/cut.py" 368, Value.int 68 0, Value.int 1 0, Value.int 0 0, Value.int 0 0, Value.int 3 0, Value.ref 126, Value.bool true, Value.int 181 0, Value.ref 127, Value.none, Value.ref 128, Value.ref 129, Value.ref 130, Value.int 370 0, Value.int 68 0, vs "/claim/cut.py" 371] }
  , { cls := Value.type "function", data := Data.func { name := Str.ofString "check_block", qualname := Str.ofString "check_block", params := aOf (fn 29 0), body := FuncBody.stmts (bOf (fn 29 0)), scope := sOf (fn 29 0), globals := 3, closure := [], defaults := Value.none, kwdefaults := Value.none, pyModule := vs "raftkeep.wal" 344, code := Value.ref 131 } }
  , { cls := Value.type "tuple", data := Data.seq #[] }
  , { cls := Value.none, data := Data.fields #[] }
  , { cls := Value.type "tuple", data := Data.seq #[vs "check" 376] }
  , { cls := Value.type "tuple", data := Data.seq #[] }
  , { cls := Value.none, data := Data.func { name := Str.ofString "check_kind", qualname := Str.ofString "check_kind", params := aOf (fn 30 0), body := FuncBody.stmts (bOf (fn 30 0)), scope := sOf (fn 30 0), globals := 0, closure := [], defaults := Value.none, kwdefaults := Value.none } }
  , { cls := Value.type "code", data := Data.fields #[vs "check_kind" 373, vs "check_kind" 374, vs "/claim/cut.py" 375, Value.int 71 0, Value.int 1 0, Value.int 0 0, Value.int 0 0, Value.int 3 0, Value.ref 133, Value.bool true, Value.int 181 0, Value.ref 134, Value.none, Value.ref 135, Value.ref 136, Value.ref 137, Value.int 377 0, Value.int 71 0, vs "/claim/cut.py" 378] }
  , { cls := Value.type "function", data := Data.func { name := Str.ofString "check_kind", qualname := Str.ofString "check_kind", params := aOf (fn 30 0), body := FuncBody.stmts (bOf (fn 30 0)), scope := sOf (fn 30 0), globals := 3, closure := [], defaults := Value.none, kwdefaults := Value.none, pyModule := vs "raftkeep.wal" 344, code := Value.ref 138 } }
  , { cls := Value.type "tuple", data := Data.seq #[] }
  , { cls := Value.none, data := Data.fields #[] }
  , { cls := Value.type "tuple", data := Data.seq #[vs "kind" 383, vs "data" 384, vs "check" 385, vs "size" 386, vs "body" 387] }
  , { cls := Value.type "tuple", data := Data.seq #[] }
  , { cls := Value.none, data := Data.func { name := Str.ofString "make_fragment", qualname := Str.ofString "make_fragment", params := aOf (fn 31 0), body := FuncBody.stmts (bOf (fn 31 0)), scope := sOf (fn 31 0), globals := 0, closure := [], defaults := Value.none, kwdefaults := Value.none } }
  , { cls := Value.type "code", data := Data.fields #[vs "make_fragment" 380, vs "make_fragment" 381, vs "/claim/cut.py" 382, Value.int 74 0, Value.int 3 0, Value.int 0 0, Value.int 0 0, Value.int 3 0, Value.ref 140, Value.bool true, Value.int 181 0, Value.ref 141, Value.none, Value.ref 142, Value.ref 143, Value.ref 144, Value.int 388 0, Value.int 74 0, vs "/claim/cut.py" 389] }
  , { cls := Value.type "function", data := Data.func { name := Str.ofString "make_fragment", qualname := Str.ofString "make_fragment", params := aOf (fn 31 0), body := FuncBody.stmts (bOf (fn 31 0)), scope := sOf (fn 31 0), globals := 3, closure := [], defaults := Value.none, kwdefaults := Value.none, pyModule := vs "raftkeep.wal" 344, code := Value.ref 145 } } ]
noncomputable def top3 (P : Params) : List Obj := ((top2 P
  |>.set 3 { cls := Value.type "dict", data := Data.dict #[en P "__name__" 165 (vs "law_nz0363_01" 537), en P "__doc__" 166 (Value.none), en P "__package__" 167 (Value.none), en P "__loader__" 168 (Value.builtin "__main__.__loader__#opaque"), en P "__spec__" 169 (Value.none), en P "__annotations__" 170 (Value.ref 6), en P "__builtins__" 171 (Value.ref 4), en P "__file__" 173 (vs "/claim/cut.py" 172), en P "__cached__" 174 (Value.none), en P "_wall" 193 (Value.ref 21), en P "KeepError" 215 (Value.ref 31), en P "StoreError" 231 (Value.ref 44), en P "Corrupt" 247 (Value.ref 56), en P "ShortOctets" 263 (Value.ref 68), en P "BadOption" 279 (Value.ref 80), en P "MAX_32" 283 (Value.int 4294967295 282), en P "CHECK_CRC" 285 (Value.int 1 284), en P "CHECK_SUM" 287 (Value.int 2 286), en P "CRC_POLY" 289 (Value.int 2197175160 288), en P "MASK_DELTA" 291 (Value.int 2726488792 290), en P "put_fixed32" 298 (Value.ref 89), en P "read_fixed32" 306 (Value.ref 96), en P "make_crc_table" 316 (Value.ref 103), en P "crc32c" 328 (Value.ref 111), en P "mask" 335 (Value.ref 118), en P "checksum" 343 (Value.ref 125), en P "HEADER" 347 (Value.int 7 346), en P "MAX_BLOCK" 349 (Value.int 65542 348), en P "ZERO" 351 (Value.int 0 350), en P "FULL" 353 (Value.int 1 352), en P "FIRST" 355 (Value.int 2 354), en P "MIDDLE" 357 (Value.int 3 356), en P "LAST" 359 (Value.int 4 358), en P "AT_END" 362 (Value.int (-1) 361), en P "BROKEN" 365 (Value.int (-2) 364), en P "check_block" 372 (Value.ref 132), en P "check_kind" 379 (Value.ref 139), en P "make_fragment" 390 (Value.ref 146), en P "LogWriter" 455 (Value.ref 184), en P "LogReader" 536 (Value.ref 233), en P "_law_draw" 546 (Value.ref 244), en P "_law_piece" 560 (Value.ref 251), en P "_law_reads" 573 (Value.ref 258), en P "law" 579 (Value.ref 263)] 44 })
  |>.set 12 { cls := Value.none, data := Data.fields #[Value.int 1 0, Value.int 0 0, Value.ref 20, Value.int 5 0, Value.int 0 0, Value.ref 27, Value.int 7 0, Value.int 0 0, Value.ref 40, Value.int 9 0, Value.int 0 0, Value.ref 52, Value.int 11 0, Value.int 0 0, Value.ref 64, Value.int 13 0, Value.int 0 0, Value.ref 76, Value.int 21 0, Value.int 0 0, Value.ref 88, Value.int 25 0, Value.int 0 0, Value.ref 95, Value.int 29 0, Value.int 0 0, Value.ref 102, Value.int 42 0, Value.int 0 0, Value.ref 110, Value.int 50 0, Value.int 0 0, Value.ref 117, Value.int 52 0, Value.int 0 0, Value.ref 124, Value.int 68 0, Value.int 0 0, Value.ref 131, Value.int 71 0, Value.int 0 0, Value.ref 138, Value.int 74 0, Value.int 0 0, Value.ref 145, Value.int 78 0, Value.int 0 0, Value.ref 152, Value.int 116 0, Value.int 0 0, Value.ref 194, Value.int 214 0, Value.int 0 0, Value.ref 243, Value.int 216 0, Value.int 0 0, Value.ref 250, Value.int 230 0, Value.int 0 0, Value.ref 257, Value.int 238 0, Value.int 0 0, Value.ref 262] })
  ++ [ { cls := Value.type "tuple", data := Data.seq #[] }
  , { cls := Value.type "builtin_function_or_method", data := Data.fields #[Value.builtin "type.__prepare__", Value.type "type"] }
  , { cls := Value.type "dict", data := Data.dict #[en P "__module__" 398 (vs "raftkeep.wal" 344), en P "__qualname__" 400 (vs "LogWriter" 399), en P "__firstlineno__" 402 (Value.int 78 401), en P "__init__" 413 (Value.ref 160), en P "put" 421 (Value.ref 167), en P "add" 436 (Value.ref 174), en P "sync" 443 (Value.ref 181), en P "__static_attributes__" 448 (Value.ref 182)] 8 }
  , { cls := Value.type "tuple", data := Data.seq #[] }
  , { cls := Value.none, data := Data.fields #[Value.int 80 0, Value.int 4 0, Value.ref 159, Value.int 90 0, Value.int 4 0, Value.ref 166, Value.int 94 0, Value.int 4 0, Value.ref 173, Value.int 114 0, Value.int 4 0, Value.ref 180] }
  , { cls := Value.type "code", data := Data.fields #[vs "LogWriter" 393, vs "LogWriter" 394, vs "/claim/cut.py" 395, Value.int 78 0, Value.int 0 0, Value.int 0 0, Value.int 0 0, Value.int 0 0, Value.ref 150, Value.bool false, Value.int 181 0, Value.ref 151, Value.none, Value.none, Value.none, Value.none, Value.int 396 0, Value.int 78 0, vs "/claim/cut.py" 397] }
  , { cls := Value.type "frame", slots := #[some (Value.ref 152), some (Value.ref 3), some (Value.ref 149), none, some (vs "raftkeep.wal" 344), none, some (Value.ref 0)] }
  , { cls := Value.type "tuple", data := Data.seq #[] }
  , { cls := Value.none, data := Data.fields #[] }
  , { cls := Value.type "tuple", data := Data.seq #[vs "self" 406, vs "file" 407, vs "block" 408, vs "check" 409, vs "length" 410] }
  , { cls := Value.type "tuple", data := Data.seq #[] }
  , { cls := Value.none, data := Data.func { name := Str.ofString "__init__", qualname := Str.ofString "LogWriter.__init__", params := aOf (fn 32 0), body := FuncBody.stmts (bOf (fn 32 0)), scope := sOf (fn 32 0), globals := 0, closure := [], defaults := Value.none, kwdefaults := Value.none } }
  , { cls := Value.type "code", data := Data.fields #[vs "__init__" 403, vs "LogWriter.__init__" 404, vs "/claim/cut.py" 405, Value.int 80 0, Value.int 5 0, Value.int 0 0, Value.int 0 0, Value.int 3 0, Value.ref 154, Value.bool true, Value.int 181 0, Value.ref 155, Value.none, Value.ref 156, Value.ref 157, Value.ref 158, Value.int 411 0, Value.int 80 0, vs "/claim/cut.py" 412] }
  , { cls := Value.type "function", data := Data.func { name := Str.ofString "__init__", qualname := Str.ofString "LogWriter.__init__", params := aOf (fn 32 0), body := FuncBody.stmts (bOf (fn 32 0)), scope := sOf (fn 32 0), globals := 3, closure := [], defaults := Value.none, kwdefaults := Value.none, pyModule := vs "raftkeep.wal" 344, code := Value.ref 159 } }
  , { cls := Value.type "tuple", data := Data.seq #[] }
  , { cls := Value.none, data := Data.fields #[] }
  , { cls := Value.type "tuple", data := Data.seq #[vs "self" 417, vs "octets" 418] }
  , { cls := Value.type "tuple", data := Data.seq #[] }
  , { cls := Value.none, data := Data.func { name := Str.ofString "put", qualname := Str.ofString "LogWriter.put", params := aOf (fn 32 1), body := FuncBody.stmts (bOf (fn 32 1)), scope := sOf (fn 32 1), globals := 0, closure := [], defaults := Value.none, kwdefaults := Value.none } }
  , { cls := Value.type "code", data := Data.fields #[vs "put" 414, vs "LogWriter.put" 415, vs "/claim/cut.py" 416, Value.int 90 0, Value.int 2 0, Value.int 0 0, Value.int 0 0, Value.int 3 0, Value.ref 161, Value.bool true, Value.int 181 0, Value.ref 162, Value.none, Value.ref 163, Value.ref 164, Value.ref 165, Value.int 419 0, Value.int 90 0, vs "/claim/cut.py" 420] }
  , { cls := Value.type "function", data := Data.func { name := Str.ofString "put", qualname := Str.ofString "LogWriter.put", params := aOf (fn 32 1), body := FuncBody.stmts (bOf (fn 32 1)), scope := sOf (fn 32 1), globals := 3, closure := [], defaults := Value.none, kwdefaults := Value.none, pyModule := vs "raftkeep.wal" 344, code := Value.ref 166 } }
  , { cls := Value.type "tuple", data := Data.seq #[] }
  , { cls := Value.none, data := Data.fields #[] }
  , { cls := Value.type "tuple", data := Data.seq #[vs "self" 425, vs "octets" 426, vs "size" 427, vs "at" 428, vs "begun" 429, vs "ended" 430, vs "room" 431, vs "upto" 432, vs "kind" 433] }
  , { cls := Value.type "tuple", data := Data.seq #[] }
  , { cls := Value.none, data := Data.func { name := Str.ofString "add", qualname := Str.ofString "LogWriter.add", params := aOf (fn 32 2), body := FuncBody.stmts (bOf (fn 32 2)), scope := sOf (fn 32 2), globals := 0, closure := [], defaults := Value.none, kwdefaults := Value.none } }
  , { cls := Value.type "code", data := Data.fields #[vs "add" 422, vs "LogWriter.add" 423, vs "/claim/cut.py" 424, Value.int 94 0, Value.int 2 0, Value.int 0 0, Value.int 0 0, Value.int 3 0, Value.ref 168, Value.bool true, Value.int 181 0, Value.ref 169, Value.none, Value.ref 170, Value.ref 171, Value.ref 172, Value.int 434 0, Value.int 94 0, vs "/claim/cut.py" 435] }
  , { cls := Value.type "function", data := Data.func { name := Str.ofString "add", qualname := Str.ofString "LogWriter.add", params := aOf (fn 32 2), body := FuncBody.stmts (bOf (fn 32 2)), scope := sOf (fn 32 2), globals := 3, closure := [], defaults := Value.none, kwdefaults := Value.none, pyModule := vs "raftkeep.wal" 344, code := Value.ref 173 } }
  , { cls := Value.type "tuple", data := Data.seq #[] }
  , { cls := Value.none, data := Data.fields #[] }
  , { cls := Value.type "tuple", data := Data.seq #[vs "self" 440] }
  , { cls := Value.type "tuple", data := Data.seq #[] }
  , { cls := Value.none, data := Data.func { name := Str.ofString "sync", qualname := Str.ofString "LogWriter.sync", params := aOf (fn 32 3), body := FuncBody.stmts (bOf (fn 32 3)), scope := sOf (fn 32 3), globals := 0, closure := [], defaults := Value.none, kwdefaults := Value.none } }
  , { cls := Value.type "code", data := Data.fields #[vs "sync" 437, vs "LogWriter.sync" 438, vs "/claim/cut.py" 439, Value.int 114 0, Value.int 1 0, Value.int 0 0, Value.int 0 0, Value.int 3 0, Value.ref 175, Value.bool true, Value.int 181 0, Value.ref 176, Value.none, Value.ref 177, Value.ref 178, Value.ref 179, Value.int 441 0, Value.int 114 0, vs "/claim/cut.py" 442] }
  , { cls := Value.type "function", data := Data.func { name := Str.ofString "sync", qualname := Str.ofString "LogWriter.sync", params := aOf (fn 32 3), body := FuncBody.stmts (bOf (fn 32 3)), scope := sOf (fn 32 3), globals := 3, closure := [], defaults := Value.none, kwdefaults := Value.none, pyModule := vs "raftkeep.wal" 344, code := Value.ref 180 } }
  , { cls := Value.type "tuple", data := Data.seq #[vs "block" 444, vs "check" 445, vs "file" 446, vs "length" 447] }
  , { cls := Value.type "dict", data := Data.dict #[en P "__module__" 398 (vs "raftkeep.wal" 344), en P "__firstlineno__" 402 (Value.int 78 401), en P "__init__" 413 (Value.ref 160), en P "put" 421 (Value.ref 167), en P "add" 436 (Value.ref 174), en P "sync" 443 (Value.ref 181), en P "__static_attributes__" 448 (Value.ref 182), en P "__dict__" 450 (Value.ref 185), en P "__weakref__" 452 (Value.ref 186), en P "__doc__" 453 (Value.none)] 4 }
  , { cls := Value.type "type", data := Data.cls { name := Str.ofString "LogWriter", bases := [Value.type "object"], mro := [Value.ref 184, Value.type "object"], ns := 183, qualname := Str.ofString "LogWriter" }, slots := #[none, none, some (vs "LogWriter" 391), some (vs "LogWriter" 399), some (Value.builtin "object.__new__"), some (Value.bool true)] }
  , { cls := Value.type "getset_descriptor", data := Data.fields #[vs "__dict__" 449, Value.ref 184, Value.builtin "function.__dict__", Value.builtin "function.__dict__#set"] }
  , { cls := Value.type "getset_descriptor", data := Data.fields #[vs "__weakref__" 451, Value.ref 184, Value.builtin "ExceptionGroup.__weakref__", Value.none] }
  , { cls := Value.type "super", data := Data.fields #[Value.ref 184, Value.ref 184, Value.ref 184] }
  , { cls := Value.type "builtin_function_or_method", data := Data.fields #[Value.builtin "object.__init_subclass__", Value.ref 184] }
  , { cls := Value.type "tuple", data := Data.seq #[] }
  , { cls := Value.type "builtin_function_or_method", data := Data.fields #[Value.builtin "type.__prepare__", Value.type "type"] }
  , { cls := Value.type "dict", data := Data.dict #[en P "__module__" 463 (vs "raftkeep.wal" 344), en P "__qualname__" 465 (vs "LogReader" 464), en P "__firstlineno__" 467 (Value.int 116 466), en P "__init__" 477 (Value.ref 202), en P "drop" 486 (Value.ref 209), en P "turn_block" 493 (Value.ref 216), en P "fragment" 506 (Value.ref 223), en P "read" 517 (Value.ref 230), en P "__static_attributes__" 529 (Value.ref 231)] 9 }
  , { cls := Value.type "tuple", data := Data.seq #[] }
  , { cls := Value.none, data := Data.fields #[Value.int 118 0, Value.int 4 0, Value.ref 201, Value.int 133 0, Value.int 4 0, Value.ref 208, Value.int 137 0, Value.int 4 0, Value.ref 215, Value.int 142 0, Value.int 4 0, Value.ref 222, Value.int 176 0, Value.int 4 0, Value.ref 229] }
  , { cls := Value.type "code", data := Data.fields #[vs "LogReader" 458, vs "LogReader" 459, vs "/claim/cut.py" 460, Value.int 116 0, Value.int 0 0, Value.int 0 0, Value.int 0 0, Value.int 0 0, Value.ref 192, Value.bool false, Value.int 181 0, Value.ref 193, Value.none, Value.none, Value.none, Value.none, Value.int 461 0, Value.int 116 0, vs "/claim/cut.py" 462] }
  , { cls := Value.type "frame", slots := #[some (Value.ref 194), some (Value.ref 3), some (Value.ref 191), none, some (vs "raftkeep.wal" 344), none, some (Value.ref 0)] }
  , { cls := Value.type "tuple", data := Data.seq #[] }
  , { cls := Value.none, data := Data.fields #[] }
  , { cls := Value.type "tuple", data := Data.seq #[vs "self" 471, vs "data" 472, vs "block" 473, vs "check" 474] }
  , { cls := Value.type "tuple", data := Data.seq #[] }
  , { cls := Value.none, data := Data.func { name := Str.ofString "__init__", qualname := Str.ofString "LogReader.__init__", params := aOf (fn 33 0), body := FuncBody.stmts (bOf (fn 33 0)), scope := sOf (fn 33 0), globals := 0, closure := [], defaults := Value.none, kwdefaults := Value.none } }
  , { cls := Value.type "code", data := Data.fields #[vs "__init__" 468, vs "LogReader.__init__" 469, vs "/claim/cut.py" 470, Value.int 118 0, Value.int 4 0, Value.int 0 0, Value.int 0 0, Value.int 3 0, Value.ref 196, Value.bool true, Value.int 181 0, Value.ref 197, Value.none, Value.ref 198, Value.ref 199, Value.ref 200, Value.int 475 0, Value.int 118 0, vs "/claim/cut.py" 476] }
  , { cls := Value.type "function", data := Data.func { name := Str.ofString "__init__", qualname := Str.ofString "LogReader.__init__", params := aOf (fn 33 0), body := FuncBody.stmts (bOf (fn 33 0)), scope := sOf (fn 33 0), globals := 3, closure := [], defaults := Value.none, kwdefaults := Value.none, pyModule := vs "raftkeep.wal" 344, code := Value.ref 201 } }
  , { cls := Value.type "tuple", data := Data.seq #[] }
  , { cls := Value.none, data := Data.fields #[] }
  , { cls := Value.type "tuple", data := Data.seq #[vs "self" 481, vs "octets" 482, vs "why" 483] }
  , { cls := Value.type "tuple", data := Data.seq #[] }
  , { cls := Value.none, data := Data.func { name := Str.ofString "drop", qualname := Str.ofString "LogReader.drop", params := aOf (fn 33 1), body := FuncBody.stmts (bOf (fn 33 1)), scope := sOf (fn 33 1), globals := 0, closure := [], defaults := Value.none, kwdefaults := Value.none } }
  , { cls := Value.type "code", data := Data.fields #[vs "drop" 478, vs "LogReader.drop" 479, vs "/claim/cut.py" 480, Value.int 133 0, Value.int 3 0, Value.int 0 0, Value.int 0 0, Value.int 3 0, Value.ref 203, Value.bool true, Value.int 181 0, Value.ref 204, Value.none, Value.ref 205, Value.ref 206, Value.ref 207, Value.int 484 0, Value.int 133 0, vs "/claim/cut.py" 485] }
  , { cls := Value.type "function", data := Data.func { name := Str.ofString "drop", qualname := Str.ofString "LogReader.drop", params := aOf (fn 33 1), body := FuncBody.stmts (bOf (fn 33 1)), scope := sOf (fn 33 1), globals := 3, closure := [], defaults := Value.none, kwdefaults := Value.none, pyModule := vs "raftkeep.wal" 344, code := Value.ref 208 } }
  , { cls := Value.type "tuple", data := Data.seq #[] }
  , { cls := Value.none, data := Data.fields #[] }
  , { cls := Value.type "tuple", data := Data.seq #[vs "self" 490] }
  , { cls := Value.type "tuple", data := Data.seq #[] }
  , { cls := Value.none, data := Data.func { name := Str.ofString "turn_block", qualname := Str.ofString "LogReader.turn_block", params := aOf (fn 33 2), body := FuncBody.stmts (bOf (fn 33 2)), scope := sOf (fn 33 2), globals := 0, closure := [], defaults := Value.none, kwdefaults := Value.none } }
  , { cls := Value.type "code", data := Data.fields #[vs "turn_block" 487, vs "LogReader.turn_block" 488, vs "/claim/cut.py" 489, Value.int 137 0, Value.int 1 0, Value.int 0 0, Value.int 0 0, Value.int 3 0, Value.ref 210, Value.bool true, Value.int 181 0, Value.ref 211, Value.none, Value.ref 212, Value.ref 213, Value.ref 214, Value.int 491 0, Value.int 137 0, vs "/claim/cut.py" 492] }
  , { cls := Value.type "function", data := Data.func { name := Str.ofString "turn_block", qualname := Str.ofString "LogReader.turn_block", params := aOf (fn 33 2), body := FuncBody.stmts (bOf (fn 33 2)), scope := sOf (fn 33 2), globals := 3, closure := [], defaults := Value.none, kwdefaults := Value.none, pyModule := vs "raftkeep.wal" 344, code := Value.ref 215 } }
  , { cls := Value.type "tuple", data := Data.seq #[] }
  , { cls := Value.none, data := Data.fields #[] }
  , { cls := Value.type "tuple", data := Data.seq #[vs "self" 497, vs "at" 498, vs "left" 499, vs "size" 500, vs "kind" 501, vs "upto" 502, vs "body" 503] }
  , { cls := Value.type "tuple", data := Data.seq #[] }
  , { cls := Value.none, data := Data.func { name := Str.ofString "fragment", qualname := Str.ofString "LogReader.fragment", params := aOf (fn 33 3), body := FuncBody.stmts (bOf (fn 33 3)), scope := sOf (fn 33 3), globals := 0, closure := [], defaults := Value.none, kwdefaults := Value.none } }
  , { cls := Value.type "code", data := Data.fields #[vs "fragment" 494, vs "LogReader.fragment" 495, vs "/claim/cut.py" 496, Value.int 142 0, Value.int 1 0, Value.int 0 0, Value.int 0 0, Value.int 3 0, Value.ref 217, Value.bool true, Value.int 181 0, Value.ref 218, Value.none, Value.ref 219, Value.ref 220, Value.ref 221, Value.int 504 0, Value.int 142 0, vs "/claim/cut.py" 505] }
  , { cls := Value.type "function", data := Data.func { name := Str.ofString "fragment", qualname := Str.ofString "LogReader.fragment", params := aOf (fn 33 3), body := FuncBody.stmts (bOf (fn 33 3)), scope := sOf (fn 33 3), globals := 3, closure := [], defaults := Value.none, kwdefaults := Value.none, pyModule := vs "raftkeep.wal" 344, code := Value.ref 222 } }
  , { cls := Value.type "tuple", data := Data.seq #[] }
  , { cls := Value.none, data := Data.fields #[] }
  , { cls := Value.type "tuple", data := Data.seq #[vs "self" 510, vs "begun" 511, vs "parts" 512, vs "kind" 513, vs "data" 514] }
  , { cls := Value.type "tuple", data := Data.seq #[] }
  , { cls := Value.none, data := Data.func { name := Str.ofString "read", qualname := Str.ofString "LogReader.read", params := aOf (fn 33 4), body := FuncBody.stmts (bOf (fn 33 4)), scope := sOf (fn 33 4), globals := 0, closure := [], defaults := Value.none, kwdefaults := Value.none } }
  , { cls := Value.type "code", data := Data.fields #[vs "read" 507, vs "LogReader.read" 508, vs "/claim/cut.py" 509, Value.int 176 0, Value.int 1 0, Value.int 0 0, Value.int 0 0, Value.int 3 0, Value.ref 224, Value.bool true, Value.int 181 0, Value.ref 225, Value.none, Value.ref 226, Value.ref 227, Value.ref 228, Value.int 515 0, Value.int 176 0, vs "/claim/cut.py" 516] }
  , { cls := Value.type "function", data := Data.func { name := Str.ofString "read", qualname := Str.ofString "LogReader.read", params := aOf (fn 33 4), body := FuncBody.stmts (bOf (fn 33 4)), scope := sOf (fn 33 4), globals := 3, closure := [], defaults := Value.none, kwdefaults := Value.none, pyModule := vs "raftkeep.wal" 344, code := Value.ref 229 } }
  , { cls := Value.type "tuple", data := Data.seq #[vs "at" 518, vs "block" 519, vs "block_end" 520, vs "breaks" 521, vs "check" 522, vs "data" 523, vs "good_length" 524, vs "reasons" 525, vs "short" 526, vs "skipped" 527, vs "torn" 528] }
  , { cls := Value.type "dict", data := Data.dict #[en P "__module__" 463 (vs "raftkeep.wal" 344), en P "__firstlineno__" 467 (Value.int 116 466), en P "__init__" 477 (Value.ref 202), en P "drop" 486 (Value.ref 209), en P "turn_block" 493 (Value.ref 216), en P "fragment" 506 (Value.ref 223), en P "read" 517 (Value.ref 230), en P "__static_attributes__" 529 (Value.ref 231), en P "__dict__" 531 (Value.ref 234), en P "__weakref__" 533 (Value.ref 235), en P "__doc__" 534 (Value.none)] 4 }
  , { cls := Value.type "type", data := Data.cls { name := Str.ofString "LogReader", bases := [Value.type "object"], mro := [Value.ref 233, Value.type "object"], ns := 232, qualname := Str.ofString "LogReader" }, slots := #[none, none, some (vs "LogReader" 456), some (vs "LogReader" 464), some (Value.builtin "object.__new__"), some (Value.bool true)] }
  , { cls := Value.type "getset_descriptor", data := Data.fields #[vs "__dict__" 530, Value.ref 233, Value.builtin "function.__dict__", Value.builtin "function.__dict__#set"] }
  , { cls := Value.type "getset_descriptor", data := Data.fields #[vs "__weakref__" 532, Value.ref 233, Value.builtin "ExceptionGroup.__weakref__", Value.none] }
  , { cls := Value.type "super", data := Data.fields #[Value.ref 233, Value.ref 233, Value.ref 233] }
  , { cls := Value.type "builtin_function_or_method", data := Data.fields #[Value.builtin "object.__init_subclass__", Value.ref 233] }
  , { cls := Value.type "tuple", data := Data.seq #[] }
  , { cls := Value.none, data := Data.fields #[] }
  , { cls := Value.type "tuple", data := Data.seq #[vs "nums" 542, vs "i" 543] }
  , { cls := Value.type "tuple", data := Data.seq #[] }
  , { cls := Value.none, data := Data.func { name := Str.ofString "_law_draw", qualname := Str.ofString "_law_draw", params := aOf (fn 35 0), body := FuncBody.stmts (bOf (fn 35 0)), scope := sOf (fn 35 0), globals := 0, closure := [], defaults := Value.none, kwdefaults := Value.none } }
  , { cls := Value.type "code", data := Data.fields #[vs "_law_draw" 539, vs "_law_draw" 540, vs "/claim/cut.py" 541, Value.int 214 0, Value.int 2 0, Value.int 0 0, Value.int 0 0, Value.int 3 0, Value.ref 238, Value.bool true, Value.int 181 0, Value.ref 239, Value.none, Value.ref 240, Value.ref 241, Value.ref 242, Value.int 544 0, Value.int 214 0, vs "/claim/cut.py" 545] }
  , { cls := Value.type "function", data := Data.func { name := Str.ofString "_law_draw", qualname := Str.ofString "_law_draw", params := aOf (fn 35 0), body := FuncBody.stmts (bOf (fn 35 0)), scope := sOf (fn 35 0), globals := 3, closure := [], defaults := Value.none, kwdefaults := Value.none, pyModule := vs "law_nz0363_01" 537, code := Value.ref 243 } }
  , { cls := Value.type "tuple", data := Data.seq #[] }
  , { cls := Value.none, data := Data.fields #[] }
  , { cls := Value.type "tuple", data := Data.seq #[vs "kind" 550, vs "octets" 551, vs "check" 552, vs "body" 553, vs "rest" 554, vs "one" 555, vs "turn" 556, vs "head" 557] }
  , { cls := Value.type "tuple", data := Data.seq #[] }
  , { cls := Value.none, data := Data.func { name := Str.ofString "_law_piece", qualname := Str.ofString "_law_piece", params := aOf (fn 36 0), body := FuncBody.stmts (bOf (fn 36 0)), scope := sOf (fn 36 0), globals := 0, closure := [], defaults := Value.none, kwdefaults := Value.none } }
  , { cls := Value.type "code", data := Data.fields #[vs "_law_piece" 547, vs "_law_piece" 548, vs "/claim/cut.py" 549, Value.int 216 0, Value.int 3 0, Value.int 0 0, Value.int 0 0, Value.int 3 0, Value.ref 245, Value.bool true, Value.int 181 0, Value.ref 246, Value.none, Value.ref 247, Value.ref 248, Value.ref 249, Value.int 558 0, Value.int 216 0, vs "/claim/cut.py" 559] }
  , { cls := Value.type "function", data := Data.func { name := Str.ofString "_law_piece", qualname := Str.ofString "_law_piece", params := aOf (fn 36 0), body := FuncBody.stmts (bOf (fn 36 0)), scope := sOf (fn 36 0), globals := 3, closure := [], defaults := Value.none, kwdefaults := Value.none, pyModule := vs "law_nz0363_01" 537, code := Value.ref 250 } }
  , { cls := Value.type "tuple", data := Data.seq #[] }
  , { cls := Value.none, data := Data.fields #[] }
  , { cls := Value.type "tuple", data := Data.seq #[vs "octets" 564, vs "records" 565, vs "ends" 566, vs "block" 567, vs "check" 568, vs "reader" 569, vs "k" 570] }
  , { cls := Value.type "tuple", data := Data.seq #[] }
  , { cls := Value.none, data := Data.func { name := Str.ofString "_law_reads", qualname := Str.ofString "_law_reads", params := aOf (fn 37 0), body := FuncBody.stmts (bOf (fn 37 0)), scope := sOf (fn 37 0), globals := 0, closure := [], defaults := Value.none, kwdefaults := Value.none } }
  , { cls := Value.type "code", data := Data.fields #[vs "_law_reads" 561, vs "_law_reads" 562, vs "/claim/cut.py" 563, Value.int 230 0, Value.int 5 0, Value.int 0 0, Value.int 0 0, Value.int 3 0, Value.ref 252, Value.bool true, Value.int 181 0, Value.ref 253, Value.none, Value.ref 254, Value.ref 255, Value.ref 256, Value.int 571 0, Value.int 230 0, vs "/claim/cut.py" 572] }
  , { cls := Value.type "function", data := Data.func { name := Str.ofString "_law_reads", qualname := Str.ofString "_law_reads", params := aOf (fn 37 0), body := FuncBody.stmts (bOf (fn 37 0)), scope := sOf (fn 37 0), globals := 3, closure := [], defaults := Value.none, kwdefaults := Value.none, pyModule := vs "law_nz0363_01" 537, code := Value.ref 257 } }
  , { cls := Value.type "tuple", data := Data.seq #[] }
  , { cls := Value.none, data := Data.fields #[] }
  , { cls := Value.none, data := Data.func { name := Str.ofString "law", qualname := Str.ofString "law", params := aOf (fn 38 0), body := FuncBody.stmts (bOf (fn 38 0)), scope := sOf (fn 38 0), globals := 0, closure := [], defaults := Value.none, kwdefaults := Value.none } }
  , { cls := Value.type "code", data := Data.fields #[vs "law" 574, vs "law" 575, vs "/claim/cut.py" 576, Value.int 238 0, Value.int 1 0, Value.int 0 0, Value.int 0 0, Value.int 3 0, Value.ref 259, Value.bool true, Value.int 181 0, Value.ref 260, Value.none, Value.none, Value.none, Value.ref 261, Value.int 577 0, Value.int 238 0, vs "/claim/cut.py" 578] }
  , { cls := Value.type "function", data := Data.func { name := Str.ofString "law", qualname := Str.ofString "law", params := aOf (fn 38 0), body := FuncBody.stmts (bOf (fn 38 0)), scope := sOf (fn 38 0), globals := 3, closure := [], defaults := Value.none, kwdefaults := Value.none, pyModule := vs "law_nz0363_01" 537, code := Value.ref 262 } } ]
end Mine

/-! TopC -/
namespace Mine
open PySem PySem.W PyProof.Rows PySem.Spec PySem.Calls
/-! ## the top's run in three stages -/
noncomputable abbrev pp : Program := PySem.Challenge.rw_nz0363_01.row.toRowW.prog
theorem open_is (w : World) : (fencedOpening treeTable pp w 4942).isSome = true := by kernel_rfl
noncomputable def s0 (w : World) : Shared := (fencedOpening treeTable pp w 4942).get (open_is w)
theorem s0_facts (w : World) : ((s0 w).heap.isNs mainGlobals && (s0 w).gens.size == 0, (s0 w).heap.objs.size, (s0 w).heap.nsMap mainGlobals "__annotations__") = (true, 11, some (.ref 6)) := by kernel_rfl
noncomputable def tEnv : Env := { scope := pp.main.scope, locals := mainNs, globals := mainNs, cells := [], code := .ref 13, frame := some 14 }
noncomputable def tC : Code := .body (behindTheImports pp) tEnv
noncomputable abbrev tQ : Pos := ⟨0, 0, 0, 0⟩
noncomputable abbrev tB : List Frame := [topFrame tQ]
noncomputable def seg (w : World) (n : Nat) (x : SharedT) (l : List Stmt) (q : Pos) : Option (Flow × SharedT × Code × Pos) := segRunT treeTable pp w 11 (some (.ref 6)) 1 n x (piecesOf l tEnv tC q tB)
noncomputable abbrev tl1 : List Stmt := (behindTheImports pp).drop 7
set_option maxHeartbeats 8000000 in
theorem stage1 (w : World) : (topGo treeTable pp w 11 (some (.ref 6)) 12 (s0 w) (topStub pp)).bind (fun r => (segRun treeTable pp w 11 (some (.ref 6)) 1 1 r.1 (blockOf (behindTheImports pp) tEnv tC tQ tB)).bind fun b => (toT b.2.1).bind fun x =>
    (seg w 1143 x ((behindTheImports pp).take 7) tQ).map fun y => (r.2, (b.1, b.2.2), y)) =
    some (⟨denote treeTable tC, tC, tQ, tB⟩, (.next, tC, tQ), (.next, topL (top1 w.params) 280 (s0 w).os, tC, ⟨13, 0, 14, 8⟩)) := by kernel_rfl
set_option maxHeartbeats 8000000 in
theorem stage2 (w : World) : seg w 431 (topL (top1 w.params) 280 (s0 w).os) (tl1.take 25) ⟨13, 0, 14, 8⟩ = some (.next, topL (top2 w.params) 391 (s0 w).os, tC, ⟨74, 0, 77, 87⟩) := by kernel_rfl
set_option maxHeartbeats 8000000 in
theorem stage3 (w : World) : seg w 837 (topL (top2 w.params) 391 (s0 w).os) (tl1.drop 25) ⟨74, 0, 77, 87⟩ = some (.next, topL (top3 w.params) 580 (s0 w).os, tC, ⟨238, 0, 302, 36⟩) := by kernel_rfl
theorem topL_abs {l : List Obj} {k : Nat} {os : OsState} (h : (treeGo l 0 .nil).isSome = true) : (topL l k os).abs = ⟨⟨l.toArray, {}⟩, #[], {}, k, os⟩ := by
  obtain ⟨t, ht⟩ := Option.isSome_iff_exists.mp h
  have := treeGo_abs (life := {}) _ _ _ _ ht
  rw [Nat.zero_add] at this
  unfold topL SharedT.abs
  dsimp only
  rw [ht]
  dsimp only [Option.getD_some]
  rw [this]
  show Shared.mk (Heap.mk (#[] ++ (List.toArray l)) _) _ _ _ _ = _
  rw [Array.empty_append]
noncomputable def xEnd (w : World) : Shared := ⟨⟨(top3 w.params).toArray, {}⟩, #[], {}, 580, (s0 w).os⟩
theorem end_tree (w : World) : (treeGo (top3 w.params) 0 .nil).isSome = true := by kernel_rfl
theorem stage6 (w : World) : topRun treeTable pp w 11 (some (.ref 6)) 2 (xEnd w) ⟨doneF .next, tC, ⟨238, 0, 302, 36⟩, tB⟩ = some (xEnd w) := by kernel_rfl
set_option maxHeartbeats 8000000 in
theorem look0 (w : World) : (staticsOk (importedModules pp.main.body) (s0 w).heap (xEnd w).heap && namesBound pp (xEnd w).heap && gensDone (xEnd w) && laidKept (s0 w).heap (xEnd w).heap) = true := by kernel_rfl
theorem top_runs (w : World) : topRun treeTable pp w 11 (some (.ref 6)) 4942 (s0 w) (topStub pp) = some (xEnd w) := by
  obtain ⟨⟨u1, u2⟩, g1, g2⟩ := Option.bind_eq_some_iff.mp (stage1 w)
  obtain ⟨⟨v1, v2, v3, v4⟩, g3, g4⟩ := Option.bind_eq_some_iff.mp g2
  obtain ⟨y, g5, g6⟩ := Option.bind_eq_some_iff.mp g4
  obtain ⟨z, g7, g8⟩ := Option.map_eq_some_iff.mp g6
  obtain ⟨e1, g9⟩ := Prod.mk.inj g8
  obtain ⟨g9, e5⟩ := Prod.mk.inj g9
  obtain ⟨e2, g9⟩ := Prod.mk.inj g9
  obtain ⟨e3, e4⟩ := Prod.mk.inj g9
  dsimp only at e1 e2 e3 e4
  subst e1 e2 e3 e4 e5
  have a := segRun_of (stage3 w)
  rw [topL_abs (end_tree w)] at a
  have k3 := piece_app a (piece_nil (env := tEnv) (stage6 w))
  rw [List.append_nil] at k3
  have k2 := piece_app (segRun_of (stage2 w)) k3
  rw [List.take_append_drop] at k2
  have k1 := segRun_of g7
  rw [toT_abs g5] at k1
  have k1 := piece_app k1 k2
  rw [List.take_append_drop] at k1
  have k := topRun_mono 2516 _ _ _ _ (go_top g1 (piece_block g3 k1))
  have hn : 12 + (1 + (1143 + (431 + (837 + 2)))) + 2516 = 4942 := rfl
  rw [hn] at k
  exact k
theorem left_cut {q : Program} {loose : List Str} {Xt : Shared → Bool} {α : Type} {Yf : Shared → α} {Ya : World → α} {g0 : Bool}
    (h : ∀ w, (openSeen q loose (importedModules pp.main.body) Xt g0 (xEnd w), Yf (xEnd w)) = (openGood q loose, Ya w)) : LeftO pp q loose Xt Yf Ya 4942 g0 := fun w => by
  have s1 := congrArg Prod.fst (s0_facts w)
  have s2 := congrArg (fun x => x.2.1) (s0_facts w)
  have s3 := congrArg (fun x => x.2.2) (s0_facts w)
  dsimp only at s1 s2 s3
  exact left_of (s₀ := s0 w) (Option.some_get _).symm s1 (by rw [s2, s3]; exact top_runs w) (look0 w) (h w)
end Mine

/-! Top1 -/
open PySem PySem.W PyProof.Rows
namespace MineTop
noncomputable def without (as : List Nat) (l : List Stmt) : List Stmt := (l.zipIdx.filter fun x => !as.contains x.2).map (·.1)
/-- the text that the walk knows -/
noncomputable def view : Program := { PySem.Challenge.rw_nz0363_01.row.toRowW.1 with main := { PySem.Challenge.rw_nz0363_01.row.toRowW.1.main with body := without [1, 7, 16, 19, 34] PySem.Challenge.pw_nz0363_01.main.body } }
theorem said : PySem.Challenge.rw_nz0363_01.wellSaid = true := by
  unfold OpenLaw.wellSaid OpenRow.wellSaid OpenRow.partSaid looksOpen
  repeat' (with_reducible refine look_both ?_ ?_)
  all_goals decide +kernel
abbrev loose : List Str := [PySem.Str.ofString "crc32c"]
noncomputable abbrev Xt (s : Shared) : Bool := xlAt view [] s && recOk (RowW.records PySem.Challenge.rw_nz0363_01.row.toRowW) s
set_option maxHeartbeats 8000000 in
theorem looks (w : World) : openSeen view loose (importedModules Mine.pp.main.body) Xt true (Mine.xEnd w) = openGood view loose := by kernel_rfl
theorem head {d : DefRec} {kwd : List (Str × Expr)} (H : Hook) (hl : ∀ w, H.obs (Mine.xEnd w) = H.val w) (h1 : defOf view PySem.Challenge.rw_nz0363_01.row.name = some (d, kwd)) (h2 : PySem.Challenge.rw_nz0363_01.row.prog.theDef PySem.Challenge.rw_nz0363_01.row.name = some (d.params, d.body, d.scope))
    (h3 : kwWritten? d.params.kwonlyargs d.params.kw_defaults = some kwd) (said : PySem.Challenge.rw_nz0363_01.row.wellSaid = true) (hw : PySem.Challenge.rw_nz0363_01.row.toRowW.promised) (hc : Mine.WalkB view loose (XL view []) (Hook.says H) PySem.Challenge.rw_nz0363_01.row.toRowW d kwd) : PySem.Challenge.rw_nz0363_01.row.Holds :=
  PySem.W.holds_open (q := view) (loose := loose) (Xt := Xt) (XP := XL view []) (Yf := Hook.obs H) (Ya := Hook.val H) (YP := Hook.says H) (N := 4942) (Mine.left_cut fun w => by rw [looks w, hl w]) (Hook.of H) (Hook.keeps H) (fun s e => xl_of s (Bool.and_eq_true_iff.mp e).1) XL.keeps h1 h2 h3
    (fun s e => recFacts_of (Bool.and_eq_true_iff.mp e).2) (by rfl) said (by decide +kernel) ⟨rfl, rfl, rfl, rfl, rfl, by decide +kernel⟩ hw hc
section
local macro_rules | `(tactic| o_law) => `(tactic| refine holds_law MineTop.said fun said => ?_)
local macro_rules | `(tactic| o_head $H) => `(tactic| (refine MineTop.head $H ?hl (by rfl) (by rfl) (by rfl) (by assumption) ?hw ?hc; (case hl => (intro w; kernel_rfl!))))
set_option maxHeartbeats 8000000 in
open_top hd for PySem.Challenge.rw_nz0363_01
end
end MineTop

namespace Mine
open PySem PySem.W PyProof.Rows PySem.Spec PySem.Calls
/-! Base -/

/-- a call's contract: `ft` is the footprint (what the call may change), all else stands -/
noncomputable def MSpec (d u : Nat) (w : World) (f : Addr) (vs : List Value) (ft : List (Addr × Obj)) (R : Value → List (Addr × Obj) → Prop) : Prop :=
  ∀ (mean : ExcName → Option Value) (mg mb : Str → Option Value) (gd : Option (List Code)) (cn : Str) (cs : Scope) (a : Addr) (ccd : Value) (cl : List (Str × Addr)) (outer : List Env) (A₀ : Around) (base h₀ : Heap) (L : Addr) (m : Str → Option Value) (s : Shared)
    (Q E : Value → Shared → Prop),
    Below A₀ base outer h₀ → Fr h₀ L s.heap m → (MineTop.hd.heap_1 w.params).In h₀ → News h₀ L s.heap ft → Top MineTop.view (looseW MineTop.view [Str.ofString "crc32c"]) mean mg mb h₀ → cs.kind = .function →
    (∀ v news' h' tk', R v news' → Fr h₀ L h' m → News h₀ L h' news' → (∀ b o, s.heap.get? b = some o → b ∉ ft.map (·.1) → h'.get? b = some o) → Q v { s with heap := h', toks := tk' }) →
    wpAny (model PySem.Challenge.rw_nz0363_01.row.prog w) (ktrTop d u gd cn cs L a ccd cl outer) (call (.ref f) vs) Q E s

theorem gen_toks {α : Type} {M : Model} {A : Around} {t : Sem α} {Q : α → Shared → Prop} {E : Value → Shared → Prop} {h : Heap} {g : _} {d : _} {tk : Nat} {o : _} (H : ∀ tk', wpAny M A t Q E ⟨h, g, d, tk', o⟩) : wpAny M A t Q E ⟨h, g, d, tk, o⟩ := H tk
/-- stops the walk -/
noncomputable def Hold (P : Prop) : Prop := P
theorem hold {P : Prop} (h : Hold P) : P := h

theorem wpAny_A {α : Type} {M : Model} {A A' : Around} {t : Sem α} {Q : α → Shared → Prop} {E : Value → Shared → Prop} {s : Shared} (h : wpAny M A' t Q E s)
    (hh : A'.handled = A.handled) (hd : A.depth ≤ A'.depth) (hf : A'.frames = A.frames) (hg : A'.guards = A.guards) (hu : A.units ≤ A'.units) : wpAny M A t Q E s :=
  fun Γ p hΓ => h Γ p ⟨hΓ.1.trans hh.symm, Nat.le_trans hΓ.2.1 hd, fun l hl => hΓ.2.2.1 l (hf ▸ hl), fun l hl => hΓ.2.2.2.1 l (hg ▸ hl), Nat.le_trans hΓ.2.2.2.2 hu⟩

section
variable {d u : Nat} {w : World} {f : Addr} {vs : List Value} {ft : List (Addr × Obj)} {R : Value → List (Addr × Obj) → Prop}
  {mean : ExcName → Option Value} {mg mb : Str → Option Value} {cn : Str} {cs : Scope} {a : Addr} {ccd : Value} {cl : List (Str × Addr)} {outer : List Env} {A A₀ : Around} {base h₀ : Heap} {L : Addr} {m : Str → Option Value} {s : Shared}
  {Q E : Value → Shared → Prop}
theorem MSpec.use (S : MSpec d u w f vs ft R) (B : Below A₀ base outer h₀) (F : Fr h₀ L s.heap m) (X : (MineTop.hd.heap_1 w.params).In h₀) (N : News h₀ L s.heap ft) (T : Top MineTop.view (looseW MineTop.view [Str.ofString "crc32c"]) mean mg mb h₀) (hk : cs.kind = .function)
    (hA : A.frames = some (envX cn cs L a ccd cl :: outer)) (hh : A.handled = none) (hd : A.depth ≤ d) (hu : A.units ≤ u)
    (h : ∀ v news' h' tk', R v news' → Fr h₀ L h' m → News h₀ L h' news' → (∀ b o, s.heap.get? b = some o → b ∉ ft.map (·.1) → h'.get? b = some o) → Q v { s with heap := h', toks := tk' }) :
    wpAny (model PySem.Challenge.rw_nz0363_01.row.prog w) A (call (.ref f) vs) Q E s :=
  wpAny_A (S mean mg mb A.guards cn cs a ccd cl outer A₀ base h₀ L m s Q E B F X N T hk h) hh.symm hd hA.symm rfl hu

theorem news_keep {news : List (Addr × Obj)} {h h' : Heap} (N : News h₀ L h news) (k : ∀ b o, h.get? b = some o → h'.get? b = some o) : News h₀ L h' news :=
  fun p hp => ⟨k _ _ (N p hp).1, (N p hp).2⟩

/-- a call without a footprint: the whole ledger stands -/
theorem MSpec.pure (S : MSpec d u w f vs [] R) {news : List (Addr × Obj)} (B : Below A₀ base outer h₀) (F : Fr h₀ L s.heap m) (X : (MineTop.hd.heap_1 w.params).In h₀) (N : News h₀ L s.heap news) (T : Top MineTop.view (looseW MineTop.view [Str.ofString "crc32c"]) mean mg mb h₀) (hk : cs.kind = .function)
    (hA : A.frames = some (envX cn cs L a ccd cl :: outer)) (hh : A.handled = none) (hd : A.depth ≤ d) (hu : A.units ≤ u)
    (h : ∀ v h' tk', (∃ n, R v n) → Fr h₀ L h' m → News h₀ L h' news → Q v { s with heap := h', toks := tk' }) :
    wpAny (model PySem.Challenge.rw_nz0363_01.row.prog w) A (call (.ref f) vs) Q E s :=
  S.use B F X News.nil T hk hA hh hd hu fun v n h' tk' r F' _ k => h v h' tk' ⟨n, r⟩ F' (news_keep N fun b o e => k b o e (by simp))

/-- a call without a footprint that hands over what it made -/
theorem MSpec.made (S : MSpec d u w f vs [] R) {news : List (Addr × Obj)} (B : Below A₀ base outer h₀) (F : Fr h₀ L s.heap m) (X : (MineTop.hd.heap_1 w.params).In h₀) (N : News h₀ L s.heap news) (T : Top MineTop.view (looseW MineTop.view [Str.ofString "crc32c"]) mean mg mb h₀) (hk : cs.kind = .function)
    (hA : A.frames = some (envX cn cs L a ccd cl :: outer)) (hh : A.handled = none) (hd : A.depth ≤ d) (hu : A.units ≤ u)
    (h : ∀ v n h' tk', R v n → Fr h₀ L h' m → News h₀ L h' (n ++ news) → Q v { s with heap := h', toks := tk' }) :
    wpAny (model PySem.Challenge.rw_nz0363_01.row.prog w) A (call (.ref f) vs) Q E s :=
  S.use B F X News.nil T hk hA hh hd hu fun v n h' tk' r F' N' k => h v n h' tk' r F' fun p hp => (List.mem_append.mp hp).elim (N' p) (news_keep N (fun b o e => k b o e (by simp)) p)
/-! the same, the contract itself last (its premises are shown when all else is known) -/
theorem MSpec.useL (B : Below A₀ base outer h₀) (F : Fr h₀ L s.heap m) (X : (MineTop.hd.heap_1 w.params).In h₀) (N : News h₀ L s.heap ft) (T : Top MineTop.view (looseW MineTop.view [Str.ofString "crc32c"]) mean mg mb h₀)
    (hA : A.frames = some (envX cn cs L a ccd cl :: outer)) (hk : cs.kind = .function) (hh : A.handled = none) (hd : A.depth ≤ d) (hu : A.units ≤ u) (S : MSpec d u w f vs ft R)
    (h : ∀ v news' h' tk', R v news' → Fr h₀ L h' m → News h₀ L h' news' → (∀ b o, s.heap.get? b = some o → b ∉ ft.map (·.1) → h'.get? b = some o) → Q v { s with heap := h', toks := tk' }) :
    wpAny (model PySem.Challenge.rw_nz0363_01.row.prog w) A (call (.ref f) vs) Q E s := S.use B F X N T hk hA hh hd hu h
theorem MSpec.pureL {news : List (Addr × Obj)} (B : Below A₀ base outer h₀) (F : Fr h₀ L s.heap m) (X : (MineTop.hd.heap_1 w.params).In h₀) (N : News h₀ L s.heap news) (T : Top MineTop.view (looseW MineTop.view [Str.ofString "crc32c"]) mean mg mb h₀)
    (hA : A.frames = some (envX cn cs L a ccd cl :: outer)) (hk : cs.kind = .function) (hh : A.handled = none) (hd : A.depth ≤ d) (hu : A.units ≤ u) (S : MSpec d u w f vs [] R)
    (h : ∀ v h' tk', (∃ n, R v n) → Fr h₀ L h' m → News h₀ L h' news → Q v { s with heap := h', toks := tk' }) :
    wpAny (model PySem.Challenge.rw_nz0363_01.row.prog w) A (call (.ref f) vs) Q E s := S.pure B F X N T hk hA hh hd hu h
theorem MSpec.madeL {news : List (Addr × Obj)} (B : Below A₀ base outer h₀) (F : Fr h₀ L s.heap m) (X : (MineTop.hd.heap_1 w.params).In h₀) (N : News h₀ L s.heap news) (T : Top MineTop.view (looseW MineTop.view [Str.ofString "crc32c"]) mean mg mb h₀)
    (hA : A.frames = some (envX cn cs L a ccd cl :: outer)) (hk : cs.kind = .function) (hh : A.handled = none) (hd : A.depth ≤ d) (hu : A.units ≤ u) (S : MSpec d u w f vs [] R)
    (h : ∀ v n h' tk', R v n → Fr h₀ L h' m → News h₀ L h' (n ++ news) → Q v { s with heap := h', toks := tk' }) :
    wpAny (model PySem.Challenge.rw_nz0363_01.row.prog w) A (call (.ref f) vs) Q E s := S.made B F X N T hk hA hh hd hu h

end

section
variable {prog : Program} {w : World} {A₀ A : Around} {s : Shared} {K : Frag} {L : Addr} {h₀ base : Heap} {m mg mb : Str → Option Value} {news : List (Addr × Obj)} {p : Program} {loose : List Str} {mean : ExcName → Option Value}
/-- a def's entry; what is not in the footprint stands in the callee's base heap -/
theorem enterM {env : Env} {outer : List Env} {R : Result → Shared → Prop} {name qual : Str} {params : Arguments} {body : List Stmt} {scope : Scope} {dV kV doc pm cdv ct oc : Value} {an od : Option Addr} {osl : Array (Option Value)} {f : Addr} {args : Args} {binds : List (Str × Value)}
    (B : Below A₀ base outer h₀) (F : Fr h₀ L s.heap m) (X₀ : K.In h₀) (N : News h₀ L s.heap news) (T : Top p loose mean mg mb h₀) (hA : A.frames = some (env :: outer)) (hf : env.frame = some L) (hke : env.scope.kind = .function)
    (ho : K.lookup f = some ⟨oc, od, .func (fnOf name qual params body scope dV kV doc pm an cdv ct), osl⟩) (hcd : codeIn K cdv qual = true) (hroom : A.depth < recursionLimit)
    (hbind : BindsTo s (fnOf name qual params body scope dV kV doc pm an cdv ct) args binds) (hloc : ∀ y ∈ binds, scope.names.lookup y.1 = some .local)
    (h : ∀ g L' h₁, Fr h₀ L g m → Fr g L' h₁ (fun y => binds.reverse.lookup y) → News g L' h₁ news → Below A base (env :: outer) g → K.In g → Top p loose mean mg mb g →
      (∀ b o, s.heap.get? b = some o → b ∉ news.map (·.1) → g.get? b = some o) →
      wpAny (model prog w) (A.deeper (envOf qual scope L' f cdv)) (execs body (envOf qual scope L' f cdv))
        (fun fl s' => LeaveK h₀ L m g R (match fl with | .ret v => v | _ => .none) s')
        (fun e s' => wpAny (model prog w) (A.deeper (envOf qual scope L' f cdv)) (leaving (envOf qual scope L' f cdv) e) (fun _ s'' => R (.error e) s'') (fun e' s'' => R (.error e') s'') s')
        { s with heap := h₁, toks := s.toks + binds.length })
    (hco : scope.isCoroutine = false) (hgen : scope.isGenerator = false) (hk : scope.kind = .function)
    (hcell : ∀ x ∈ scope.names, x.2 ≠ .cell) : codeAny (model prog w) A (.call (.ref f) args) R s := by
  obtain ⟨FG, BG, st, lv⟩ := groundX (R := R) B F N hA hf hke
  refine codeAny_call_def (fd := fnX name qual params body scope [] dV kV doc pm an cdv ct) (body := body) (binds := binds) hroom ((X₀.keeps F.keep) _ _ ho) rfl (T.nolimit.keeps F.keep) (codeRec_of (X₀.keeps F.keep) hcd) rfl hbind hcell hloc (fun h₁ hns hk₁ => ?_) hco hgen hk
  exact wpAny_mono (h _ s.heap.objs.size h₁ FG ⟨hns, fun b o e => hk₁ b o (of_hideAll _ e), Nat.le_of_eq (hideAll_size _ _)⟩
    (fun p hp => ⟨hk₁ _ _ (N p hp).1, Nat.ne_of_lt (Heap.lt_size (N p hp).1), hideAll_none _ (List.mem_map_of_mem hp)⟩) BG (X₀.keeps st) (T.keeps st) (fun b o e n => hideAll_get _ e n)) (fun fl s' hl => lv _ _ hl) fun _ _ y => y
end

section
variable {M : Model} {A : Around} {E : Value → Shared → Prop} {h₀ : Heap} {L : Addr} {m : Str → Option Value} {news : List (Addr × Obj)} {name : Str} {scope : Scope} {a : Addr} {cd : Value} {cl : List (Str × Addr)} {x : Str} {Q : Unit → Shared → Prop}
/-- a store forgets its tokens -/
theorem store_int {h : Heap} {g : _} {d : _} {tk : Nat} {o : _} {i : Int} {t : Tok} (F : Fr h₀ L h m) (N : News h₀ L h news)
    (k : ∀ h' t' tk', Fr h₀ L h' (fun y => if y = x then some (.int i t') else m y) → News h₀ L h' news → Q () ⟨h', g, d, tk', o⟩)
    (hk : scope.kind = .function) (hl : (envX name scope L a cd cl).kindOf x = some .local) : wpAny M A (storeName (envX name scope L a cd cl) x (.int i t)) Q E ⟨h, g, d, tk, o⟩ :=
  storeX_L (s := ⟨h, g, d, tk, o⟩) F N (fun h' F' N' => k h' t _ F' N') hk hl
theorem store_bytes {h : Heap} {g : _} {d : _} {tk : Nat} {o : _} {i : Array UInt8} {t : Tok} (F : Fr h₀ L h m) (N : News h₀ L h news)
    (k : ∀ h' t' tk', Fr h₀ L h' (fun y => if y = x then some (.bytes i t') else m y) → News h₀ L h' news → Q () ⟨h', g, d, tk', o⟩)
    (hk : scope.kind = .function) (hl : (envX name scope L a cd cl).kindOf x = some .local) : wpAny M A (storeName (envX name scope L a cd cl) x (.bytes i t)) Q E ⟨h, g, d, tk, o⟩ :=
  storeX_L (s := ⟨h, g, d, tk, o⟩) F N (fun h' F' N' => k h' t _ F' N') hk hl
theorem store_any {h : Heap} {g : _} {d : _} {tk : Nat} {o : _} {v : Value} (F : Fr h₀ L h m) (N : News h₀ L h news)
    (k : ∀ h' tk', Fr h₀ L h' (fun y => if y = x then some v else m y) → News h₀ L h' news → Q () ⟨h', g, d, tk', o⟩)
    (hk : scope.kind = .function) (hl : (envX name scope L a cd cl).kindOf x = some .local) : wpAny M A (storeName (envX name scope L a cd cl) x v) Q E ⟨h, g, d, tk, o⟩ :=
  storeX_L (s := ⟨h, g, d, tk, o⟩) F N (fun h' F' N' => k h' _ F' N') hk hl
/-- a store forgets its tokens -/
theorem store_intL {h : Heap} {g : _} {d : _} {tk : Nat} {o : _} {i : Int} {t : Tok} (F : Fr h₀ L h m) (N : News h₀ L h news)
    (k : ∀ h' t' tk', let m' : Str → Option Value := fun y => if y = x then some (.int i t') else m y; Fr h₀ L h' m' → News h₀ L h' news → Q () ⟨h', g, d, tk', o⟩)
    (hk : scope.kind = .function) (hl : (envX name scope L a cd cl).kindOf x = some .local) : wpAny M A (storeName (envX name scope L a cd cl) x (.int i t)) Q E ⟨h, g, d, tk, o⟩ :=
  storeX_L (s := ⟨h, g, d, tk, o⟩) F N (fun h' F' N' => k h' t _ F' N') hk hl
theorem store_bytesL {h : Heap} {g : _} {d : _} {tk : Nat} {o : _} {i : Array UInt8} {t : Tok} (F : Fr h₀ L h m) (N : News h₀ L h news)
    (k : ∀ h' t' tk', let m' : Str → Option Value := fun y => if y = x then some (.bytes i t') else m y; Fr h₀ L h' m' → News h₀ L h' news → Q () ⟨h', g, d, tk', o⟩)
    (hk : scope.kind = .function) (hl : (envX name scope L a cd cl).kindOf x = some .local) : wpAny M A (storeName (envX name scope L a cd cl) x (.bytes i t)) Q E ⟨h, g, d, tk, o⟩ :=
  storeX_L (s := ⟨h, g, d, tk, o⟩) F N (fun h' F' N' => k h' t _ F' N') hk hl
theorem store_anyL {h : Heap} {g : _} {d : _} {tk : Nat} {o : _} {v : Value} (F : Fr h₀ L h m) (N : News h₀ L h news)
    (k : ∀ h' tk', let m' : Str → Option Value := fun y => if y = x then some v else m y; Fr h₀ L h' m' → News h₀ L h' news → Q () ⟨h', g, d, tk', o⟩)
    (hk : scope.kind = .function) (hl : (envX name scope L a cd cl).kindOf x = some .local) : wpAny M A (storeName (envX name scope L a cd cl) x v) Q E ⟨h, g, d, tk, o⟩ :=
  storeX_L (s := ⟨h, g, d, tk, o⟩) F N (fun h' F' N' => k h' _ F' N') hk hl
end
/-! names of a frame, one by one -/
theorem hm_nil {m : Str → Option Value} : ∀ p ∈ ([] : List (Str × Value)), m p.1 = some p.2 := fun _ h => nomatch h
theorem hm_cons {m : Str → Option Value} {x : Str} {v : Value} {ps : List (Str × Value)} (h : m x = some v) (t : ∀ p ∈ ps, m p.1 = some p.2) : ∀ p ∈ (x, v) :: ps, m p.1 = some p.2 := fun p hp => (List.mem_cons.mp hp).elim (fun e => by rw [e]; exact h) (t p)

local macro_rules | `(tactic| kst_all1) => `(tactic| first | exact hm_nil | (refine hm_cons (by with_unfolding_all rfl) ?_; kst_all1))
/-! Pure1 -/

theorem xor_mod2 (a b : Nat) : (a ^^^ b) % 2 = (a % 2 + b % 2) % 2 := by
  have h := Nat.xor_mod_two_eq_one (a := a) (b := b)
  rcases Nat.mod_two_eq_zero_or_one a with h1 | h1 <;> rcases Nat.mod_two_eq_zero_or_one b with h2 | h2 <;> rcases Nat.mod_two_eq_zero_or_one (a ^^^ b) with h3 | h3 <;> simp_all
theorem or_mod2 (a b : Nat) : (a ||| b) % 2 = (a ^^^ b) % 2 + (a &&& b) % 2 := by
  have e1 := Nat.or_mod_two_eq_one (a := a) (b := b)
  have e2 := xor_mod2 a b
  have e3 := Nat.and_mod_two_eq_one (a := a) (b := b)
  rcases Nat.mod_two_eq_zero_or_one a with h1 | h1 <;> rcases Nat.mod_two_eq_zero_or_one b with h2 | h2 <;> rw [h1, h2] at e1 e2 e3 <;> omega
theorem half_add {x y z : Nat} (h : x / 2 = y / 2 + z / 2) (e : x % 2 = y % 2 + z % 2) : x = y + z := by omega
theorem nat_or_add : ∀ (n a b : Nat), a ≤ n → (a ||| b) = (a ^^^ b) + (a &&& b) := by
  intro n
  induction n with
  | zero =>
    intro a b h
    have : a = 0 := by omega
    subst this
    simp
  | succ n ih =>
    intro a b h
    by_cases ha : a = 0
    · subst ha; simp
    have i := ih (a / 2) (b / 2) (by omega)
    rw [← Nat.or_div_two, ← Nat.xor_div_two, ← Nat.and_div_two] at i
    exact half_add i (or_mod2 a b)
theorem bitAnd_nat (a b : Nat) : Builtin.bitAnd (a : Int) (b : Int) = ((a &&& b : Nat) : Int) := by
  unfold Builtin.bitAnd
  simp
theorem bitOr_nat (a b : Nat) : Builtin.bitOr (a : Int) (b : Int) = ((a ||| b : Nat) : Int) := by
  unfold Builtin.bitOr Builtin.bitAnd Builtin.bitNot
  have h1 : decide ((0:Int) ≤ -(a:Int) - 1) = false := by simp; omega
  have h2 : decide ((0:Int) ≤ -(b:Int) - 1) = false := by simp; omega
  rw [h1, h2]
  have e1 : (-(-(a:Int) - 1) - 1).toNat = a := by omega
  have e2 : (-(-(b:Int) - 1) - 1).toNat = b := by omega
  simp only [e1, e2]
  omega
theorem bitXor_nat (a b : Nat) : Builtin.bitXor (a : Int) (b : Int) = ((a ^^^ b : Nat) : Int) := by
  unfold Builtin.bitXor
  rw [bitOr_nat, bitAnd_nat, nat_or_add a a b (Nat.le_refl _)]
  omega
theorem fdiv_nat (a b : Nat) : (a : Int).fdiv (b : Int) = ((a / b : Nat) : Int) := by
  rw [Int.fdiv_eq_ediv_of_nonneg _ (by omega)]
  exact (Int.natCast_ediv a b).symm
theorem fmod_nat (a b : Nat) : (a : Int).fmod (b : Int) = ((a % b : Nat) : Int) := by
  rw [Int.fmod_eq_emod_of_nonneg _ (by omega)]
  exact (Int.natCast_emod a b).symm

/-! ## the check by CRC -/
noncomputable def cStep (c : Nat) : Nat := (c / 2) ^^^ (2197175160 * (c % 2))
noncomputable def cByte (c o : Nat) : Nat :=
  cStep (cStep (cStep (cStep (cStep (cStep (cStep (cStep (c ^^^ o))))))))
noncomputable def cFold (c : Nat) (l : List Nat) : Nat := l.foldl cByte c

/-- the table of sixteen -/
noncomputable def cTab : List Nat := [0, 274646895, 549293790, 820201905, 1098587580, 1361435347, 1640403810, 1905808397, 2197175160, 2460548119, 2722870694, 2987750089, 3280807620, 3553878443, 3811616794, 4084100981]

theorem xor_lc (a b c : Nat) : a ^^^ (b ^^^ c) = b ^^^ (a ^^^ c) := by rw [← Nat.xor_assoc, Nat.xor_comm a b, Nat.xor_assoc]
theorem xor_cc (a b : Nat) : a ^^^ (a ^^^ b) = b := by rw [← Nat.xor_assoc, Nat.xor_self, Nat.zero_xor]
theorem cStep_lin (a b : Nat) : cStep (a ^^^ b) = cStep a ^^^ cStep b := by
  unfold cStep
  rw [Nat.xor_div_two, xor_mod2]
  have ha : a % 2 = 0 ∨ a % 2 = 1 := by omega
  have hb : b % 2 = 0 ∨ b % 2 = 1 := by omega
  rcases ha with ha | ha <;> rcases hb with hb | hb
  all_goals
    rw [ha, hb]
    simp only [Nat.mul_zero, Nat.mul_one, Nat.xor_zero, Nat.zero_xor, Nat.add_zero, Nat.zero_add, Nat.reduceAdd, Nat.reduceMod, Nat.zero_mod, Nat.one_mod, Nat.mod_self, Nat.xor_assoc, Nat.xor_comm, xor_lc, xor_cc, Nat.xor_self]
theorem cStep_even (m : Nat) : cStep (2 * m) = m := by
  unfold cStep
  have h1 : 2 * m / 2 = m := by omega
  have h2 : 2 * m % 2 = 0 := by omega
  rw [h1, h2]; simp
theorem split16 (c : Nat) : c = (2 * (2 * (2 * (2 * (c / 16))))) ^^^ (c % 16) := by
  have h := nat_or_add _ (2 * (2 * (2 * (2 * (c / 16))))) (c % 16) (Nat.le_refl _)
  have e : 2 * (2 * (2 * (2 * (c / 16)))) = 2 ^ 4 * (c / 16) := by omega
  rw [e] at h ⊢
  have o := Nat.two_pow_add_eq_or_of_lt (i := 4) (b := c % 16) (by omega) (c / 16)
  have z : (2 ^ 4 * (c / 16)) &&& (c % 16) = 0 := by
    have h9 := Nat.two_pow_add_eq_or_of_lt (i := 4) (b := c % 16) (by omega) (c / 16)
    apply Nat.eq_of_testBit_eq
    intro i
    rw [Nat.testBit_and, Nat.zero_testBit]
    by_cases hi : i < 4
    · have : (2 ^ 4 * (c / 16)).testBit i = false := by
        rw [Nat.testBit_two_pow_mul]
        simp; omega
      simp [this]
    · have : (c % 16).testBit i = false := by
        apply Nat.testBit_lt_two_pow
        have : 2 ^ 4 ≤ 2 ^ i := Nat.pow_le_pow_right (by omega) (by omega)
        omega
      simp [this]
  rw [z, Nat.add_zero] at h
  rw [← h, ← o]
  omega
/-- four steps are one look into the table -/
theorem cNib (c : Nat) : (c / 16) ^^^ (cTab.getD (c % 16) 0) = cStep (cStep (cStep (cStep c))) := by
  have e : cStep (cStep (cStep (cStep c))) = cStep (cStep (cStep (cStep ((2 * (2 * (2 * (2 * (c / 16))))) ^^^ (c % 16))))) := by rw [← split16]
  rw [e]
  simp only [cStep_lin, cStep_even]
  congr 1
  have : ∀ l : Fin 16, cTab.getD l.val 0 = cStep (cStep (cStep (cStep l.val))) := by decide
  exact this ⟨c % 16, by omega⟩
theorem xor_lt {a b : Nat} (ha : a < 4294967296) (hb : b < 4294967296) : a ^^^ b < 4294967296 := Nat.xor_lt_two_pow (n := 32) ha hb
theorem cStep_lt {c : Nat} (h : c < 4294967296) : cStep c < 4294967296 := by
  unfold cStep
  have : c % 2 = 0 ∨ c % 2 = 1 := by omega
  refine xor_lt (by omega) (by omega)
theorem cByte_lt {c o : Nat} (h : c < 4294967296) (ho : o < 256) : cByte c o < 4294967296 := by
  unfold cByte
  exact cStep_lt (cStep_lt (cStep_lt (cStep_lt (cStep_lt (cStep_lt (cStep_lt (cStep_lt (xor_lt h (by omega)))))))))
theorem cFold_lt : ∀ {l : List Nat} {c : Nat}, c < 4294967296 → (∀ o ∈ l, o < 256) → cFold c l < 4294967296
  | [], _, h, _ => h
  | o :: r, c, h, hl => by
    unfold cFold
    rw [List.foldl_cons]
    exact cFold_lt (l := r) (cByte_lt h (hl o (.head _))) fun x hx => hl x (.tail _ hx)
theorem xor_all {c : Nat} (h : c < 4294967296) : c ^^^ 4294967295 = 4294967295 - c := by
  have h1 := nat_or_add _ c 4294967295 (Nat.le_refl _)
  have h2 : c &&& 4294967295 = c := by
    have := Nat.and_two_pow_sub_one_eq_mod c 32
    rw [show (2:Nat) ^ 32 - 1 = 4294967295 from rfl] at this
    rw [this]; exact Nat.mod_eq_of_lt h
  have h3 : c ||| 4294967295 = 4294967295 := by
    apply Nat.eq_of_testBit_eq
    intro i
    rw [Nat.testBit_or]
    by_cases hi : i < 32
    · have : (4294967295 : Nat).testBit i = true := by
        rw [show (4294967295 : Nat) = 2 ^ 32 - 1 from rfl, Nat.testBit_two_pow_sub_one]; simpa using hi
      simp [this]
    · have hp : 2 ^ 32 ≤ 2 ^ i := Nat.pow_le_pow_right (by omega) (by omega)
      have a1 : c.testBit i = false := Nat.testBit_lt_two_pow (by omega)
      simp [a1]
  omega

/-! Crc -/

noncomputable def cTabI : List Int := [0, 274646895, 549293790, 820201905, 1098587580, 1361435347, 1640403810, 1905808397, 2197175160, 2460548119, 2722870694, 2987750089, 3280807620, 3553878443, 3811616794, 4084100981]
theorem ints_put {n k : Int} {t : Tok} {vs : List Value} {ns : List Int} (e : n = k) (h : IntsAre vs ns) : IntsAre (.int n t :: vs) (k :: ns) := e ▸ .cons n t h
set_option maxHeartbeats 8000000 in
theorem table_spec (w : World) :
    MSpec 800 6000 w 103 [] [] (fun v news' => ∃ D vs n, v = .ref D ∧ news' = [(D, listOf (List.toArray vs) n)] ∧ IntsAre vs cTabI) := by
  w_top off
  k_with_none
  k_with "execs cons" => (((try k_fold); (try (conv => arg 6; dsimp only)); refine gen_toks ?_; intro tkκ; refine wpAny_execs_cons ?_))
  k_with "storeName" => ((k_here; (try (conv => arg 6; dsimp only)); k_dflt (first
  | ((with_reducible show wpAny _ _ (storeName _ _ (Value.int _ _)) _ _ _); (refine' store_intL (by k_asm) (by k_asm) ?_ (by rfl) (by rfl); k_whole; intro h'κ t'κ tk'κ m'κ F'κ N'κ; (try k_sweep)))
  | ((with_reducible show wpAny _ _ (storeName _ _ (Value.bytes _ _)) _ _ _); (refine' store_bytesL (by k_asm) (by k_asm) ?_ (by rfl) (by rfl); k_whole; intro h'κ t'κ tk'κ m'κ F'κ N'κ; (try k_sweep)))
  | (refine' store_anyL (by k_asm) (by k_asm) ?_ (by rfl) (by rfl); k_whole; intro h'κ tk'κ m'κ F'κ N'κ; (try k_sweep)))))
  k_with "binaryOp RShift int int" => ((with_reducible refine rshift_int (by decide) ?_))
  unfold MSpec
  k_fill
  intro mean mg mb gd cn cs a ccd cl outer A₀ base h₀ L m s Q E B F X N T hk hret
  refine wpAny_call ?_
  k_dflt (refine' enterM ?k1 ?k2 ?k3 ?k4 ?k5 ?kA ?kF ?kK ?k6 ?k7 ?k8 ?k9 ?kB ?_ ?c2 ?c3 ?c4 ?c5; (case kA => exact rfl); (case kF => exact rfl); (case kK => assumption); (case k1 => k_asm); (case k2 => k_asm); (case k3 => k_asm); (case k4 => k_asm); (case k5 => k_asm); (case k6 => k_is); (case k7 => k_is); (case k8 => ktr_room); (case k9 => first | exact BindsTo.of_eq rfl | exact binds_K (by k_in) rfl (by k_is) rfl rfl rfl); (case c5 => decide); (case kB => exact locs rfl); (case c2 => exact rfl); (case c3 => exact rfl); (case c4 => exact rfl); k_whole)
  intro gX LX hX FGX FX NX BX XX TX GX
  clear B F X N T
  (try dsimp only)
  (try k_fold)
  k_steps
  dsimp only
  k_steps
  refine leaveK_ (by assumption) (by assumption) (fun kF kN => ?_)
  refine hret _ [(_, _)] _ _ ⟨_, _, _, rfl, rfl, ?_⟩ kF (kst_newsOf kN (by intro p hp; simp only [List.mem_cons, List.not_mem_nil, or_false] at hp ⊢; exact Or.inl hp)) (fun b o e n => Fr.keep (by assumption) b o (GX b o e n))
  unfold cTabI
  repeat refine ints_put (by decide +kernel) ?_
  exact .nil

/-! Crc2 -/

theorem nib_int (x : Nat) : Builtin.bitXor ((x : Int).fdiv (2 ^ Int.toNat 4)) (cTabI.getD (Builtin.bitAnd (x : Int) 15).toNat 0) = ((cStep (cStep (cStep (cStep x))) : Nat) : Int) := by
  have e1 : (x : Int).fdiv (2 ^ Int.toNat 4) = ((x / 16 : Nat) : Int) := fdiv_nat x 16
  have e2 : (Builtin.bitAnd (x : Int) 15).toNat = x % 16 := by
    rw [bitAnd_m4]
    omega
  have e3 : ∀ l : Fin 16, cTabI.getD l.val 0 = ((cTab.getD l.val 0 : Nat) : Int) := by decide
  have e4 := e3 ⟨x % 16, by omega⟩
  dsimp only at e4
  rw [e1, e2, e4, bitXor_nat, cNib]
theorem crc_turn {f k : Int} {pre : List Int} {d1 d2 : Int} (hf : f = ((cFold 4294967295 (pre.map Int.toNat) : Nat) : Int)) (h0 : 0 ≤ k)
    (e1 : d1 = Builtin.bitXor ((Builtin.bitXor f k).fdiv (2 ^ Int.toNat 4)) (cTabI.getD (Builtin.bitAnd (Builtin.bitXor f k) 15).toNat 0))
    (e2 : d2 = Builtin.bitXor (d1.fdiv (2 ^ Int.toNat 4)) (cTabI.getD (Builtin.bitAnd d1 15).toNat 0)) :
    d2 = ((cFold 4294967295 ((pre ++ [k]).map Int.toNat) : Nat) : Int) := by
  obtain ⟨j, rfl⟩ : ∃ j : Nat, k = (j : Int) := ⟨k.toNat, by omega⟩
  subst hf
  rw [bitXor_nat, nib_int] at e1
  subst e1
  rw [nib_int] at e2
  subst e2
  unfold cFold
  rw [List.map_append, List.foldl_append]
  rfl

theorem crc_end {f : Int} {b : List UInt8} {t : Tok} (hf : f = ((cFold 4294967295 (List.map Int.toNat (List.map (fun c : UInt8 => (c.toNat : Int)) b)) : Nat) : Int)) :
    Value.int (Builtin.bitXor f 4294967295) t = .int (((cFold 4294967295 (b.map UInt8.toNat)) ^^^ 4294967295 : Nat) : Int) t := by
  subst hf
  have e := bitXor_nat (cFold 4294967295 (List.map Int.toNat (List.map (fun c : UInt8 => (c.toNat : Int)) b))) 4294967295
  rw [List.map_map] at e ⊢
  exact congrArg (Value.int · t) e

section
set_option maxHeartbeats 8000000 in
theorem crc_spec (w : World) (b : List UInt8) (tb : Tok) (hb : b.length ≤ 64) :
    MSpec 780 5900 w 111 [.bytes b.toArray tb] [] (fun v news' => news' = [] ∧ ∃ t, v = .int (((cFold 4294967295 (b.map UInt8.toNat)) ^^^ 4294967295 : Nat) : Int) t) := by
  w_top off
  k_with_none
  k_with "execs cons" => (((try k_fold); (try (conv => arg 6; dsimp only)); refine gen_toks ?_; intro tkκ; refine wpAny_execs_cons ?_))
  k_with "storeName" => ((k_here; (try (conv => arg 6; dsimp only)); k_dflt (first
  | ((with_reducible show wpAny _ _ (storeName _ _ (Value.int _ _)) _ _ _); (refine' store_int (by k_asm) (by k_asm) ?_ (by rfl) (by rfl); k_whole; intro h'κ t'κ tk'κ F'κ N'κ; (try k_sweep)))
  | ((with_reducible show wpAny _ _ (storeName _ _ (Value.bytes _ _)) _ _ _); (refine' store_bytes (by k_asm) (by k_asm) ?_ (by rfl) (by rfl); k_whole; intro h'κ t'κ tk'κ F'κ N'κ; (try k_sweep)))
  | (refine' store_any (by k_asm) (by k_asm) ?_ (by rfl) (by rfl); k_whole; intro h'κ tk'κ F'κ N'κ; (try k_sweep)))))
  k_with "binaryOp RShift int int" => ((with_reducible refine rshift_int (by decide) ?_))
  k_with "subscriptTail" => ((k_here; (with_reducible show wpAny _ _ (subscriptTail _ _ (Value.ref _) (Value.int (Builtin.bitAnd _ 15) _)) _ _ _); k_dflt (refine' item_list_ints (ns := cTabI) (by exact News.isList (by assumption) (List.Mem.head _)) (by assumption) (by exact (bitAnd_range _ (by decide)).1) (by exact Int.lt_of_le_of_lt (bitAnd_range _ (by decide)).2 (by decide)) (by exact Int.lt_of_le_of_lt (bitAnd_range _ (by decide)).2 (by decide)) ?_; intro t'κ)))
  k_with "call ref" => ((k_here; (with_reducible show wpAny _ _ (call (Value.ref 103) _) _ _ _); k_dflt (refine' MSpec.madeL (by k_asm) (by k_asm) (by k_asm) (by k_asm) (by k_asm) (by exact rfl) (by first | exact rfl | assumption) (by exact rfl) (by exact Nat.le_of_ble_eq_true rfl) (by exact Nat.le_of_ble_eq_true rfl) (table_spec _) ?_; rintro v'κ n'κ h'κ tk'κ ⟨Dκ, vsκ, nκ, e1κ, e2κ, hIκ⟩ F'κ N'κ; subst e1κ; subst e2κ; dsimp only [List.cons_append, List.nil_append] at N'κ; (try k_sweep))))
  unfold MSpec
  k_fill
  intro mean mg mb gd cn cs a ccd cl outer A₀ base h₀ L m s Q E B F X N T hk hret
  refine wpAny_call ?_
  k_dflt (refine' enterM ?k1 ?k2 ?k3 ?k4 ?k5 ?kA ?kF ?kK ?k6 ?k7 ?k8 ?k9 ?kB ?_ ?c2 ?c3 ?c4 ?c5; (case kA => exact rfl); (case kF => exact rfl); (case kK => assumption); (case k1 => k_asm); (case k2 => k_asm); (case k3 => k_asm); (case k4 => k_asm); (case k5 => k_asm); (case k6 => k_is); (case k7 => k_is); (case k8 => ktr_room); (case k9 => first | exact BindsTo.of_eq rfl | exact binds_K (by k_in) rfl (by k_is) rfl rfl rfl); (case c5 => decide); (case kB => exact locs rfl); (case c2 => exact rfl); (case c3 => exact rfl); (case c4 => exact rfl); k_whole)
  intro gX LX hX FGX FX NX BX XX TX GX
  clear B F X N T
  (try dsimp only)
  (try k_fold)
  k_with "pyIter bytes" => k_state (fun pre c => c = ((cFold 4294967295 (pre.map Int.toNat) : Nat) : Int)) "c"
  k_with "state" => exact crc_turn (by assumption) (by assumption) rfl rfl
  k_steps
  (try dsimp only)
  (try k_unfold)
  (try dsimp only)
  refine leaveK_ (by assumption) (by assumption) (fun kF kN => ?_)
  exact hret _ [] _ _ ⟨rfl, _, crc_end (by assumption)⟩ kF News.nil (fun b o e n => Fr.keep (by assumption) b o (GX b o e n))
end

/-! ByX -/
noncomputable def sumB (b : List UInt8) : Nat := (b.map UInt8.toNat).sum
noncomputable def byVal (b : List UInt8) (i : Nat) : Int := ((b.getD i 0).toNat : Int)
theorem byVal_sum (b : List UInt8) : ∀ n, n ≤ b.length → preSum (byVal b) n = ((sumB (b.take n) : Nat) : Int) := by
  intro n
  induction n with
  | zero => intro _; rfl
  | succ n ih =>
    intro h
    have hn : b[n]? = some b[n] := List.getElem?_eq_getElem (by omega)
    unfold preSum
    rw [ih (by omega), List.take_add_one, hn]
    unfold sumB byVal
    simp only [List.map_append, List.sum_append, Option.toList, List.map_cons, List.map_nil, List.sum_cons, List.sum_nil, List.getD, hn, Option.getD]
    omega
theorem sumB_le (b : List UInt8) : sumB b ≤ 255 * b.length := by
  induction b with
  | nil => simp [sumB]
  | cons c r ih =>
    have := UInt8.toNat_lt c
    unfold sumB at ih ⊢
    simp only [List.map_cons, List.sum_cons, List.length_cons]
    omega
section
variable {prog : Program} {w : World} {A : Around} {E : Value → Shared → Prop} {s : Shared} {h₀ : Heap} {L : Addr} {m : Str → Option Value} {news : List (Addr × Obj)}
theorem sum_bytes {b : List UInt8} {tb : Tok} {Q : Value → Shared → Prop} (F : Fr h₀ L s.heap m) (N : News h₀ L s.heap news) (hh : A.handled = none) (hb : b.length ≤ 1048576)
    (h : ∀ h' tk t', Fr h₀ L h' m → News h₀ L h' news → Q (.int ((sumB b : Nat) : Int) t') { s with heap := h', toks := tk }) :
    wpAny (model prog w) A (call (.builtin "sum") [.bytes b.toArray tb]) Q E s := by
  refine call_sum_walk (KBw.pyIter_bytes ?_)
  refine ⟨s.heap.objs.size, _, _, _, _, _, byVal b, rfl, KBw.walks (prog := prog) (w := w) (A := A.in1) hh s.heap.objs.size b.toArray tb, ⟨_, Heap.get?_push_size _ rfl, rfl, rfl⟩, ?_, ?_, ?_, ?_⟩
  · intro a ha
    rw [List.mem_singleton.mp ha]
    show s.heap.objs.size < (s.heap.objs.push _).size
    simp
  · rintro i v ⟨c, u, hc, rfl⟩
    refine ⟨u, ?_⟩
    unfold byVal
    have : b[i]? = some c := by simpa using hc
    simp [List.getD, this]
  · intro j hj
    have hj' : j < b.length := by simpa using hj
    have h1 := UInt8.toNat_lt (b.getD j 0)
    have h2 := sumB_le (b.take (j + 1))
    have h3 : (b.take (j + 1)).length ≤ 1048576 := by rw [List.length_take]; omega
    refine ⟨?_, ?_⟩
    · unfold InLong byVal; omega
    · rw [byVal_sum b (j + 1) (by omega)]
      unfold InLong
      omega
  · intro h' tk t' hk
    have e : preSum (byVal b) b.toArray.size = ((sumB b : Nat) : Int) := by
      rw [List.size_toArray, byVal_sum b _ (Nat.le_refl _), List.take_length]
    rw [e]
    have k : ∀ a o, s.heap.get? a = some o → h'.get? a = some o := fun a o ho => by
      refine hk a o (fun hm => ?_) (Heap.get?_push_of_some _ ho)
      rw [List.mem_singleton.mp hm] at ho
      exact absurd (Heap.lt_size ho) (Nat.lt_irrefl _)
    exact h h' tk t' (F.keeps k) (news_keep N k)
end

/-! Small -/
noncomputable def maskN (r : Nat) : Nat := (r / 32768 + r % 32768 * 131072 + 2726488792) % 4294967296
noncomputable def chkN (check : Int) (b : List UInt8) : Nat :=
  if check = 2 then (sumB b * 251 + b.length * 65537 + 7) % 4294967296 else maskN (4294967295 - cFold 4294967295 (b.map UInt8.toNat))
theorem mask_end {c : Nat} (hc : c < 4294967296) : Builtin.bitAnd (Builtin.bitOr ((c : Int).fdiv (2 ^ Int.toNat 15)) ((c : Int) * 2 ^ Int.toNat 17) + 2726488792) 4294967295 = ((maskN c : Nat) : Int) := by
  have e1 : (c : Int).fdiv (2 ^ Int.toNat 15) = ((c / 32768 : Nat) : Int) := fdiv_nat c 32768
  have e2 : (c : Int) * 2 ^ Int.toNat 17 = ((c * 131072 : Nat) : Int) := by
    have : (2 : Int) ^ Int.toNat 17 = 131072 := by decide
    rw [this]; omega
  have e3 : (c / 32768 ||| c * 131072) = c / 32768 + c * 131072 := by
    have h := Nat.two_pow_add_eq_or_of_lt (i := 17) (b := c / 32768) (by omega) c
    rw [show (2:Nat) ^ 17 = 131072 from rfl] at h
    rw [Nat.or_comm, Nat.mul_comm c, ← h]; omega
  rw [e1, e2, bitOr_nat, e3, bitAnd_m32]
  unfold maskN
  omega
set_option maxHeartbeats 8000000 in
theorem mask_spec (w : World) (c : Nat) (tk : Tok) (hc : c < 4294967296) :
    MSpec 790 5950 w 118 [.int c tk] [] (fun v news' => news' = [] ∧ ∃ t, v = .int ((maskN c : Nat) : Int) t) := by
  w_top off
  k_with_none
  k_with "execs cons" => (((try k_fold); (try (conv => arg 6; dsimp only)); refine gen_toks ?_; intro tkκ; refine wpAny_execs_cons ?_))
  k_with "storeName" => ((k_here; (try (conv => arg 6; dsimp only)); k_dflt (first
  | ((with_reducible show wpAny _ _ (storeName _ _ (Value.int _ _)) _ _ _); (refine' store_intL (by k_asm) (by k_asm) ?_ (by rfl) (by rfl); k_whole; intro h'κ t'κ tk'κ m'κ F'κ N'κ; (try k_sweep)))
  | ((with_reducible show wpAny _ _ (storeName _ _ (Value.bytes _ _)) _ _ _); (refine' store_bytesL (by k_asm) (by k_asm) ?_ (by rfl) (by rfl); k_whole; intro h'κ t'κ tk'κ m'κ F'κ N'κ; (try k_sweep)))
  | (refine' store_anyL (by k_asm) (by k_asm) ?_ (by rfl) (by rfl); k_whole; intro h'κ tk'κ m'κ F'κ N'κ; (try k_sweep)))))
  k_with "binaryOp RShift int int" => ((with_reducible refine rshift_int (by decide) ?_))
  unfold MSpec
  k_fill
  intro mean mg mb gd cn cs a ccd cl outer A₀ base h₀ L m s Q E B F X N T hk hret
  refine wpAny_call ?_
  k_dflt (refine' enterM ?k1 ?k2 ?k3 ?k4 ?k5 ?kA ?kF ?kK ?k6 ?k7 ?k8 ?k9 ?kB ?_ ?c2 ?c3 ?c4 ?c5; (case kA => exact rfl); (case kF => exact rfl); (case kK => assumption); (case k1 => k_asm); (case k2 => k_asm); (case k3 => k_asm); (case k4 => k_asm); (case k5 => k_asm); (case k6 => k_is); (case k7 => k_is); (case k8 => ktr_room); (case k9 => first | exact BindsTo.of_eq rfl | exact binds_K (by k_in) rfl (by k_is) rfl rfl rfl); (case c5 => decide); (case kB => exact locs rfl); (case c2 => exact rfl); (case c3 => exact rfl); (case c4 => exact rfl); k_whole)
  intro gX LX hX FGX FX NX BX XX TX GX
  clear B F X N T
  (try dsimp only)
  (try k_fold)
  k_steps
  (try dsimp only)
  (try k_unfold)
  (try dsimp only)
  refine leaveK_ (by assumption) (by assumption) (fun kF kN => ?_)
  exact hret _ [] _ _ ⟨rfl, _, congrArg (Value.int · _) (mask_end hc)⟩ kF News.nil (fun b o e n => Fr.keep (by assumption) b o (GX b o e n))

theorem cF_lt (b : List UInt8) : cFold 4294967295 (b.map UInt8.toNat) < 4294967296 :=
  cFold_lt (by decide) (by intro o ho; obtain ⟨c9, _, rfl⟩ := List.mem_map.mp ho; exact UInt8.toNat_lt c9)
theorem cX_lt (b : List UInt8) : cFold 4294967295 (b.map UInt8.toNat) ^^^ 4294967295 < 4294967296 := xor_lt (cF_lt b) (by decide)
theorem chk1_end (b : List UInt8) : maskN (cFold 4294967295 (b.map UInt8.toNat) ^^^ 4294967295) = chkN 1 b := by
  unfold chkN
  rw [xor_all (cF_lt b), if_neg (by decide)]
theorem chk2_end (b : List UInt8) : Builtin.bitAnd (((sumB b : Nat) : Int) * 251 + (b.length : Int) * 65537 + 7) 4294967295 = ((chkN 2 b : Nat) : Int) := by
  rw [bitAnd_m32]
  unfold chkN
  rw [if_pos rfl]
  omega
section
set_option maxHeartbeats 8000000 in
theorem checksum1 (w : World) (tk : Tok) (b : List UInt8) (tb : Tok) (hb : b.length ≤ 64) :
    MSpec 760 5800 w 125 [.int 1 tk, .bytes b.toArray tb] [] (fun v news' => news' = [] ∧ ∃ t, v = .int ((chkN 1 b : Nat) : Int) t) := by
  w_top off
  k_with_none
  k_with "execs cons" => (((try k_fold); (try (conv => arg 6; dsimp only)); refine gen_toks ?_; intro tkκ; refine wpAny_execs_cons ?_))
  k_with "storeName" => ((k_here; (try (conv => arg 6; dsimp only)); k_dflt (first
  | ((with_reducible show wpAny _ _ (storeName _ _ (Value.int _ _)) _ _ _); (refine' store_intL (by k_asm) (by k_asm) ?_ (by rfl) (by rfl); k_whole; intro h'κ t'κ tk'κ m'κ F'κ N'κ; (try k_sweep)))
  | ((with_reducible show wpAny _ _ (storeName _ _ (Value.bytes _ _)) _ _ _); (refine' store_bytesL (by k_asm) (by k_asm) ?_ (by rfl) (by rfl); k_whole; intro h'κ t'κ tk'κ m'κ F'κ N'κ; (try k_sweep)))
  | (refine' store_anyL (by k_asm) (by k_asm) ?_ (by rfl) (by rfl); k_whole; intro h'κ tk'κ m'κ F'κ N'κ; (try k_sweep)))))
  k_with "binaryOp RShift int int" => ((with_reducible refine rshift_int (by decide) ?_))
  k_with "call ref" => ((k_here; (with_reducible show wpAny _ _ (call (Value.ref 118) _) _ _ _); k_dflt (refine' MSpec.pureL (by k_asm) (by k_asm) (by k_asm) (by k_asm) (by k_asm) (by exact rfl) (by first | exact rfl | assumption) (by exact rfl) (by exact Nat.le_of_ble_eq_true rfl) (by exact Nat.le_of_ble_eq_true rfl) (mask_spec _ _ _ (cX_lt _)) ?_; rintro v'κ h'κ tk'κ ⟨nκ, e1κ, tκ, e2κ⟩ F'κ N'κ; subst e2κ; (try k_sweep))))
  k_with "call ref" => ((k_here; (with_reducible show wpAny _ _ (call (Value.ref 111) _) _ _ _); k_dflt (refine' MSpec.pureL (by k_asm) (by k_asm) (by k_asm) (by k_asm) (by k_asm) (by exact rfl) (by first | exact rfl | assumption) (by exact rfl) (by exact Nat.le_of_ble_eq_true rfl) (by exact Nat.le_of_ble_eq_true rfl) (crc_spec _ _ _ (by assumption)) ?_; rintro v'κ h'κ tk'κ ⟨nκ, e1κ, tκ, e2κ⟩ F'κ N'κ; subst e2κ; (try k_sweep))))
  k_with "call builtin:sum" => ((k_here; (with_reducible show wpAny _ _ (call (Value.builtin "sum") [Value.bytes _ _]) _ _ _); k_dflt (refine' sum_bytes (by k_asm) (by k_asm) (by exact rfl) (by exact Nat.le_trans (by assumption) (by decide)) ?_; intro h'κ tk'κ t'κ F'κ N'κ; (try k_sweep))))
  unfold MSpec
  k_fill
  intro mean mg mb gd cn cs a ccd cl outer A₀ base h₀ L m s Q E B F X N T hk hret
  refine wpAny_call ?_
  k_dflt (refine' enterM ?k1 ?k2 ?k3 ?k4 ?k5 ?kA ?kF ?kK ?k6 ?k7 ?k8 ?k9 ?kB ?_ ?c2 ?c3 ?c4 ?c5; (case kA => exact rfl); (case kF => exact rfl); (case kK => assumption); (case k1 => k_asm); (case k2 => k_asm); (case k3 => k_asm); (case k4 => k_asm); (case k5 => k_asm); (case k6 => k_is); (case k7 => k_is); (case k8 => ktr_room); (case k9 => first | exact BindsTo.of_eq rfl | exact binds_K (by k_in) rfl (by k_is) rfl rfl rfl); (case c5 => decide); (case kB => exact locs rfl); (case c2 => exact rfl); (case c3 => exact rfl); (case c4 => exact rfl); k_whole)
  intro gX LX hX FGX FX NX BX XX TX GX
  clear B F X N T
  (try dsimp only)
  (try k_fold)
  k_steps
  (try dsimp only)
  (try k_unfold)
  (try dsimp only)
  refine leaveK_ (by assumption) (by assumption) (fun kF kN => ?_)
  exact hret _ [] _ _ ⟨rfl, _, congrArg (fun k : Nat => Value.int (k : Int) _) (chk1_end b)⟩ kF News.nil (fun b o e n => Fr.keep (by assumption) b o (GX b o e n))
set_option maxHeartbeats 8000000 in
theorem checksum2 (w : World) (tk : Tok) (b : List UInt8) (tb : Tok) (hb : b.length ≤ 64) :
    MSpec 760 5800 w 125 [.int 2 tk, .bytes b.toArray tb] [] (fun v news' => news' = [] ∧ ∃ t, v = .int ((chkN 2 b : Nat) : Int) t) := by
  w_top off
  k_with_none
  k_with "execs cons" => (((try k_fold); (try (conv => arg 6; dsimp only)); refine gen_toks ?_; intro tkκ; refine wpAny_execs_cons ?_))
  k_with "storeName" => ((k_here; (try (conv => arg 6; dsimp only)); k_dflt (first
  | ((with_reducible show wpAny _ _ (storeName _ _ (Value.int _ _)) _ _ _); (refine' store_intL (by k_asm) (by k_asm) ?_ (by rfl) (by rfl); k_whole; intro h'κ t'κ tk'κ m'κ F'κ N'κ; (try k_sweep)))
  | ((with_reducible show wpAny _ _ (storeName _ _ (Value.bytes _ _)) _ _ _); (refine' store_bytesL (by k_asm) (by k_asm) ?_ (by rfl) (by rfl); k_whole; intro h'κ t'κ tk'κ m'κ F'κ N'κ; (try k_sweep)))
  | (refine' store_anyL (by k_asm) (by k_asm) ?_ (by rfl) (by rfl); k_whole; intro h'κ tk'κ m'κ F'κ N'κ; (try k_sweep)))))
  k_with "binaryOp RShift int int" => ((with_reducible refine rshift_int (by decide) ?_))
  k_with "call ref" => ((k_here; (with_reducible show wpAny _ _ (call (Value.ref 118) _) _ _ _); k_dflt (refine' MSpec.pureL (by k_asm) (by k_asm) (by k_asm) (by k_asm) (by k_asm) (by exact rfl) (by first | exact rfl | assumption) (by exact rfl) (by exact Nat.le_of_ble_eq_true rfl) (by exact Nat.le_of_ble_eq_true rfl) (mask_spec _ _ _ (cX_lt _)) ?_; rintro v'κ h'κ tk'κ ⟨nκ, e1κ, tκ, e2κ⟩ F'κ N'κ; subst e2κ; (try k_sweep))))
  k_with "call ref" => ((k_here; (with_reducible show wpAny _ _ (call (Value.ref 111) _) _ _ _); k_dflt (refine' MSpec.pureL (by k_asm) (by k_asm) (by k_asm) (by k_asm) (by k_asm) (by exact rfl) (by first | exact rfl | assumption) (by exact rfl) (by exact Nat.le_of_ble_eq_true rfl) (by exact Nat.le_of_ble_eq_true rfl) (crc_spec _ _ _ (by assumption)) ?_; rintro v'κ h'κ tk'κ ⟨nκ, e1κ, tκ, e2κ⟩ F'κ N'κ; subst e2κ; (try k_sweep))))
  k_with "call builtin:sum" => ((k_here; (with_reducible show wpAny _ _ (call (Value.builtin "sum") [Value.bytes _ _]) _ _ _); k_dflt (refine' sum_bytes (by k_asm) (by k_asm) (by exact rfl) (by exact Nat.le_trans (by assumption) (by decide)) ?_; intro h'κ tk'κ t'κ F'κ N'κ; (try k_sweep))))
  unfold MSpec
  k_fill
  intro mean mg mb gd cn cs a ccd cl outer A₀ base h₀ L m s Q E B F X N T hk hret
  refine wpAny_call ?_
  k_dflt (refine' enterM ?k1 ?k2 ?k3 ?k4 ?k5 ?kA ?kF ?kK ?k6 ?k7 ?k8 ?k9 ?kB ?_ ?c2 ?c3 ?c4 ?c5; (case kA => exact rfl); (case kF => exact rfl); (case kK => assumption); (case k1 => k_asm); (case k2 => k_asm); (case k3 => k_asm); (case k4 => k_asm); (case k5 => k_asm); (case k6 => k_is); (case k7 => k_is); (case k8 => ktr_room); (case k9 => first | exact BindsTo.of_eq rfl | exact binds_K (by k_in) rfl (by k_is) rfl rfl rfl); (case c5 => decide); (case kB => exact locs rfl); (case c2 => exact rfl); (case c3 => exact rfl); (case c4 => exact rfl); k_whole)
  intro gX LX hX FGX FX NX BX XX TX GX
  clear B F X N T
  (try dsimp only)
  (try k_fold)
  k_steps
  (try dsimp only)
  (try k_unfold)
  (try dsimp only)
  refine leaveK_ (by assumption) (by assumption) (fun kF kN => ?_)
  exact hret _ [] _ _ ⟨rfl, _, congrArg (Value.int · _) (chk2_end b)⟩ kF News.nil (fun b o e n => Fr.keep (by assumption) b o (GX b o e n))
end
theorem checksum_spec (w : World) (kind : Int) (tk : Tok) (b : List UInt8) (tb : Tok) (hb : b.length ≤ 64) (hk : kind = 1 ∨ kind = 2) :
    MSpec 760 5800 w 125 [.int kind tk, .bytes b.toArray tb] [] (fun v news' => news' = [] ∧ ∃ t, v = .int ((chkN kind b : Nat) : Int) t) := by
  rcases hk with rfl | rfl
  · exact checksum1 w tk b tb hb
  · exact checksum2 w tk b tb hb

/-! Fix -/
noncomputable def le32 (n : Nat) : List UInt8 := [(n % 256).toUInt8, (n / 256 % 256).toUInt8, (n / 65536 % 256).toUInt8, (n / 16777216).toUInt8]
noncomputable def putI (n : Nat) : List Int := [Builtin.bitAnd (n : Int) 255, Builtin.bitAnd ((n : Int).fdiv (2 ^ Int.toNat 8)) 255, Builtin.bitAnd ((n : Int).fdiv (2 ^ Int.toNat 16)) 255, (n : Int).fdiv (2 ^ Int.toNat 24)]
theorem p24 : (2 : Int) ^ Int.toNat 24 = ((16777216 : Nat) : Int) := by decide +kernel
theorem p16 : (2 : Int) ^ Int.toNat 16 = ((65536 : Nat) : Int) := by decide +kernel
theorem p8 : (2 : Int) ^ Int.toNat 8 = ((256 : Nat) : Int) := by decide +kernel
theorem putI_eq (n : Nat) : putI n = [((n % 256 : Nat) : Int), ((n / 256 % 256 : Nat) : Int), ((n / 65536 % 256 : Nat) : Int), ((n / 16777216 : Nat) : Int)] := by
  have e1 : (n : Int).fdiv (2 ^ Int.toNat 8) = ((n / 256 : Nat) : Int) := by rw [p8, fdiv_nat]
  have e2 : (n : Int).fdiv (2 ^ Int.toNat 16) = ((n / 65536 : Nat) : Int) := by rw [p16, fdiv_nat]
  have e3 : (n : Int).fdiv (2 ^ Int.toNat 24) = ((n / 16777216 : Nat) : Int) := by rw [p24, fdiv_nat]
  unfold putI
  rw [e1, e2, e3, bitAnd_m8, bitAnd_m8, bitAnd_m8]
  simp only [Int.natCast_emod]
  rfl
theorem putI_in {n : Nat} (hn : n < 4294967296) : ∀ k ∈ putI n, 0 ≤ k ∧ k < 256 := by
  rw [putI_eq]
  intro k hk
  simp only [List.mem_cons, List.not_mem_nil, or_false] at hk
  rcases hk with rfl | rfl | rfl | rfl <;> omega
theorem putI_bytes (n : Nat) : (putI n).map (fun k => k.toNat.toUInt8) = le32 n := by
  rw [putI_eq]; rfl
theorem shl_byte {prog : Program} {w : World} {A : Around} {E : Value → Shared → Prop} {s : Shared} {Q : Value → Shared → Prop} {c : UInt8} {n : Int} {t u : Tok} (p : Nat) (h0 : 0 ≤ n) (h1 : n ≤ 1000000) (hp : (2 : Int) ^ n.toNat = ((p : Nat) : Int))
    (h : Q (.int ((c.toNat * p : Nat) : Int) s.toks) { s with toks := s.toks + 1 }) : wpAny (model prog w) A (binaryOp .LShift (.int ((c.toNat : Nat) : Int) t) (.int n u)) Q E s := by
  refine lshift_int_small h0 h1 ?_ ?_
  · have := UInt8.toNat_lt c
    rw [Int.natAbs_natCast]
    omega
  · rw [hp, ← Int.natCast_mul]
    exact h
theorem or_bytesN (a b c d : Nat) (ha : a < 256) (hb : b < 256) (hc : c < 256) :
    (((a ||| b * 256) ||| c * 65536) ||| d * 16777216) = a + b * 256 + c * 65536 + d * 16777216 := by
  have h1 := Nat.two_pow_add_eq_or_of_lt (i := 8) (b := a) (by omega) b
  have h2 := Nat.two_pow_add_eq_or_of_lt (i := 16) (b := a + b * 256) (by omega) c
  have h3 := Nat.two_pow_add_eq_or_of_lt (i := 24) (b := a + b * 256 + c * 65536) (by omega) d
  have p1 : (2:Nat) ^ 8 = 256 := by decide
  have p2 : (2:Nat) ^ 16 = 65536 := by decide
  have p3 : (2:Nat) ^ 24 = 16777216 := by decide
  rw [p1, Nat.mul_comm 256] at h1
  rw [p2, Nat.mul_comm 65536] at h2
  rw [p3, Nat.mul_comm 16777216] at h3
  rw [Nat.or_comm a, ← h1, Nat.add_comm (b * 256) a, Nat.or_comm _ (c * 65536), ← h2, Nat.add_comm (c * 65536), Nat.or_comm _ (d * 16777216), ← h3, Nat.add_comm (d * 16777216)]
theorem or_bytes (a b c d : Nat) (ha : a < 256) (hb : b < 256) (hc : c < 256) :
    Builtin.bitOr (Builtin.bitOr (Builtin.bitOr (a : Int) ((b * 256 : Nat) : Int)) ((c * 65536 : Nat) : Int)) ((d * 16777216 : Nat) : Int) = ((a + b * 256 + c * 65536 + d * 16777216 : Nat) : Int) := by
  rw [bitOr_nat, bitOr_nat, bitOr_nat, or_bytesN a b c d ha hb hc]
section
set_option maxHeartbeats 8000000 in
theorem put32_spec (w : World) (n : Nat) (tk : Tok) (hn : n < 4294967296) :
    MSpec 760 5800 w 89 [.int n tk] [] (fun v news' => news' = [] ∧ ∃ t, v = .bytes (le32 n).toArray t) := by
  w_top off
  k_with_none
  k_with "execs cons" => (((try k_fold); (try (conv => arg 6; dsimp only)); refine gen_toks ?_; intro tkκ; refine wpAny_execs_cons ?_))
  k_with "storeName" => ((k_here; (try (conv => arg 6; dsimp only)); k_dflt (first
  | ((with_reducible show wpAny _ _ (storeName _ _ (Value.int _ _)) _ _ _); (refine' store_intL (by k_asm) (by k_asm) ?_ (by rfl) (by rfl); k_whole; intro h'κ t'κ tk'κ m'κ F'κ N'κ; (try k_sweep)))
  | ((with_reducible show wpAny _ _ (storeName _ _ (Value.bytes _ _)) _ _ _); (refine' store_bytesL (by k_asm) (by k_asm) ?_ (by rfl) (by rfl); k_whole; intro h'κ t'κ tk'κ m'κ F'κ N'κ; (try k_sweep)))
  | (refine' store_anyL (by k_asm) (by k_asm) ?_ (by rfl) (by rfl); k_whole; intro h'κ tk'κ m'κ F'κ N'κ; (try k_sweep)))))
  k_with "binaryOp RShift int int" => ((with_reducible refine rshift_int (by decide) ?_))
  k_with "binaryOp RShift int int" => ((with_reducible refine rshift_int (by decide) ?_))
  k_with "call type:bytes" => ((k_here; (with_reducible show wpAny _ _ (call (Value.type "bytes") [Value.ref _]) _ _ _); k_dflt (refine' bytes_K (ns := putI _) (by k_asm) (by k_asm) (by is_list) (by exact .cons _ _ (.cons _ _ (.cons _ _ (.cons _ _ .nil)))) (by exact putI_in (by assumption)) (by exact Nat.le_of_ble_eq_true rfl) (by exact rfl) ?_; intro h'κ t'κ k'κ F'κ N'κ hB'κ; (try k_sweep))))
  unfold MSpec
  k_fill
  intro mean mg mb gd cn cs a ccd cl outer A₀ base h₀ L m s Q E B F X N T hk hret
  refine wpAny_call ?_
  k_dflt (refine' enterM ?k1 ?k2 ?k3 ?k4 ?k5 ?kA ?kF ?kK ?k6 ?k7 ?k8 ?k9 ?kB ?_ ?c2 ?c3 ?c4 ?c5; (case kA => exact rfl); (case kF => exact rfl); (case kK => assumption); (case k1 => k_asm); (case k2 => k_asm); (case k3 => k_asm); (case k4 => k_asm); (case k5 => k_asm); (case k6 => k_is); (case k7 => k_is); (case k8 => ktr_room); (case k9 => first | exact BindsTo.of_eq rfl | exact binds_K (by k_in) rfl (by k_is) rfl rfl rfl); (case c5 => decide); (case kB => exact locs rfl); (case c2 => exact rfl); (case c3 => exact rfl); (case c4 => exact rfl); k_whole)
  intro gX LX hX FGX FX NX BX XX TX GX
  clear B F X N T
  (try dsimp only)
  (try k_fold)
  have hn0 : (0 : Int) ≤ (n : Int) := by omega
  have hn1 : (n : Int) ≤ 4294967295 := by omega
  repeat' (first | (k_unfold; (try dsimp only)) | walk1 | (dsimp only; walk1))
  (try dsimp only)
  (try k_unfold)
  (try dsimp only)
  refine leaveK_ (by assumption) (by assumption) (fun kF kN => ?_)
  show Q _ _
  rw [putI_bytes]
  exact hret _ [] _ _ ⟨rfl, _, rfl⟩ kF News.nil (fun b o e n => Fr.keep (by assumption) b o (GX b o e n))
end

/-! Fix2 -/
section
set_option maxHeartbeats 8000000 in
theorem read32_spec (w : World) (d : List UInt8) (td : Tok) (at' : Nat) (ta : Tok) (hd : d.length ≤ 1048576) (ha : at' + 4 ≤ d.length) :
    MSpec 760 5800 w 96 [.bytes d.toArray td, .int at' ta] [] (fun v news' => news' = [] ∧ ∃ t, v = .int (((d.getD at' 0).toNat + (d.getD (at' + 1) 0).toNat * 256 + (d.getD (at' + 2) 0).toNat * 65536 + (d.getD (at' + 3) 0).toNat * 16777216 : Nat) : Int) t) := by
  w_top off
  k_with_none
  k_with "execs cons" => (((try k_fold); (try (conv => arg 6; dsimp only)); refine gen_toks ?_; intro tkκ; refine wpAny_execs_cons ?_))
  k_with "storeName" => ((k_here; (try (conv => arg 6; dsimp only)); k_dflt (first
  | ((with_reducible show wpAny _ _ (storeName _ _ (Value.int _ _)) _ _ _); (refine' store_intL (by k_asm) (by k_asm) ?_ (by rfl) (by rfl); k_whole; intro h'κ t'κ tk'κ m'κ F'κ N'κ; (try k_sweep)))
  | ((with_reducible show wpAny _ _ (storeName _ _ (Value.bytes _ _)) _ _ _); (refine' store_bytesL (by k_asm) (by k_asm) ?_ (by rfl) (by rfl); k_whole; intro h'κ t'κ tk'κ m'κ F'κ N'κ; (try k_sweep)))
  | (refine' store_anyL (by k_asm) (by k_asm) ?_ (by rfl) (by rfl); k_whole; intro h'κ tk'κ m'κ F'κ N'κ; (try k_sweep)))))
  k_with "binaryOp RShift int int" => ((with_reducible refine rshift_int (by decide) ?_))
  k_with "binaryOp LShift int int" => (first | (with_reducible refine shl_byte 256 (by decide) (by decide) p8 ?_) | (with_reducible refine shl_byte 65536 (by decide) (by decide) p16 ?_) | (with_reducible refine shl_byte 16777216 (by decide) (by decide) p24 ?_))
  unfold MSpec
  k_fill
  intro mean mg mb gd cn cs a ccd cl outer A₀ base h₀ L m s Q E B F X N T hk hret
  refine wpAny_call ?_
  k_dflt (refine' enterM ?k1 ?k2 ?k3 ?k4 ?k5 ?kA ?kF ?kK ?k6 ?k7 ?k8 ?k9 ?kB ?_ ?c2 ?c3 ?c4 ?c5; (case kA => exact rfl); (case kF => exact rfl); (case kK => assumption); (case k1 => k_asm); (case k2 => k_asm); (case k3 => k_asm); (case k4 => k_asm); (case k5 => k_asm); (case k6 => k_is); (case k7 => k_is); (case k8 => ktr_room); (case k9 => first | exact BindsTo.of_eq rfl | exact binds_K (by k_in) rfl (by k_is) rfl rfl rfl); (case c5 => decide); (case kB => exact locs rfl); (case c2 => exact rfl); (case c3 => exact rfl); (case c4 => exact rfl); k_whole)
  intro gX LX hX FGX FX NX BX XX TX GX
  clear B F X N T
  (try dsimp only)
  (try k_fold)
  have ha0 : (0 : Int) ≤ (at' : Int) := by omega
  have ha1 : (at' : Int) + 4 ≤ (d.length : Int) := by omega
  repeat' (first | (k_unfold; (try dsimp only)) | walk1 | (dsimp only; walk1))
  (try dsimp only)
  (try k_unfold)
  (try dsimp only)
  refine leaveK_ (by assumption) (by assumption) (fun kF kN => ?_)
  show Q _ _
  have q0 : (at' : Int).toNat = at' := by omega
  have q1 : ((at' : Int) + 1).toNat = at' + 1 := by omega
  have q2 : ((at' : Int) + 2).toNat = at' + 2 := by omega
  have q3 : ((at' : Int) + 3).toNat = at' + 3 := by omega
  rw [q0, q1, q2, q3, or_bytes _ _ _ _ (UInt8.toNat_lt _) (UInt8.toNat_lt _) (UInt8.toNat_lt _)]
  exact hret _ [] _ _ ⟨rfl, _, rfl⟩ kF News.nil (fun b o e n => Fr.keep (by assumption) b o (GX b o e n))
end

/-! Frag -/
noncomputable def frag (check : Int) (kind : Nat) (x : List UInt8) : List UInt8 := le32 (chkN check (kind.toUInt8 :: x)) ++ (x.length.toUInt8 :: 0 :: kind.toUInt8 :: x)
theorem frag_length (check : Int) (kind : Nat) (x : List UInt8) : (frag check kind x).length = 7 + x.length := by
  unfold frag le32
  simp only [List.length_append, List.length_cons, List.length_nil]
  omega
theorem chk_lt (check : Int) (b : List UInt8) : chkN check b < 4294967296 := by
  unfold chkN maskN
  split
  · exact Nat.mod_lt _ (by decide)
  · exact Nat.mod_lt _ (by decide)
section
variable {prog : Program} {w : World} {A : Around} {E : Value → Shared → Prop} {s : Shared} {h₀ : Heap} {L : Addr} {m : Str → Option Value} {news : List (Addr × Obj)}
theorem bytes_one {l : Addr} {k : Nat} {t : Tok} {n : Nat} {Q : Value → Shared → Prop} (F : Fr h₀ L s.heap m) (N : News h₀ L s.heap news) (hm : (l, listOf #[.int (k : Int) t] n) ∈ news) (hk : k < 256) (hh : A.handled = none)
    (h : ∀ h' t k', Fr h₀ L h' m → News h₀ L h' news → Q (.bytes (List.toArray [k.toUInt8]) t) { s with heap := h', toks := k' }) : wpAny (model prog w) A (call (.type "bytes") [.ref l]) Q E s :=
  bytes_K (ns := [(k : Int)]) (vs := [.int (k : Int) t]) F N (News.isList N hm) (.cons _ _ .nil) (by intro x hx; rw [List.mem_singleton.mp hx]; omega) (Nat.le_of_ble_eq_true rfl) hh fun h' t k' F' N' _ => h h' t k' F' N'
theorem bytes_two {l : Addr} {z : Nat} {t u : Tok} {n : Nat} {Q : Value → Shared → Prop} (F : Fr h₀ L s.heap m) (N : News h₀ L s.heap news) (hm : (l, listOf #[.int ((z : Int).fmod 256) t, .int ((z : Int).fdiv 256) u] n) ∈ news) (hz : z < 256) (hh : A.handled = none)
    (h : ∀ h' t k', Fr h₀ L h' m → News h₀ L h' news → Q (.bytes (List.toArray [z.toUInt8, 0]) t) { s with heap := h', toks := k' }) : wpAny (model prog w) A (call (.type "bytes") [.ref l]) Q E s := by
  have e1 : (z : Int).fmod 256 = (z : Int) := by
    have := fmod_nat z 256
    rw [Nat.mod_eq_of_lt hz] at this
    exact this
  have e2 : (z : Int).fdiv 256 = 0 := by
    have := fdiv_nat z 256
    rw [Nat.div_eq_of_lt hz] at this
    exact this
  rw [e1, e2] at hm
  exact bytes_K (ns := [(z : Int), 0]) (vs := [.int (z : Int) t, .int 0 u]) F N (News.isList N hm) (.cons _ _ (.cons _ _ .nil)) (by intro x hx; simp only [List.mem_cons, List.not_mem_nil, or_false] at hx; rcases hx with rfl | rfl <;> omega) (Nat.le_of_ble_eq_true rfl) hh fun h' t k' F' N' _ => h h' t k' F' N'
theorem len_by {b : List UInt8} {t : Tok} {Q : Value → Shared → Prop} (hsz : b.length ≤ 1000000) (h : Q (.int ((b.length : Nat) : Int) (s.toks + 1)) { s with toks := s.toks + 1 + 1 }) :
    wpAny (model prog w) A (call (.builtin "len") [.bytes b.toArray t]) Q E s :=
  len_bytes (by rw [List.size_toArray]; omega) h
theorem add_by {b c : List UInt8} {t u : Tok} {Q : Value → Shared → Prop} (hsz : b.length + c.length ≤ 1000000) (h : ∀ t' k, Q (.bytes (b ++ c).toArray t') { s with toks := k }) :
    wpAny (model prog w) A (binaryOp .Add (.bytes b.toArray t) (.bytes c.toArray u)) Q E s :=
  bytes_add_K (by rw [List.size_toArray, List.size_toArray]; omega) rfl h
end
theorem le32_length (n : Nat) : (le32 n).length = 4 := rfl
section
set_option maxHeartbeats 8000000 in
theorem fragment_spec (w : World) (kind : Nat) (tk : Tok) (x : List UInt8) (tx : Tok) (check : Int) (tc : Tok) (hk : kind < 256) (hx : x.length ≤ 15) (hc : check = 1 ∨ check = 2) :
    MSpec 740 5700 w 146 [.int (kind : Int) tk, .bytes x.toArray tx, .int check tc] [] (fun v news' => news' = [] ∧ ∃ t, v = .bytes (frag check kind x).toArray t) := by
  w_top off
  k_with_none
  k_with "execs cons" => (((try k_fold); (try (conv => arg 6; dsimp only)); refine gen_toks ?_; intro tkκ; refine wpAny_execs_cons ?_))
  k_with "storeName" => ((k_here; (try (conv => arg 6; dsimp only)); k_dflt (first
  | ((with_reducible show wpAny _ _ (storeName _ _ (Value.int _ _)) _ _ _); (refine' store_intL (by k_asm) (by k_asm) ?_ (by rfl) (by rfl); k_whole; intro h'κ t'κ tk'κ m'κ F'κ N'κ; (try k_sweep)))
  | ((with_reducible show wpAny _ _ (storeName _ _ (Value.bytes _ _)) _ _ _); (refine' store_bytesL (by k_asm) (by k_asm) ?_ (by rfl) (by rfl); k_whole; intro h'κ t'κ tk'κ m'κ F'κ N'κ; (try k_sweep)))
  | (refine' store_anyL (by k_asm) (by k_asm) ?_ (by rfl) (by rfl); k_whole; intro h'κ tk'κ m'κ F'κ N'κ; (try k_sweep)))))
  k_with "binaryOp RShift int int" => ((with_reducible refine rshift_int (by decide) ?_))
  k_with "binaryOp Add bytes bytes" => ((k_here; (with_reducible show wpAny _ _ (binaryOp Operator.Add (Value.bytes (List.toArray _) _) (Value.bytes (List.toArray _) _)) _ _ _); k_dflt (refine' add_by (by (simp only [List.length_append, List.length_cons, List.length_nil, frag_length, le32_length]; omega)) ?_; intro t'κ k'κ)))
  k_with "call ref" => ((k_here; (with_reducible show wpAny _ _ (call (Value.ref 125) _) _ _ _); k_dflt (refine' MSpec.pureL (by k_asm) (by k_asm) (by k_asm) (by k_asm) (by k_asm) (by exact rfl) (by first | exact rfl | assumption) (by exact rfl) (by exact Nat.le_of_ble_eq_true rfl) (by exact Nat.le_of_ble_eq_true rfl) (checksum_spec _ _ _ _ _ (by simp only [List.length_cons]; omega) (by assumption)) ?_; rintro v'κ h'κ tk'κ ⟨nκ, e1κ, tκ, e2κ⟩ F'κ N'κ; subst e2κ; (try k_sweep))))
  k_with "call ref" => ((k_here; (with_reducible show wpAny _ _ (call (Value.ref 89) _) _ _ _); k_dflt (refine' MSpec.pureL (by k_asm) (by k_asm) (by k_asm) (by k_asm) (by k_asm) (by exact rfl) (by first | exact rfl | assumption) (by exact rfl) (by exact Nat.le_of_ble_eq_true rfl) (by exact Nat.le_of_ble_eq_true rfl) (put32_spec _ _ _ (chk_lt _ _)) ?_; rintro v'κ h'κ tk'κ ⟨nκ, e1κ, tκ, e2κ⟩ F'κ N'κ; subst e2κ; (try k_sweep))))
  k_with "call type:bytes" => ((k_here; (with_reducible show wpAny _ _ (call (Value.type "bytes") [Value.ref _]) _ _ _); k_dflt (refine' bytes_two (by k_asm) (by k_asm) (by exact List.Mem.head _) (by (rw [List.size_toArray]; omega)) (by exact rfl) ?_; intro h'κ t'κ k'κ F'κ N'κ; (try k_sweep))))
  k_with "call type:bytes" => ((k_here; (with_reducible show wpAny _ _ (call (Value.type "bytes") [Value.ref _]) _ _ _); k_dflt (refine' bytes_one (by k_asm) (by k_asm) (by exact List.Mem.head _) (by assumption) (by exact rfl) ?_; intro h'κ t'κ k'κ F'κ N'κ; (try k_sweep))))
  unfold MSpec
  k_fill
  intro mean mg mb gd cn cs a ccd cl outer A₀ base h₀ L m s Q E B F X N T hk hret
  refine wpAny_call ?_
  k_dflt (refine' enterM ?k1 ?k2 ?k3 ?k4 ?k5 ?kA ?kF ?kK ?k6 ?k7 ?k8 ?k9 ?kB ?_ ?c2 ?c3 ?c4 ?c5; (case kA => exact rfl); (case kF => exact rfl); (case kK => assumption); (case k1 => k_asm); (case k2 => k_asm); (case k3 => k_asm); (case k4 => k_asm); (case k5 => k_asm); (case k6 => k_is); (case k7 => k_is); (case k8 => ktr_room); (case k9 => first | exact BindsTo.of_eq rfl | exact binds_K (by k_in) rfl (by k_is) rfl rfl rfl); (case c5 => decide); (case kB => exact locs rfl); (case c2 => exact rfl); (case c3 => exact rfl); (case c4 => exact rfl); k_whole)
  intro gX LX hX FGX FX NX BX XX TX GX
  clear B F X N T
  (try dsimp only)
  (try k_fold)
  repeat' (first | (k_unfold; (try dsimp only)) | walk1 | (dsimp only; walk1))
  (try dsimp only)
  (try k_unfold)
  (try dsimp only)
  refine leaveK_ (by assumption) (by assumption) (fun kF kN => ?_)
  show Q _ _
  have e : (le32 (chkN check (kind.toUInt8 :: x)) ++ [x.toArray.size.toUInt8, 0] ++ ([kind.toUInt8] ++ x)) = frag check kind x := rfl
  rw [e]
  exact hret _ [] _ _ ⟨rfl, _, rfl⟩ kF News.nil (fun b o e n => Fr.keep (by assumption) b o (GX b o e n))
end

/-! Put -/
noncomputable abbrev wD (w : World) (t0 t1 t2 t3 : Tok) (fl : Addr) (bl : Int) (tb : Tok) (ck : Int) (tc : Tok) (ln : Int) (tl : Tok) : List DictEntry :=
  [⟨PyData.keyHash w.params (Str.ofString "file"), .str (Str.ofString "file") t0, .ref fl⟩,
   ⟨PyData.keyHash w.params (Str.ofString "block"), .str (Str.ofString "block") t1, .int bl tb⟩,
   ⟨PyData.keyHash w.params (Str.ofString "check"), .str (Str.ofString "check") t2, .int ck tc⟩,
   ⟨PyData.keyHash w.params (Str.ofString "length"), .str (Str.ofString "length") t3, .int ln tl⟩]
noncomputable abbrev wObjs (w : World) (x dx fl : Addr) (t0 t1 t2 t3 : Tok) (bl : Int) (tb : Tok) (ck : Int) (tc : Tok) (ln : Int) (tl : Tok) (items : List Value) (n : Nat) : List (Addr × Obj) :=
  [(x, instObj 184 dx), (dx, dictOf (wD w t0 t1 t2 t3 fl bl tb ck tc ln tl) 4), (fl, listOf items.toArray n)]
section
set_option maxHeartbeats 8000000 in
theorem put_spec (w : World) (x dx fl : Addr) (t0 t1 t2 t3 : Tok) (bl : Int) (tb : Tok) (ck : Int) (tc : Tok) (len : Nat) (tl : Tok) (items : List Value) (n : Nat) (o : List UInt8) (to : Tok)
    (hl : len ≤ 100000) (ho : o.length ≤ 1000) (hi : items.length ≤ 100000) (ne1 : @Ne Nat x dx) (ne2 : @Ne Nat x fl) (ne3 : @Ne Nat dx fl) :
    MSpec 720 5600 w 167 [.ref x, .bytes o.toArray to] (wObjs w x dx fl t0 t1 t2 t3 bl tb ck tc len tl items n)
      (fun v news' => v = .none ∧ ∃ tl', news' = wObjs w x dx fl t0 t1 t2 t3 bl tb ck tc ((len + o.length : Nat) : Int) tl' (items ++ [.bytes o.toArray to]) (n + 1)) := by
  w_top off
  k_with_none
  k_with "execs cons" => (((try k_fold); (try (conv => arg 6; dsimp only)); refine gen_toks ?_; intro tkκ; refine wpAny_execs_cons ?_))
  k_with "storeName" => ((k_here; (try (conv => arg 6; dsimp only)); k_dflt (first
  | ((with_reducible show wpAny _ _ (storeName _ _ (Value.int _ _)) _ _ _); (refine' store_intL (by k_asm) (by k_asm) ?_ (by rfl) (by rfl); k_whole; intro h'κ t'κ tk'κ m'κ F'κ N'κ; (try k_sweep)))
  | ((with_reducible show wpAny _ _ (storeName _ _ (Value.bytes _ _)) _ _ _); (refine' store_bytesL (by k_asm) (by k_asm) ?_ (by rfl) (by rfl); k_whole; intro h'κ t'κ tk'κ m'κ F'κ N'κ; (try k_sweep)))
  | (refine' store_anyL (by k_asm) (by k_asm) ?_ (by rfl) (by rfl); k_whole; intro h'κ tk'κ m'κ F'κ N'κ; (try k_sweep)))))
  k_with "binaryOp RShift int int" => ((with_reducible refine rshift_int (by decide) ?_))
  k_with "call builtin:len" => ((k_here; (with_reducible show wpAny _ _ (call (Value.builtin "len") [Value.bytes (List.toArray _) _]) _ _ _); k_dflt (refine' len_by (by (simp only [List.length_append, List.length_cons, List.length_nil, frag_length, le32_length, List.length_replicate]; omega)) ?_)))
  unfold MSpec
  k_fill
  intro mean mg mb gd cn cs a ccd cl outer A₀ base h₀ L m s Q E B F X N T hk hret
  refine wpAny_call ?_
  k_dflt (refine' enterM ?k1 ?k2 ?k3 ?k4 ?k5 ?kA ?kF ?kK ?k6 ?k7 ?k8 ?k9 ?kB ?_ ?c2 ?c3 ?c4 ?c5; (case kA => exact rfl); (case kF => exact rfl); (case kK => assumption); (case k1 => k_asm); (case k2 => k_asm); (case k3 => k_asm); (case k4 => k_asm); (case k5 => k_asm); (case k6 => k_is); (case k7 => k_is); (case k8 => ktr_room); (case k9 => first | exact BindsTo.of_eq rfl | exact binds_K (by k_in) rfl (by k_is) rfl rfl rfl); (case c5 => decide); (case kB => exact locs rfl); (case c2 => exact rfl); (case c3 => exact rfl); (case c4 => exact rfl); k_whole)
  intro gX LX hX FGX FX NX BX XX TX GX
  clear B F X N T
  (try dsimp only)
  (try k_fold)
  dsimp only [wObjs, wD] at NX
  have ne1 := ne1; have ne2 := ne2; have ne3 := ne3
  k_steps
  (try dsimp only)
  (try k_unfold)
  (try dsimp only)
  refine leaveK_ (by assumption) (by assumption) (fun kF kN => ?_)
  show Q _ _
  have e : ((len : Int) + (o.toArray.size : Int)) = ((len + o.length : Nat) : Int) := by rw [List.size_toArray]; omega
  rw [e] at kN
  exact hret _ _ _ _ ⟨rfl, _, rfl⟩ kF kN (fun b o e n => Fr.keep (by assumption) b o (GX b o e n))
end

/-! ByC -/
theorem int_no_bytes : typeLookup (.type "int") "__bytes__" = pure none := by rw [typeLookup_type, builtinLookup_eq_fast]; kernel_rfl
section
variable {prog : Program} {w : World} {M : Model} {A : Around} {E : Value → Shared → Prop} {s : Shared}
/-- bytes(n): n zeros -/
theorem bytes_count {n : Nat} {t : Tok} {Q : Value → Shared → Prop} (hn : n ≤ 1000000) (h : ∀ t' k, Q (.bytes (List.toArray (List.replicate n (0 : UInt8))) t') { s with toks := k }) : wpAny (model prog w) A (call (.type "bytes") [.int (n : Int) t]) Q E s := by
  refine callType_codes (Q₁ := fun obj s₁ => s₁.TypeIs obj "bytes" ∧ Q obj s₁) F.bm_called (F.bm_typeCall _) F.entry_object_init ?_ fun obj s₁ h₁ =>
    ⟨h₁.1, F.args_object_init_2 obj _, object_init_meets F.bm_called.init.lookup F.bm_called.made (by decide) prog w A.in1 _ s₁ ⟨h₁.1, rfl, h₁.2⟩⟩
  refine codeAny_of_tree ?_
  generalize hv : Value.int (n : Int) t = v
  show wpAny _ A.in1.in1 (do checkBuiltinCall "bytes.__new__" ⟨[.type "bytes", v], []⟩; again (.builtin "bytes.__new__" ⟨[.type "bytes", v], []⟩)) _ _ s
  refine wpAny_bind (wpAny_of_eq (F.bm_newCall _) (wpAny_pure ⟨plainId_quiet F.bm_plain _, codeAny_builtin F.bm_entry ?_⟩))
  rw [Around.under_plainId F.bm_plain _]
  unfold Builtin.«bytes.__new__»
  refine wpAny_bind (wpAny_of_eq (a := true) rfl ?_)
  refine bm_if_false rfl ?_
  refine wpAny_bind (wpAny_of_eq F.bm_sub ?_)
  refine bm_if_false rfl ?_
  refine wpAny_bind (wpAny_of_eq (F.bm_bind _) ?_)
  refine wpAny_bind (wpAny_of_eq (a := ()) rfl ?_)
  refine wpAny_bind (wpAny_of_eq (a := ()) rfl ?_)
  refine bm_if_false rfl ?_
  subst hv
  (try dsimp only)
  have hT : s.TypeIs (Value.int (n : Int) t) "int" := typeIs_int _ _ _
  have k1 : ∀ Q' : Option Value → Shared → Prop, Q' none s → ∀ E', wpAny (model prog w) A.in1.in1 (specialOf (Value.int (n : Int) t) "__bytes__") Q' E' s := fun Q' hq E' => wpAny_specialOf hT int_no_bytes hq
  have k2 : ∀ Q' : Bool → Shared → Prop, Q' false s → ∀ E', wpAny (model prog w) A.in1.in1 (do return (← asStr? (Value.int (n : Int) t)).isSome) Q' E' s := fun Q' hq E' => wpAny_of_eq (a := false) rfl hq
  have k3 : ∀ Q' : Option Value → Shared → Prop, Q' (some (.builtin "int.__index__")) s → ∀ E', wpAny (model prog w) A.in1.in1 (specialOf (Value.int (n : Int) t) "__index__") Q' E' s := fun Q' hq E' => wpAny_specialOf hT F.slot_int_index.lookup hq
  have k4 : ∀ Q' : Except Value Int → Shared → Prop, Q' (.ok (n : Int)) s → ∀ E', wpAny (model prog w) A.in1.in1 (asIndex (Value.int (n : Int) t)).attempt Q' E' s := fun Q' hq E' => wpAny_attempt (wpAny_of_eq (rfl : asIndex (.int (n : Int) t) = pure (n : Int)) hq)
  have c1 : (!Builtin.Bytes.fitsIndex (n : Int)) = false := by
    unfold Builtin.Bytes.fitsIndex
    simp only [Bool.not_eq_false', Bool.and_eq_true, decide_eq_true_eq]
    omega
  have c2 : ¬ ((n : Int) < 0) := by omega
  have c3 : ¬ ((n : Int) > 2 ^ 63 - 34) := by omega
  have c4 : Builtin.Bytes.tooLong (n : Int).toNat = false := KBy.tooLong_not (by omega)
  refine wpAny_bind ?_
  refine k1 _ ?_ _
  dsimp only
  refine wpAny_bind ?_
  refine k2 _ ?_ _
  rw [if_neg Bool.false_ne_true]
  (try dsimp only)
  refine wpAny_bind ?_
  refine k3 _ ?_ _
  rw [if_neg (by exact Bool.false_ne_true)]
  refine wpAny_bind ?_
  refine k4 _ ?_ _
  dsimp only
  rw [c1, if_neg Bool.false_ne_true, if_neg c2, if_neg c3, c4, if_neg Bool.false_ne_true]
  refine wpAny_bind (wpAny_rule ?_)
  refine wpAny_bind (wpAny_mkBytes ?_ (by rw [Array.size_replicate, sizeLine_eq]; omega))
  show wpAny _ _ (if (Value.type "bytes" == Value.type "bytes") = true then _ else _) _ _ _
  refine bm_if_true (by decide) ?_
  have e : Array.replicate (n : Int).toNat (0 : UInt8) = (List.replicate n (0 : UInt8)).toArray := by simp
  rw [e]
  exact wpAny_pure ⟨PySem.W.typeIs_bytes _ _ _, h _ _⟩
end

/-! Rng -/
section
variable {prog : Program} {w : World} {A : Around} {E : Value → Shared → Prop} {s : Shared} {env : Env} {h₀ : Heap} {L : Addr} {x : Str} {body : List Stmt} {Q : Flow → Shared → Prop}
theorem news_ne {h : Heap} {l : List (Addr × Obj)} {a b : Addr} {o o' : Obj} (N : News h₀ L h l) (h1 : (a, o) ∈ l) (h2 : (b, o') ∈ l) (hne : o ≠ o') : @Ne Nat a b := fun e => by
  have e1 := (N _ h1).1
  have e2 := (N _ h2).1
  dsimp only at e1 e2
  subst e
  rw [e1] at e2
  exact hne (Option.some.inj e2)
theorem itObj_cls (k l : Int) : (itObj k l).cls = .type "range_iterator" := rfl
/-- the same where the body stands in our logic -/
theorem rangeB {r : Addr} {px : Pos} {a₀ b₀ : Int} {t₀ u₀ v₀ : Tok} {n : Nat} {m₀ : Str → Option Value} {news : List (Addr × Obj)} (J : Nat → (Str → Option Value) → List (Addr × Obj) → Prop)
    (hJ : ∀ i m nx, J i m nx → ∀ p ∈ nx, p.2.cls ≠ .type "range_iterator") (hx : env.kindOf x = some .local)
    (hp : (env.scope.kind == .class || (env.scope.kind == .module && env.locals != env.globals)) = false)
    (hh : A.handled = none) (hr : IsRange s.heap r a₀ b₀ 1 t₀ u₀ v₀) (hsmall : Builtin.Range.small a₀ b₀ 1 = true) (hn : Builtin.Range.rangeSize a₀ b₀ 1 = (n : Int)) (F : Fr h₀ env.locals s.heap m₀) (N : News h₀ env.locals s.heap news) (hj : J 0 m₀ news)
    (turn : ∀ i t m₁ nx h tk I k l, i < n → J i m₁ nx → Fr h₀ env.locals h (fun y => if y = x then some (.int (a₀ + (i : Nat)) t) else m₁ y) → News h₀ env.locals h ((I, itObj k l) :: nx) →
      wpB (model prog w) A (execs body env) (RngPost h₀ env.locals (J (i + 1)) [(I, itObj k l)] { s with heap := h, toks := tk } Q) noE { s with heap := h, toks := tk })
    (done : ∀ m₁ nx h tk, J n m₁ nx → Fr h₀ env.locals h m₁ → News h₀ env.locals h nx → Q .next { s with heap := h, toks := tk }) :
    wpAny (model prog w) A (pyIter (.ref r)) (fun it s₂ => codeB (model prog w) A (.forLoop (.Name x px) it body [] env) (fun r s' => match r with | .ok f => Q f s' | .error _ => False) s₂) E s := by
  refine wpAny_pyIter_range hr hsmall ?_
  have W : Walks prog w A s.heap.objs.size [s.heap.objs.size] [s.heap.objs.size] n (fun i v => i < n ∧ ∃ t, v = .int (a₀ + i * 1) t)
      (fun i h => IsRangeIter h s.heap.objs.size (a₀ + (i : Nat) * 1) ((n : Int) - (i : Nat)) 1) := (Walks.range hh _ a₀ 1 n).bound
  refine codeB_forLoop (fun k s' => ∃ h' tk m' nx i, s' = { s with heap := h', toks := tk } ∧ IsRangeIter h' s.heap.objs.size (a₀ + (i : Nat) * 1) ((n : Int) - (i : Nat)) 1 ∧ Fr h₀ env.locals h' m' ∧ News h₀ env.locals h' nx ∧ J i m' nx ∧ i ≤ n ∧ k = n - i) ?_ n _
    ⟨_, s.toks, m₀, news, 0, rfl, (by show IsRangeIter _ _ _ _ _; rw [hn]; simpa using Heap.get?_push_size _ rfl), F.push _, (fun p hp => ⟨Heap.get?_push_of_some _ (N p hp).1, (N p hp).2⟩), hj, Nat.zero_le _, rfl⟩
  rintro k s' ⟨h', tk, m', nx, i, rfl, hst, F', N', hJi, hi, rfl⟩
  have hL : env.locals ≠ s.heap.objs.size := fun e => absurd F.ns.lt (e ▸ Nat.lt_irrefl _)
  have off : ∀ p ∈ nx, p.1 ≠ s.heap.objs.size := fun p hp' e => by
    have h2 := (N' p hp').1
    rw [e, hst] at h2
    exact hJ _ _ _ hJi p hp' (by rw [← Option.some.inj h2])
  have next : ∀ h₁ : Heap, (∀ b o, b ∉ [s.heap.objs.size] → h'.get? b = some o → h₁.get? b = some o) → Fr h₀ env.locals h₁ m' ∧ News h₀ env.locals h₁ nx := fun h₁ hk₁ =>
    ⟨⟨F'.ns.at' fun o e => hk₁ _ o (fun q => hL (List.mem_singleton.mp q)) e, fun b o e => hk₁ b o (fun q => by
      have := next_is_new F
      rw [← List.mem_singleton.mp q, e] at this
      cases this) (F'.keep b o e), F'.above⟩, fun p hp' => ⟨hk₁ _ _ (fun q => off p hp' (List.mem_singleton.mp q)) (N' p hp').1, (N' p hp').2⟩⟩
  by_cases hlt : i < n
  · refine W.item i _ _ _ hlt hst fun v h₁ tk₁ hP hst₁ hk₁ => ?_
    obtain ⟨_, t, rfl⟩ := hP
    obtain ⟨F₁, N₁⟩ := next h₁ hk₁
    refine wpAny_assign_Name (wpAny_storeName_local hx F₁.ns (fun h₂ hn₂ hs₂ => ?_) hp)
    have F₂ := F₁.set hn₂ hs₂
    have e1 : a₀ + (i : Int) * 1 = a₀ + (i : Int) := by omega
    rw [e1] at F₂
    have hst₂ : IsRangeIter h₂ s.heap.objs.size (a₀ + ((i + 1 : Nat) : Int) * 1) ((n : Int) - ((i + 1 : Nat) : Int)) 1 := (hs₂.2 _ fun q => hL q.symm).trans hst₁
    have N₂ : News h₀ env.locals h₂ ((s.heap.objs.size, itObj (a₀ + ((i + 1 : Nat) : Int) * 1) ((n : Int) - ((i + 1 : Nat) : Int))) :: nx) := by
      intro p hp'
      rcases List.mem_cons.mp hp' with rfl | hp'
      · exact ⟨hst₂, fun q => hL q.symm, next_is_new F⟩
      · exact N₁.set hs₂ p hp'
    refine wpB_mono (turn i t m' nx h₂ _ _ _ _ hlt hJi F₂ N₂) (fun f s₃ h₃ => ?_) fun _ _ e => e
    cases f with
    | ret v => exact h₃
    | brk => exact h₃
    | cont =>
      obtain ⟨h4, tk4, m4, news4, nx4, rfl, F4, N4, a4, b4, J4⟩ := h₃
      exact ⟨n - (i + 1), by omega, h4, tk4, m4, nx4, i + 1, rfl, (N4 _ (b4 _ (List.mem_singleton.mpr rfl))).1, F4, fun p hp' => N4 p (a4 p hp'), J4, hlt, rfl⟩
    | next =>
      obtain ⟨h4, tk4, m4, news4, nx4, rfl, F4, N4, a4, b4, J4⟩ := h₃
      exact ⟨n - (i + 1), by omega, h4, tk4, m4, nx4, i + 1, rfl, (N4 _ (b4 _ (List.mem_singleton.mpr rfl))).1, F4, fun p hp' => N4 p (a4 p hp'), J4, hlt, rfl⟩
  · have hin : i = n := by omega
    subst hin
    refine W.done _ _ _ hst fun h₁ tk₁ hk₁ => ?_
    obtain ⟨F₁, N₁⟩ := next h₁ hk₁
    exact done m' nx h₁ tk₁ hJi F₁ N₁
end
/-! a ledger's part, entry by entry -/
theorem sub_nil {α : Type} {m : List α} : ∀ p ∈ ([] : List α), p ∈ m := fun _ h => nomatch h
theorem sub_cons {α : Type} {a : α} {l m : List α} (h : a ∈ m) (t : ∀ p ∈ l, p ∈ m) : ∀ p ∈ a :: l, p ∈ m := fun p hp => (List.mem_cons.mp hp).elim (fun e => e ▸ h) (t p)

/-! Ops -/
theorem fmodN (a b : Nat) : (a : Int).fmod (b : Int) = ((a % b : Nat) : Int) := by
  rw [Int.fmod_eq_emod_of_nonneg _ (by omega)]
  exact (Int.natCast_emod a b).symm
section
variable {prog : Program} {w : World} {A : Around} {E : Value → Shared → Prop} {s : Shared} {h₀ : Heap} {L : Addr} {m : Str → Option Value} {news : List (Addr × Obj)}
/-- a remainder of naturals stays a natural -/
theorem mod_nat {a b : Nat} {i j : Int} {t u : Tok} {Q : Value → Shared → Prop} (ei : i = (a : Int)) (ej : j = (b : Int)) (hb : 0 < b) (h : a % b < b → Q (.int ((a % b : Nat) : Int) s.toks) { s with toks := s.toks + 1 }) :
    wpAny (model prog w) A (binaryOp .Mod (.int i t) (.int j u)) Q E s := by
  subst ei ej
  refine mod_int' (by omega) ?_
  rw [fmodN]
  exact h (Nat.mod_lt _ hb)
theorem bytes_int {i : Int} {t : Tok} {Q : Value → Shared → Prop} (h0 : 0 ≤ i) (h1 : i ≤ 1000000) (h : ∀ t' k, Q (.bytes (List.toArray (List.replicate i.toNat (0 : UInt8))) t') { s with toks := k }) :
    wpAny (model prog w) A (call (.type "bytes") [.int i t]) Q E s := by
  have e : i = (i.toNat : Int) := by omega
  rw [e]
  refine bytes_count (by omega) ?_
  exact h
theorem clip_in {n : Nat} {i : Int} (h0 : 0 ≤ i) (h1 : i ≤ (n : Int)) : clipAt n i = i.toNat := by
  have := clipAt_cast n i
  rw [if_neg (by omega)] at this
  omega
theorem slice_by {value slice : PySem.Expr} {b : List UInt8} {t : Tok} {l u : Value} {lo hi : Option Int} {Q : Value → Shared → Prop} (i j : Nat) (F : Fr h₀ L s.heap m) (N : News h₀ L s.heap news) (hl : IsPart l lo) (hu : IsPart u hi)
    (hz : b.length ≤ 1000000) (e1 : lo.elim 0 (clipAt b.length) = i) (e2 : hi.elim b.length (clipAt b.length) = j)
    (h : ∀ h' t' k, Fr h₀ L h' m → News h₀ L h' news → Q (.bytes ((b.drop i).take (j - i)).toArray t') { s with heap := h', toks := k })
    (hs : subscripted slice false (.bytes b.toArray t) (.ref s.heap.objs.size) = operate [.ref s.heap.objs.size, .bytes b.toArray t] (getItem (.bytes b.toArray t) (.ref s.heap.objs.size)))
    (ht : ∀ r, letTemporaryGo value (.bytes b.toArray t) r = pure ()) :
    wpAny (model prog w) A (subscriptTail value slice (.bytes b.toArray t) (.ref s.heap.objs.size)) Q E { s with heap := s.heap.push { cls := .type "slice", data := .fields #[l, u, .none] } } := by
  refine KBc.slice_K (s := s) F N rfl hl hu (by rw [KBw.ints_length, List.size_toArray]; omega) ?_ hs ht
  intro h' t' k F' N' _
  have e : KBy.picked b.toArray lo hi = ((b.drop i).take (j - i)).toArray := by
    rw [KBc.picked_eq]
    have e3 : b.toArray.size = b.length := List.size_toArray ..
    rw [e3, e1, e2]
  rw [e]
  exact h h' t' k F' N'
end
section
variable {d u : Nat} {w : World} {f : Addr} {vs : List Value} {ft : List (Addr × Obj)} {R : Value → List (Addr × Obj) → Prop}
  {mean : ExcName → Option Value} {mg mb : Str → Option Value} {cn : Str} {cs : Scope} {a : Addr} {ccd : Value} {cl : List (Str × Addr)} {outer : List Env} {A A₀ : Around} {base h₀ : Heap} {L : Addr} {m : Str → Option Value} {s : Shared}
  {Q E : Value → Shared → Prop}
/-- a call that changes its footprint; a part of the ledger apart from it stands -/
theorem MSpec.foot (S : MSpec d u w f vs ft R) {news : List (Addr × Obj)} (rest : List (Addr × Obj)) (B : Below A₀ base outer h₀) (F : Fr h₀ L s.heap m) (X : (MineTop.hd.heap_1 w.params).In h₀) (N : News h₀ L s.heap news) (T : Top MineTop.view (looseW MineTop.view [Str.ofString "crc32c"]) mean mg mb h₀) (hk : cs.kind = .function)
    (hA : A.frames = some (envX cn cs L a ccd cl :: outer)) (hh : A.handled = none) (hd : A.depth ≤ d) (hu : A.units ≤ u) (h1 : ∀ p ∈ ft, p ∈ news) (h2 : ∀ p ∈ rest, p ∈ news) (h3 : ∀ p ∈ rest, p.1 ∉ ft.map (·.1))
    (h : ∀ v n h' tk', R v n → Fr h₀ L h' m → News h₀ L h' (n ++ rest) → Q v { s with heap := h', toks := tk' }) :
    wpAny (model PySem.Challenge.rw_nz0363_01.row.prog w) A (call (.ref f) vs) Q E s :=
  S.use B F X (fun p hp => N p (h1 p hp)) T hk hA hh hd hu fun v n h' tk' r F' N' k => h v n h' tk' r F' fun p hp => (List.mem_append.mp hp).elim (N' p) fun q => ⟨k _ _ (N p (h2 p q)).1 (h3 p q), (N p (h2 p q)).2⟩
end

/-- a contract of a call that makes: what the caller has made stands by -/
noncomputable def CSpec (d u : Nat) (w : World) (f : Addr) (vs : List Value) (R : Value → List (Addr × Obj) → Prop) : Prop :=
  ∀ (mean : ExcName → Option Value) (mg mb : Str → Option Value) (gd : Option (List Code)) (cn : Str) (cs : Scope) (a : Addr) (ccd : Value) (cl : List (Str × Addr)) (outer : List Env) (A₀ : Around) (base h₀ : Heap) (L : Addr) (m : Str → Option Value) (s : Shared)
    (Q E : Value → Shared → Prop) (rest : List (Addr × Obj)),
    Below A₀ base outer h₀ → Fr h₀ L s.heap m → (MineTop.hd.heap_1 w.params).In h₀ → News h₀ L s.heap rest → Top MineTop.view (looseW MineTop.view [Str.ofString "crc32c"]) mean mg mb h₀ → cs.kind = .function →
    (∀ v news' h' tk', R v news' → Fr h₀ L h' m → News h₀ L h' (news' ++ rest) → Q v { s with heap := h', toks := tk' }) →
    wpAny (model PySem.Challenge.rw_nz0363_01.row.prog w) (ktrTop d u gd cn cs L a ccd cl outer) (call (.ref f) vs) Q E s
section
variable {d u : Nat} {w : World} {f : Addr} {vs : List Value} {R : Value → List (Addr × Obj) → Prop}
  {mean : ExcName → Option Value} {mg mb : Str → Option Value} {cn : Str} {cs : Scope} {a : Addr} {ccd : Value} {cl : List (Str × Addr)} {outer : List Env} {A A₀ : Around} {base h₀ : Heap} {L : Addr} {m : Str → Option Value} {s : Shared}
  {Q E : Value → Shared → Prop}
theorem CSpec.use (S : CSpec d u w f vs R) {news : List (Addr × Obj)} (B : Below A₀ base outer h₀) (F : Fr h₀ L s.heap m) (X : (MineTop.hd.heap_1 w.params).In h₀) (N : News h₀ L s.heap news) (T : Top MineTop.view (looseW MineTop.view [Str.ofString "crc32c"]) mean mg mb h₀) (hk : cs.kind = .function)
    (hA : A.frames = some (envX cn cs L a ccd cl :: outer)) (hh : A.handled = none) (hd : A.depth ≤ d) (hu : A.units ≤ u)
    (h : ∀ v n h' tk', R v n → Fr h₀ L h' m → News h₀ L h' (n ++ news) → Q v { s with heap := h', toks := tk' }) :
    wpAny (model PySem.Challenge.rw_nz0363_01.row.prog w) A (call (.ref f) vs) Q E s :=
  wpAny_A (S mean mg mb A.guards cn cs a ccd cl outer A₀ base h₀ L m s Q E news B F X N T hk h) hh.symm hd hA.symm rfl hu
theorem CSpec.useL {news : List (Addr × Obj)} (B : Below A₀ base outer h₀) (F : Fr h₀ L s.heap m) (X : (MineTop.hd.heap_1 w.params).In h₀) (N : News h₀ L s.heap news) (T : Top MineTop.view (looseW MineTop.view [Str.ofString "crc32c"]) mean mg mb h₀)
    (hA : A.frames = some (envX cn cs L a ccd cl :: outer)) (hk : cs.kind = .function) (hh : A.handled = none) (hd : A.depth ≤ d) (hu : A.units ≤ u) (S : CSpec d u w f vs R)
    (h : ∀ v n h' tk', R v n → Fr h₀ L h' m → News h₀ L h' (n ++ news) → Q v { s with heap := h', toks := tk' }) :
    wpAny (model PySem.Challenge.rw_nz0363_01.row.prog w) A (call (.ref f) vs) Q E s := S.use B F X N T hk hA hh hd hu h
end
theorem news_rot {h₀ : Heap} {L : Addr} {h : Heap} {a b c : Addr × Obj} {rest : List (Addr × Obj)} (N : News h₀ L h (a :: b :: c :: rest)) : News h₀ L h ([b, c, a] ++ rest) := fun p hp => by
  simp only [List.cons_append, List.nil_append, List.mem_cons] at hp
  refine N p ?_
  simp only [List.mem_cons]
  rcases hp with h | h | h | h
  · exact .inr (.inl h)
  · exact .inr (.inr (.inl h))
  · exact .inl h
  · exact .inr (.inr (.inr h))
theorem list_inst {vs : Array Value} {n : Nat} {C d : Addr} : listOf vs n ≠ instObj C d := fun e => by
  have := congrArg Obj.cls e
  cases this
theorem list_dict {vs : Array Value} {n : Nat} {es : List DictEntry} {c : Nat} : listOf vs n ≠ dictOf es c := fun e => by
  have h1 : Value.type "list" = Value.type "dict" := congrArg Obj.cls e
  have h2 : "list" = "dict" := Value.type.inj h1
  exact absurd h2 (by decide)

/-! Pure2 -/
noncomputable def kindOf (begun ended : Bool) : Nat := if begun then (if ended then 4 else 3) else (if ended then 1 else 2)
noncomputable def fillN (B n : Nat) : Nat := if B - n % B < 7 then B - n % B else 0
noncomputable def roomN (B n : Nat) : Nat := if B - n % B < 7 then B else B - n % B
noncomputable def stepW (B : Nat) (c : Int) (W rest : List UInt8) (begun : Bool) (v : UInt8) (part : Nat) (ended : Bool) : List UInt8 :=
  W ++ (List.replicate (fillN B W.length) v ++ frag c (kindOf begun ended) (rest.take part))
noncomputable def fillOk (B n : Nat) (v : UInt8) : Bool := fillN B n == 0 || v == 0
inductive Lay (B : Nat) (c : Int) : List UInt8 → List UInt8 → Bool → Bool → List UInt8 → Prop
  | last {W rest : List UInt8} {begun : Bool} {v : UInt8} (h : rest.length ≤ roomN B W.length - 7) :
      Lay B c W rest begun (fillOk B W.length v) (stepW B c W rest begun v rest.length true)
  | more {W rest : List UInt8} {begun : Bool} {v : UInt8} {part : Nat} {p : Bool} {W' : List UInt8} (h : part ≤ min rest.length (roomN B W.length - 7))
      (t : Lay B c (stepW B c W rest begun v part false) (rest.drop part) true p W') :
      Lay B c W rest begun (fillOk B W.length v && (part == min rest.length (roomN B W.length - 7) && part != rest.length) && p) W'

theorem stepW_pre {B : Nat} {c : Int} {W rest : List UInt8} {begun : Bool} {v : UInt8} {part : Nat} {ended : Bool} : W <+: stepW B c W rest begun v part ended := List.prefix_append _ _
theorem Lay.pre {B : Nat} {c : Int} {W rest W' : List UInt8} {b p : Bool} (h : Lay B c W rest b p W') : W <+: W' := by
  induction h with
  | last _ => exact stepW_pre
  | more _ _ ih => exact stepW_pre.trans ih

noncomputable def Apart (a b : List UInt8) : Prop := ∃ (i : Nat) (x y : UInt8), a[i]? = some x ∧ b[i]? = some y ∧ x ≠ y
theorem pre_get {a a' : List UInt8} {i : Nat} {x : UInt8} (h : a <+: a') (e : a[i]? = some x) : a'[i]? = some x := by
  obtain ⟨t, rfl⟩ := h
  rw [List.getElem?_append_left (List.getElem?_eq_some_iff.mp e).1]
  exact e
theorem Apart.ext {a b a' b' : List UInt8} (h : Apart a b) (ha : a <+: a') (hb : b <+: b') : Apart a' b' := by
  obtain ⟨i, x, y, h1, h2, h3⟩ := h
  exact ⟨i, x, y, pre_get ha h1, pre_get hb h2, h3⟩
theorem Apart.ne {a b : List UInt8} (h : Apart a b) : a ≠ b := by
  rintro rfl
  obtain ⟨i, x, y, h1, h2, h3⟩ := h
  rw [h1] at h2
  exact h3 (Option.some.inj h2)

theorem frag_get4 (c : Int) (k : Nat) (x : List UInt8) : (frag c k x)[4]? = some x.length.toUInt8 := rfl
theorem frag_get6 (c : Int) (k : Nat) (x : List UInt8) : (frag c k x)[6]? = some k.toUInt8 := rfl
theorem step_get {B : Nat} {c : Int} {W rest : List UInt8} {begun : Bool} {v : UInt8} {part : Nat} {ended : Bool} (i : Nat) :
    (stepW B c W rest begun v part ended)[W.length + (fillN B W.length + i)]? = (frag c (kindOf begun ended) (rest.take part))[i]? := by
  unfold stepW
  rw [List.getElem?_append_right (by omega), List.getElem?_append_right (by rw [List.length_replicate]; omega)]
  congr 1
  rw [List.length_replicate]; omega
theorem step_fill {B : Nat} {c : Int} {W rest : List UInt8} {begun : Bool} {v : UInt8} {part : Nat} {ended : Bool} (h : fillN B W.length ≠ 0) :
    (stepW B c W rest begun v part ended)[W.length]? = some v := by
  unfold stepW
  rw [List.getElem?_append_right (Nat.le_refl _), Nat.sub_self, List.getElem?_append_left (by rw [List.length_replicate]; omega)]
  rw [List.getElem?_replicate, if_pos (by omega)]
theorem fillOk_false {B n : Nat} {v : UInt8} (h : fillOk B n v = false) : fillN B n ≠ 0 ∧ v ≠ 0 := by
  unfold fillOk at h
  simpa using h
theorem fillOk_rep {B n : Nat} {v u : UInt8} (h : fillOk B n v = true) (h' : fillOk B n u = true) : List.replicate (fillN B n) v = List.replicate (fillN B n) u := by
  unfold fillOk at h h'
  by_cases e : fillN B n = 0
  · rw [e]; rfl
  · simp [e] at h h'
    rw [h, h']
theorem step_fillApart {B : Nat} {c : Int} {W rest : List UInt8} {b : Bool} {v u : UInt8} {part part' : Nat} {e e' : Bool} (hv : fillOk B W.length v = true) (hu : fillOk B W.length u = false) :
    Apart (stepW B c W rest b v part e) (stepW B c W rest b u part' e') := by
  obtain ⟨h1, h2⟩ := fillOk_false hu
  unfold fillOk at hv
  simp [h1] at hv
  exact ⟨W.length, v, u, step_fill h1, step_fill h1, by rw [hv]; exact fun q => h2 q.symm⟩
theorem u8_ne {a b : Nat} (ha : a < 256) (hb : b < 256) (h : a ≠ b) : a.toUInt8 ≠ b.toUInt8 := by
  intro e
  have := congrArg UInt8.toNat e
  simp only [Nat.toUInt8, UInt8.toNat_ofNat'] at this
  omega
theorem step_partApart {B : Nat} {c : Int} {W rest : List UInt8} {b : Bool} {v u : UInt8} {part part' : Nat} {e e' : Bool} (hr : rest.length < 256) (h1 : part ≤ rest.length) (h2 : part' ≤ rest.length) (hne : part ≠ part') :
    Apart (stepW B c W rest b v part e) (stepW B c W rest b u part' e') :=
  ⟨_, _, _, (step_get 4).trans (frag_get4 _ _ _), (step_get 4).trans (frag_get4 _ _ _), by
    rw [List.length_take, List.length_take]
    exact u8_ne (by omega) (by omega) (by omega)⟩
theorem step_kindApart {B : Nat} {c : Int} {W rest : List UInt8} {b : Bool} {v u : UInt8} {part part' : Nat} :
    Apart (stepW B c W rest b v part true) (stepW B c W rest b u part' false) :=
  ⟨_, _, _, (step_get 6).trans (frag_get6 _ _ _), (step_get 6).trans (frag_get6 _ _ _), by
    cases b <;> decide⟩

/-- a cutting is the writer's own just where it is plain -/
theorem lay_same' {B : Nat} {c : Int} {W rest W2 : List UInt8} {b p : Bool} (h2 : Lay B c W rest b p W2) : rest.length < 256 → ∀ {q : Bool} {W1 : List UInt8}, Lay B c W rest b q W1 → q = true → (p = true → W1 = W2) ∧ (p = false → Apart W1 W2) := by
  induction h2 with
  | @last W rest b v h =>
    intro hr q W1 h1 hq
    cases h1 with
    | @last _ _ _ v1 h' =>
      refine ⟨fun hp => ?_, fun hp => ?_⟩
      · unfold stepW
        rw [fillOk_rep hp hq]
      · exact step_fillApart hq hp
    | @more _ _ _ v1 part1 p1 _ h' t =>
      exfalso
      have := hq
      simp only [Bool.and_eq_true, beq_iff_eq, bne_iff_ne] at this
      omega
  | @more W rest b v part p W2 h t ih =>
    intro hr q W1 h1 hq
    have hpart : part ≤ rest.length := by omega
    cases h1 with
    | @last _ _ _ v1 h' =>
      refine ⟨fun hp => ?_, fun _ => ?_⟩
      · exfalso
        simp only [Bool.and_eq_true, beq_iff_eq, bne_iff_ne] at hp
        omega
      · exact (step_kindApart (part := rest.length) (part' := part)).ext (List.prefix_refl _) t.pre
    | @more _ _ _ v1 part1 p1 _ h' t' =>
      have hq' := hq
      simp only [Bool.and_eq_true, beq_iff_eq, bne_iff_ne] at hq'
      obtain ⟨⟨hv1, hp1, hp1'⟩, rfl⟩ := hq'
      by_cases hv : fillOk B W.length v = true
      · by_cases e : part = part1
        · subst e
          have es : stepW B c W rest b v1 part false = stepW B c W rest b v part false := by
            unfold stepW
            rw [fillOk_rep hv1 hv]
          rw [es] at t'
          have := ih (by rw [List.length_drop]; omega) t' rfl
          refine ⟨fun hp => this.1 ?_, fun hp => this.2 ?_⟩
          · simp only [Bool.and_eq_true] at hp; exact hp.2
          · have q1 : (part == min rest.length (roomN B W.length - 7)) = true := by simpa using hp1
            have q2 : (part != rest.length) = true := by simpa using hp1'
            rw [hv, q1, q2] at hp
            simpa using hp
        · refine ⟨fun hp => ?_, fun _ => ?_⟩
          · exfalso
            simp only [Bool.and_eq_true, beq_iff_eq, bne_iff_ne] at hp
            omega
          · exact (step_partApart hr (by omega) hpart (fun q => e q.symm)).ext t'.pre t.pre
      · refine ⟨fun hp => ?_, fun _ => ?_⟩
        · exfalso
          simp only [Bool.and_eq_true] at hp
          exact hv hp.1.1
        · exact (step_fillApart hv1 (by simpa using hv)).ext t'.pre t.pre
theorem lay_same {B : Nat} {c : Int} {W rest W1 W2 : List UInt8} {b p : Bool} (h2 : Lay B c W rest b p W2) (hr : rest.length < 256) (h1 : Lay B c W rest b true W1) : (p = true → W1 = W2) ∧ (p = false → Apart W1 W2) := lay_same' h2 hr h1 rfl

/-! ## the end of the writer's cutting is the least -/
noncomputable def gEnd (C : Nat) (r : Nat) : Nat := if h : C = 0 ∨ r ≤ C then 7 + r else (C + 7) + gEnd C (r - C)
termination_by r
decreasing_by omega
theorem gEnd_le {C r : Nat} (h : r ≤ C) : gEnd C r = 7 + r := by rw [gEnd]; simp [h]
theorem gEnd_gt {C r : Nat} (h0 : C ≠ 0) (h : C < r) : gEnd C r = (C + 7) + gEnd C (r - C) := by
  rw [gEnd, dif_neg (by omega)]
theorem gEnd_mono {C : Nat} (h0 : C ≠ 0) : ∀ (n r s : Nat), s ≤ n → r ≤ s → gEnd C r ≤ gEnd C s := by
  intro n
  induction n with
  | zero => intro r s h1 h2; have : r = s := by omega
            rw [this]; exact Nat.le_refl _
  | succ n ih =>
    intro r s h1 h2
    by_cases hs : s ≤ C
    · rw [gEnd_le hs, gEnd_le (by omega)]; omega
    · rw [gEnd_gt (r := s) h0 (by omega)]
      by_cases hr : r ≤ C
      · rw [gEnd_le hr]; omega
      · rw [gEnd_gt (r := r) h0 (by omega)]
        have := ih (r - C) (s - C) (by omega) (by omega)
        omega
/-- the end of the greedy cutting: from block start S, offset o in the block, r octets left -/
noncomputable def eAt (C S o r : Nat) : Nat := if C < o then S + (C + 7) + gEnd C r else if r ≤ C - o then S + o + 7 + r else S + (C + 7) + gEnd C (r - (C - o))
theorem eAt_zero {C S r : Nat} (h0 : C ≠ 0) : eAt C S 0 r = S + gEnd C r := by
  unfold eAt
  rw [if_neg (by omega)]
  by_cases h : r ≤ C
  · rw [if_pos (by omega), gEnd_le h]; omega
  · rw [if_neg (by omega), gEnd_gt (r := r) h0 (by omega)]
    have : r - (C - 0) = r - C := by omega
    rw [this]; omega
theorem eAt_up {C S o r : Nat} (h0 : C ≠ 0) (ho : o < C + 7) : eAt C S o r ≤ S + (C + 7) + gEnd C r := by
  unfold eAt
  by_cases h : C < o
  · rw [if_pos h]; exact Nat.le_refl _
  · rw [if_neg h]
    by_cases h2 : r ≤ C - o
    · rw [if_pos h2]; omega
    · rw [if_neg h2]
      have := gEnd_mono h0 r (r - (C - o)) r (Nat.le_refl _) (by omega)
      omega
theorem eAt_mono_o {C S o o' r : Nat} (h0 : C ≠ 0) (h : o ≤ o') (ho : o' < C + 7) : eAt C S o r ≤ eAt C S o' r := by
  by_cases h1 : C < o'
  · have := eAt_up (S := S) (r := r) h0 (show o < C + 7 by omega)
    have e : eAt C S o' r = S + (C + 7) + gEnd C r := by unfold eAt; rw [if_pos h1]
    omega
  · unfold eAt
    rw [if_neg (show ¬ C < o by omega), if_neg h1]
    by_cases h2 : r ≤ C - o'
    · rw [if_pos h2, if_pos (show r ≤ C - o by omega)]; omega
    · rw [if_neg h2]
      by_cases h3 : r ≤ C - o
      · rw [if_pos h3]; omega
      · rw [if_neg h3]
        have := gEnd_mono h0 r (r - (C - o)) (r - (C - o')) (by omega) (by omega)
        omega
/-- position p = block start + offset -/
noncomputable def eP (B p r : Nat) : Nat := eAt (B - 7) (p / B * B) (p % B) r
theorem eP_mono {B p q r : Nat} (hB : 8 ≤ B) (h : p ≤ q) : eP B p r ≤ eP B q r := by
  have h0 : B - 7 ≠ 0 := by omega
  have hp := Nat.mod_lt p (show B > 0 by omega)
  have hq := Nat.mod_lt q (show B > 0 by omega)
  have dp := Nat.div_add_mod p B
  have dq := Nat.div_add_mod q B
  have hd : p / B ≤ q / B := Nat.div_le_div_right h
  unfold eP
  rcases Nat.lt_or_ge (p / B) (q / B) with hlt | hge
  · have h1 := eAt_up (S := p / B * B) (r := r) h0 (show p % B < B - 7 + 7 by omega)
    have h2 : eAt (B - 7) (q / B * B) 0 r ≤ eAt (B - 7) (q / B * B) (q % B) r := eAt_mono_o h0 (by omega) (by omega)
    rw [eAt_zero h0] at h2
    have h3 : (p / B + 1) * B ≤ q / B * B := Nat.mul_le_mul_right _ hlt
    rw [Nat.add_mul] at h3
    omega
  · have e : p / B = q / B := by omega
    rw [e]
    refine eAt_mono_o h0 ?_ (by omega)
    rw [e] at dp
    omega
theorem eP_at {B k o r : Nat} (ho : o < B) : eP B (k * B + o) r = eAt (B - 7) (k * B) o r := by
  unfold eP
  have h1 : (k * B + o) / B = k := by
    rw [Nat.mul_comm, Nat.mul_add_div (by omega), Nat.div_eq_of_lt ho, Nat.add_zero]
  have h2 : (k * B + o) % B = o := by
    rw [Nat.mul_comm, Nat.mul_add_mod, Nat.mod_eq_of_lt ho]
  rw [h1, h2]
theorem eAt_stepA {C S o r part : Nat} (h0 : C ≠ 0) (h1 : part ≤ r) (h2 : part ≤ C - o) (ho : o ≤ C) : eAt C S o r ≤ eAt C S (o + 7 + part) (r - part) := by
  by_cases hc : C < o + 7 + part
  · have e : eAt C S (o + 7 + part) (r - part) = S + (C + 7) + gEnd C (r - part) := by unfold eAt; rw [if_pos hc]
    rw [e]
    unfold eAt
    rw [if_neg (show ¬ C < o by omega)]
    by_cases h3 : r ≤ C - o
    · rw [if_pos h3]; omega
    · rw [if_neg h3]
      have := gEnd_mono h0 r (r - (C - o)) (r - part) (by omega) (by omega)
      omega
  · unfold eAt
    rw [if_neg (show ¬ C < o by omega), if_neg hc]
    by_cases h3 : r - part ≤ C - (o + 7 + part)
    · rw [if_pos h3, if_pos (by omega)]; omega
    · rw [if_neg h3]
      by_cases h4 : r ≤ C - o
      · rw [if_pos h4]; omega
      · rw [if_neg h4]
        have := gEnd_mono h0 r (r - (C - o)) (r - part - (C - (o + 7 + part))) (by omega) (by omega)
        omega
theorem eAt_stepB {C S o r : Nat} (h0 : C ≠ 0) (h1 : C - o ≤ r) (ho : o ≤ C) : eAt C S o r ≤ eAt C (S + (C + 7)) 0 (r - (C - o)) ∧ (C - o < r → eAt C S o r = eAt C (S + (C + 7)) 0 (r - (C - o))) := by
  rw [eAt_zero h0]
  unfold eAt
  rw [if_neg (show ¬ C < o by omega)]
  by_cases h3 : r ≤ C - o
  · rw [if_pos h3]
    exact ⟨by omega, fun h => by omega⟩
  · rw [if_neg h3]
    exact ⟨Nat.le_refl _, fun _ => rfl⟩
theorem stepW_len {B : Nat} {c : Int} {W rest : List UInt8} {b : Bool} {v : UInt8} {part : Nat} {e : Bool} (h : part ≤ rest.length) :
    (stepW B c W rest b v part e).length = W.length + fillN B W.length + 7 + part := by
  unfold stepW
  rw [List.length_append, List.length_append, List.length_replicate, frag_length, List.length_take]
  omega
theorem eP_step {B n r part : Nat} (hB : 8 ≤ B) (h : part ≤ min r (roomN B n - 7)) :
    eP B n r ≤ eP B (n + fillN B n + 7 + part) (r - part) ∧ (part = min r (roomN B n - 7) → part ≠ r → eP B n r = eP B (n + fillN B n + 7 + part) (r - part)) := by
  have h0 : B - 7 ≠ 0 := by omega
  have hm := Nat.mod_lt n (show B > 0 by omega)
  obtain ⟨k, o, ho, rfl⟩ : ∃ k o, o < B ∧ n = k * B + o := ⟨n / B, n % B, hm, by have := Nat.div_add_mod n B; rw [Nat.mul_comm] at this; exact this.symm⟩
  have hmo : (k * B + o) % B = o := by rw [Nat.mul_comm, Nat.mul_add_mod, Nat.mod_eq_of_lt ho]
  have hC : B - 7 + 7 = B := by omega
  -- the block and the offset behind the filling
  obtain ⟨k1, o1, ho1, hpos, hroom, heq⟩ : ∃ k1 o1, o1 ≤ B - 7 ∧ k * B + o + fillN B (k * B + o) = k1 * B + o1 ∧ roomN B (k * B + o) - 7 = (B - 7) - o1 ∧ eP B (k * B + o) r = eAt (B - 7) (k1 * B) o1 r := by
    unfold fillN roomN
    rw [hmo, eP_at ho]
    by_cases hf : B - o < 7
    · refine ⟨k + 1, 0, by omega, ?_, ?_, ?_⟩
      · rw [if_pos hf, Nat.add_mul]; omega
      · rw [if_pos hf]; omega
      · rw [eAt_zero h0, Nat.add_mul]
        unfold eAt
        rw [if_pos (show B - 7 < o by omega), hC]
        omega
    · refine ⟨k, o, by omega, ?_, ?_, rfl⟩
      · rw [if_neg hf]; omega
      · rw [if_neg hf]; omega
  rw [hroom] at h ⊢
  rw [heq, hpos]
  by_cases hl : part = B - 7 - o1
  · subst hl
    have hp : k1 * B + o1 + 7 + (B - 7 - o1) = (k1 + 1) * B + 0 := by rw [Nat.add_mul]; omega
    rw [hp, eP_at (show 0 < B by omega)]
    have := eAt_stepB (S := k1 * B) (r := r) h0 (show (B - 7) - o1 ≤ r by omega) ho1
    rw [hC] at this
    have e2 : (k1 + 1) * B = k1 * B + B := by rw [Nat.add_mul]; omega
    rw [e2]
    exact ⟨this.1, fun _ hne => this.2 (by omega)⟩
  · have hp : k1 * B + o1 + 7 + part = k1 * B + (o1 + 7 + part) := by omega
    rw [hp, eP_at (show o1 + 7 + part < B by omega)]
    refine ⟨eAt_stepA h0 (by omega) (by omega) ho1, fun he hne => ?_⟩
    exfalso
    omega
theorem eP_last {B n r : Nat} (hB : 8 ≤ B) (h : r ≤ roomN B n - 7) : eP B n r = n + fillN B n + 7 + r := by
  have hm := Nat.mod_lt n (show B > 0 by omega)
  have dn := Nat.div_add_mod n B
  rw [Nat.mul_comm] at dn
  unfold eP eAt
  unfold roomN at h
  unfold fillN
  by_cases hf : B - n % B < 7
  · rw [if_pos hf] at h ⊢
    rw [if_pos (by omega), gEnd_le h]
    omega
  · rw [if_neg hf] at h ⊢
    rw [if_neg (by omega), if_pos (by omega)]
    omega
theorem lay_len {B : Nat} {c : Int} {W rest W' : List UInt8} {b p : Bool} (hB : 8 ≤ B) (h : Lay B c W rest b p W') : eP B W.length rest.length ≤ W'.length ∧ (p = true → W'.length = eP B W.length rest.length) := by
  induction h with
  | last h =>
    rw [stepW_len (Nat.le_refl _), eP_last hB h]
    exact ⟨Nat.le_refl _, fun _ => rfl⟩
  | @more W rest b v part p W' h t ih =>
    have hs := eP_step hB h
    rw [stepW_len (by omega), List.length_drop] at ih
    refine ⟨Nat.le_trans hs.1 ih.1, fun hp => ?_⟩
    simp only [Bool.and_eq_true, beq_iff_eq, bne_iff_ne] at hp
    rw [ih.2 hp.2]
    exact (hs.2 hp.1.2.1 hp.1.2.2).symm
/-- the writer's own ends no further -/
theorem lay_least {B : Nat} {c : Int} {W V rest W' V' : List UInt8} {b b' p : Bool} (hB : 8 ≤ B) (hW : Lay B c W rest b true W') (hV : Lay B c V rest b' p V') (h : W.length ≤ V.length) : W'.length ≤ V'.length := by
  rw [(lay_len hB hW).2 rfl]
  exact Nat.le_trans (eP_mono hB h) (lay_len hB hV).1

/-! RdP -/
/-- the tokens that a reader keeps -/
structure RdK where
  t0 : Tok
  t1 : Tok
  t2 : Tok
  t3 : Tok
  t4 : Tok
  t5 : Tok
  t6 : Tok
  t7 : Tok
  t8 : Tok
  t9 : Tok
  t10 : Tok
  td : Tok
  tB : Tok
  tc : Tok
  ts : Tok
  tb : Tok
  n : Nat
noncomputable abbrev rD (w : World) (k : RdK) (d : List UInt8) (B ck : Int) (rl : Addr) (at' : Int) (ta : Tok) (be : Int) (te : Tok) (sh : Bool) (gl : Int) (tg : Tok) : List DictEntry :=
  [⟨PyData.keyHash w.params (Str.ofString "data"), .str (Str.ofString "data") k.t0, .bytes d.toArray k.td⟩,
   ⟨PyData.keyHash w.params (Str.ofString "block"), .str (Str.ofString "block") k.t1, .int B k.tB⟩,
   ⟨PyData.keyHash w.params (Str.ofString "check"), .str (Str.ofString "check") k.t2, .int ck k.tc⟩,
   ⟨PyData.keyHash w.params (Str.ofString "at"), .str (Str.ofString "at") k.t3, .int at' ta⟩,
   ⟨PyData.keyHash w.params (Str.ofString "block_end"), .str (Str.ofString "block_end") k.t4, .int be te⟩,
   ⟨PyData.keyHash w.params (Str.ofString "short"), .str (Str.ofString "short") k.t5, .bool sh⟩,
   ⟨PyData.keyHash w.params (Str.ofString "skipped"), .str (Str.ofString "skipped") k.t6, .int 0 k.ts⟩,
   ⟨PyData.keyHash w.params (Str.ofString "reasons"), .str (Str.ofString "reasons") k.t7, .ref rl⟩,
   ⟨PyData.keyHash w.params (Str.ofString "torn"), .str (Str.ofString "torn") k.t8, .bool false⟩,
   ⟨PyData.keyHash w.params (Str.ofString "good_length"), .str (Str.ofString "good_length") k.t9, .int gl tg⟩,
   ⟨PyData.keyHash w.params (Str.ofString "breaks"), .str (Str.ofString "breaks") k.t10, .int 0 k.tb⟩]
noncomputable abbrev rObjs (w : World) (x dx rl : Addr) (k : RdK) (d : List UInt8) (B ck : Int) (at' : Int) (ta : Tok) (be : Int) (te : Tok) (sh : Bool) (gl : Int) (tg : Tok) : List (Addr × Obj) :=
  [(x, instObj 233 dx), (dx, dictOf (rD w k d B ck rl at' ta be te sh gl tg) 11), (rl, listOf #[] k.n)]

/-! FgP -/
theorem read32_of (w : World) (d : List UInt8) (td : Tok) (p : Nat) (ta : Tok) (c : Nat) (hd : d.length ≤ 1048576) (ha : p + 4 ≤ d.length) (hq : (d.getD p 0).toNat + (d.getD (p + 1) 0).toNat * 256 + (d.getD (p + 2) 0).toNat * 65536 + (d.getD (p + 3) 0).toNat * 16777216 = c) :
    MSpec 760 5800 w 96 [.bytes d.toArray td, .int p ta] [] (fun v news' => news' = [] ∧ ∃ t, v = .int (c : Int) t) := by
  subst hq
  exact read32_spec w d td p ta hd ha
/-- a piece lies at p -/
structure PieceAt (d : List UInt8) (ck : Int) (kind : Nat) (x : List UInt8) (p : Nat) : Prop where
  h4 : (d.getD (p + 4) 0).toNat = x.length
  h5 : (d.getD (p + 5) 0).toNat = 0
  h6 : (d.getD (p + 6) 0).toNat = kind
  hb : (d.drop (p + 6)).take (p + 7 + x.length - (p + 6)) = kind.toUInt8 :: x
  hq : (d.getD p 0).toNat + (d.getD (p + 1) 0).toNat * 256 + (d.getD (p + 2) 0).toNat * 65536 + (d.getD (p + 3) 0).toNat * 16777216 = chkN ck (kind.toUInt8 :: x)
  hl : p + 7 + x.length ≤ d.length
theorem le32_sum {n : Nat} (h : n < 4294967296) : ((le32 n).getD 0 0).toNat + ((le32 n).getD 1 0).toNat * 256 + ((le32 n).getD 2 0).toNat * 65536 + ((le32 n).getD 3 0).toNat * 16777216 = n := by
  have e0 : ((le32 n).getD 0 0).toNat = n % 256 % 256 := rfl
  have e1 : ((le32 n).getD 1 0).toNat = n / 256 % 256 % 256 := rfl
  have e2 : ((le32 n).getD 2 0).toNat = n / 65536 % 256 % 256 := rfl
  have e3 : ((le32 n).getD 3 0).toNat = n / 16777216 % 256 := rfl
  rw [e0, e1, e2, e3]
  omega
theorem getD_app {pre mid post : List UInt8} {i j : Nat} (hp : i = pre.length + j) (hj : j < mid.length) : (pre ++ (mid ++ post)).getD i 0 = mid.getD j 0 := by
  subst hp
  rw [List.getD_eq_getElem?_getD, List.getD_eq_getElem?_getD, List.getElem?_append_right (by omega), Nat.add_sub_cancel_left, List.getElem?_append_left hj]
theorem u8_back {n : Nat} (h : n < 256) : n.toUInt8.toNat = n := by
  show n % 256 = n
  omega
theorem pieceAt {pre post x : List UInt8} {ck : Int} {kind : Nat} (hk : kind < 256) (hx : x.length ≤ 15) : PieceAt (pre ++ (frag ck kind x ++ post)) ck kind x pre.length := by
  have hfl := frag_length ck kind x
  have hg : ∀ j, j < 7 → (pre ++ (frag ck kind x ++ post)).getD (pre.length + j) 0 = (frag ck kind x).getD j 0 := fun j hj => getD_app rfl (by omega)
  have hg0 := hg 0 (by omega)
  rw [Nat.add_zero] at hg0
  refine ⟨?_, ?_, ?_, ?_, ?_, ?_⟩
  · rw [hg 4 (by omega)]
    show x.length.toUInt8.toNat = x.length
    exact u8_back (by omega)
  · rw [hg 5 (by omega)]; rfl
  · rw [hg 6 (by omega)]
    show kind.toUInt8.toNat = kind
    exact u8_back hk
  · have e : pre.length + 7 + x.length - (pre.length + 6) = x.length + 1 := by omega
    rw [e, ← List.drop_drop, List.drop_left]
    have e2 : frag ck kind x ++ post = (le32 (chkN ck (kind.toUInt8 :: x)) ++ [x.length.toUInt8, 0]) ++ ((kind.toUInt8 :: x) ++ post) := by
      unfold frag; simp
    rw [e2]
    have e3 : (le32 (chkN ck (kind.toUInt8 :: x)) ++ [x.length.toUInt8, 0]).length = 6 := rfl
    rw [← e3, List.drop_left]
    have e4 : (kind.toUInt8 :: x).length = x.length + 1 := rfl
    rw [← e4, List.take_left]
  · rw [hg0, hg 1 (by omega), hg 2 (by omega), hg 3 (by omega)]
    exact le32_sum (chk_lt _ _)
  · simp only [List.length_append]; omega
section
variable {prog : Program} {w : World} {A : Around} {E : Value → Shared → Prop} {s : Shared} {h₀ : Heap} {L : Addr} {m : Str → Option Value} {news : List (Addr × Obj)} {Q : Value → Shared → Prop} {d : List UInt8} {t ui : Tok} {value slice : PySem.Expr} {p v : Nat}
theorem item_at4 (hv : (d.getD (p + 4) 0).toNat = v) (hlt : p + 4 < d.length) (hd : d.length ≤ 100000) (h : Q (.int (v : Int) s.toks) { s with toks := s.toks + 1 })
    (hs : subscripted slice false (.bytes d.toArray t) (.int ((p : Int) + 4) ui) = operate [.bytes d.toArray t, .int ((p : Int) + 4) ui] (getItem (.bytes d.toArray t) (.int ((p : Int) + 4) ui)))
    (ht : ∀ r, letTemporaryGo value (.bytes d.toArray t) r = pure ()) : wpAny (model prog w) A (subscriptTail value slice (.bytes d.toArray t) (.int ((p : Int) + 4) ui)) Q E s :=
  bytes_item_K (by omega) (by omega) (by omega) (by rw [show ((p : Int) + 4).toNat = p + 4 by omega, hv]) h hs ht
theorem clip_eq {n i : Nat} {a : Int} (h : a = (i : Int)) (hi : i ≤ n) : clipAt n a = i := by
  subst h
  rw [clipAt_nat]
  omega
theorem slice_to {b c : List UInt8} {l u : Value} {lo hi : Option Int} {i j : Nat} (F : Fr h₀ L s.heap m) (N : News h₀ L s.heap news) (hl : IsPart l lo) (hu : IsPart u hi)
    (hz : b.length ≤ 1000000) (hc : (b.drop i).take (j - i) = c) (e1 : lo.elim 0 (clipAt b.length) = i) (e2 : hi.elim b.length (clipAt b.length) = j)
    (h : ∀ h' t' k, Fr h₀ L h' m → News h₀ L h' news → Q (.bytes c.toArray t') { s with heap := h', toks := k })
    (hs : subscripted slice false (.bytes b.toArray t) (.ref s.heap.objs.size) = operate [.ref s.heap.objs.size, .bytes b.toArray t] (getItem (.bytes b.toArray t) (.ref s.heap.objs.size)))
    (ht : ∀ r, letTemporaryGo value (.bytes b.toArray t) r = pure ()) :
    wpAny (model prog w) A (subscriptTail value slice (.bytes b.toArray t) (.ref s.heap.objs.size)) Q E { s with heap := s.heap.push { cls := .type "slice", data := .fields #[l, u, .none] } } := by
  subst hc
  exact slice_by i j F N hl hu hz e1 e2 h hs ht
end

/-! AddP -/
inductive BsAre : List Value → List (List UInt8) → Prop
  | nil : BsAre [] []
  | cons {b : List UInt8} {t : Tok} {vs : List Value} {bs : List (List UInt8)} (h : BsAre vs bs) : BsAre (.bytes b.toArray t :: vs) (b :: bs)
theorem BsAre.snoc {vs : List Value} {bs : List (List UInt8)} {b : List UInt8} {t : Tok} (h : BsAre vs bs) : BsAre (vs ++ [.bytes b.toArray t]) (bs ++ [b]) := by
  induction h with
  | nil => exact .cons .nil
  | cons _ ih => exact .cons ih
theorem BsAre.length {vs : List Value} {bs : List (List UInt8)} (h : BsAre vs bs) : vs.length = bs.length := by
  induction h with
  | nil => rfl
  | cons _ ih => simp [ih]
theorem fragment_of (w : World) (kI : Int) (kind : Nat) (tk : Tok) (x : List UInt8) (tx : Tok) (check : Int) (tc : Tok) (e : kI = (kind : Int)) (hk : kind < 256) (hx : x.length ≤ 15) (hc : check = 1 ∨ check = 2) :
    MSpec 740 5700 w 146 [.int kI tk, .bytes x.toArray tx, .int check tc] [] (fun v news' => news' = [] ∧ ∃ t, v = .bytes (frag check kind x).toArray t) := by
  subst e
  exact fragment_spec w kind tk x tx check tc hk hx hc
structure AddSt where
  items : List Value
  n : Nat
  W : List UInt8
  tl : Tok
  pos : Nat
  tp : Tok
  begun : Bool
  ended : Bool
noncomputable def addM (B : Nat) (o : List UInt8) (s : AddSt) : Nat := if s.ended then 0 else 1 + 2 * (o.length - s.pos) + (if s.W.length % B = 0 then 0 else 1)
structure AddP (B : Nat) (ck : Int) (W0 o : List UInt8) (s : AddSt) : Prop where
  chunks : ∃ chunks, BsAre s.items chunks ∧ chunks.flatten = s.W
  len : s.items.length ≤ s.W.length
  pos : s.pos ≤ o.length
  room : s.W.length + 28 * addM B o s ≤ W0.length + 896
  go : s.ended = false → ∀ W', Lay B ck s.W (o.drop s.pos) s.begun true W' → Lay B ck W0 o false true W'
  done : s.ended = true → Lay B ck W0 o false true s.W
theorem mod_end {B n : Nat} (hB : 0 < B) : (n + (B - n % B)) % B = 0 := by
  have h1 := Nat.div_add_mod n B
  have h2 := Nat.mod_lt n hB
  have h3 : n + (B - n % B) = B * (n / B + 1) := by rw [Nat.mul_add, Nat.mul_one]; omega
  rw [h3, Nat.mul_mod_right]
theorem fill_end {B n : Nat} (hB : 8 ≤ B) : (n + fillN B n + roomN B n) % B = 0 := by
  unfold fillN roomN
  split
  · have := mod_end (n := n) (show 0 < B by omega)
    rw [Nat.add_mod, this, Nat.mod_self]
    simp
  · exact mod_end (by omega)
theorem roomN_lo {B n : Nat} (hB : 8 ≤ B) : 7 ≤ roomN B n := by
  unfold roomN
  split <;> omega
theorem roomN_hi {B n : Nat} (hB : 8 ≤ B) : roomN B n ≤ B := by
  unfold roomN
  split <;> omega
theorem fillN_hi {B n : Nat} : fillN B n ≤ 6 := by
  unfold fillN
  split <;> omega
theorem fillOk_zero {B n : Nat} : fillOk B n 0 = true := by
  unfold fillOk
  simp
theorem add_pure {B : Nat} {ck : Int} {W0 o : List UInt8} {s : AddSt} (hP : AddP B ck W0 o s) (hs : s.ended = false) (hB1 : 8 ≤ B) (hB2 : B ≤ 14) (ho : o.length ≤ 15)
    {part : Nat} (hpart : part = min (o.length - s.pos) (roomN B s.W.length - 7)) {ended : Bool} (he : ended = decide (s.pos + part = o.length)) {items' : List Value} {n' : Nat} {tl' tp' : Tok} {chunks' : List (List UInt8)}
    (hb : BsAre items' chunks') (hf : chunks'.flatten = stepW B ck s.W (o.drop s.pos) s.begun 0 part ended) (hlen : items'.length ≤ s.items.length + 2) :
    AddP B ck W0 o ⟨items', n', stepW B ck s.W (o.drop s.pos) s.begun 0 part ended, tl', s.pos + part, tp', true, ended⟩ ∧ addM B o ⟨items', n', stepW B ck s.W (o.drop s.pos) s.begun 0 part ended, tl', s.pos + part, tp', true, ended⟩ < addM B o s := by
  have hpos := hP.pos
  have hl := hP.len
  have hr := hP.room
  have hdl : (o.drop s.pos).length = o.length - s.pos := List.length_drop ..
  have hW : (stepW B ck s.W (o.drop s.pos) s.begun 0 part ended).length = s.W.length + fillN B s.W.length + 7 + part := stepW_len (by omega)
  have r1 := roomN_lo (n := s.W.length) hB1
  have r2 := roomN_hi (n := s.W.length) hB1
  have r3 := fillN_hi (B := B) (n := s.W.length)
  have hm : addM B o ⟨items', n', stepW B ck s.W (o.drop s.pos) s.begun 0 part ended, tl', s.pos + part, tp', true, ended⟩ < addM B o s := by
    unfold addM
    rw [hs]
    simp only [Bool.false_eq_true, if_false]
    cases ended with
    | true => simp only [if_true]; omega
    | false =>
      have hne : ¬ (s.pos + part = o.length) := of_decide_eq_false he.symm
      have hfull : part = roomN B s.W.length - 7 := by omega
      have hz : (stepW B ck s.W (o.drop s.pos) s.begun 0 part false).length % B = 0 := by
        rw [hW]
        have : s.W.length + fillN B s.W.length + 7 + part = s.W.length + fillN B s.W.length + roomN B s.W.length := by omega
        rw [this]
        exact fill_end hB1
      simp only [Bool.false_eq_true, if_false, hz, if_true]
      by_cases h0 : part = 0
      · have h7 : roomN B s.W.length = 7 := by omega
        have hn : ¬ (s.W.length % B = 0) := by
          intro hz2
          unfold roomN at h7
          rw [hz2] at h7
          simp only [Nat.sub_zero] at h7
          split at h7 <;> omega
        rw [if_neg hn]
        omega
      · split <;> omega
  refine ⟨⟨⟨chunks', hb, hf⟩, ?_, ?_, ?_, ?_, ?_⟩, hm⟩
  · show items'.length ≤ (stepW B ck s.W (o.drop s.pos) s.begun 0 part ended).length
    omega
  · show s.pos + part ≤ o.length
    omega
  · show (stepW B ck s.W (o.drop s.pos) s.begun 0 part ended).length + _ ≤ _
    omega
  · intro hen W' hL
    dsimp only at hen hL
    subst hen
    have hne : ¬ (s.pos + part = o.length) := of_decide_eq_false he.symm
    have hmore := Lay.more (B := B) (c := ck) (W := s.W) (rest := o.drop s.pos) (begun := s.begun) (v := 0) (part := part) (p := true) (W' := W') (by omega) (by rw [List.drop_drop]; exact hL)
    have hflag : (fillOk B s.W.length 0 && (part == min (o.drop s.pos).length (roomN B s.W.length - 7) && part != (o.drop s.pos).length) && true) = true := by
      rw [fillOk_zero, hdl]
      simp only [Bool.true_and, Bool.and_true, Bool.and_eq_true, beq_iff_eq, bne_iff_ne]
      omega
    rw [hflag] at hmore
    exact hP.go hs W' hmore
  · intro hen
    dsimp only at hen ⊢
    subst hen
    have heq : s.pos + part = o.length := of_decide_eq_true he.symm
    have hpl : part = (o.drop s.pos).length := by omega
    have hlast := Lay.last (B := B) (c := ck) (W := s.W) (rest := o.drop s.pos) (begun := s.begun) (v := 0) (by omega)
    rw [fillOk_zero, ← hpl] at hlast
    exact hP.go hs _ hlast
theorem beq_nat (a b : Nat) : (((a : Nat) : Int) == ((b : Nat) : Int)) = decide (a = b) := by
  rw [Bool.eq_iff_iff]
  simp only [beq_iff_eq, decide_eq_true_eq]
  omega
theorem cut_eq {o : List UInt8} {pos part : Nat} {up : Int} (hup : up = ((pos + part : Nat) : Int)) (h : pos + part ≤ o.length) :
    List.take ((some up).elim o.length (clipAt o.length) - (some (pos : Int)).elim 0 (clipAt o.length)) (List.drop ((some (pos : Int)).elim 0 (clipAt o.length)) o) = (o.drop pos).take part := by
  subst hup
  simp only [Option.elim, clipAt_nat]
  have e1 : min pos o.length = pos := by omega
  have e2 : min (pos + part) o.length = pos + part := by omega
  rw [e1, e2]
  congr 1
  omega
theorem fill_yes {B n : Nat} (h : (B : Int) - ((n % B : Nat) : Int) < 7) (hm : n % B < B) : ((B : Int) - ((n % B : Nat) : Int)).toNat = fillN B n := by
  unfold fillN
  rw [if_pos (by omega)]
  omega
theorem fill_no {B n : Nat} (h : ¬ (B : Int) - ((n % B : Nat) : Int) < 7) (hm : n % B < B) : fillN B n = 0 := by
  unfold fillN
  rw [if_neg (by omega)]
theorem len_one {chunks : List (List UInt8)} {W b : List UInt8} (hf : chunks.flatten = W) : ((W.length + b.length : Nat) : Int) = ((chunks ++ [b]).flatten.length : Int) := by
  rw [← hf]
  simp only [List.flatten_append, List.length_append, List.flatten_cons, List.flatten_nil, List.append_nil]
section
variable {h₀ : Heap} {L : Addr} {s : Shared} {w : World} {x dx fl : Addr} {t0 t1 t2 t3 : Tok} {B : Nat} {tb : Tok} {ck : Int} {tc : Tok} {W0 o : List UInt8} {m₀ m' : Str → Option Value}
theorem add_close {c : AddSt} (hP : AddP B ck W0 o c) (hs : c.ended = false) (hB1 : 8 ≤ B) (hB2 : B ≤ 14) (ho : o.length ≤ 15) {h' : Heap} {tk : Nat} {lenE : Int} {tl' : Tok} {items' : List Value} {n' : Nat}
    (F' : Fr h₀ L h' m') (N' : News h₀ L h' (wObjs w x dx fl t0 t1 t2 t3 B tb ck tc lenE tl' items' n')) {up : Int} {tu : Tok} {eb : Bool}
    (ha : m' (Str.ofString "at") = some (.int up tu)) (hbg : m' (Str.ofString "begun") = some (.bool true)) (hen : m' (Str.ofString "ended") = some (.bool eb))
    (hr : ∀ z, z ≠ Str.ofString "at" → z ≠ Str.ofString "begun" → z ≠ Str.ofString "ended" → [Str.ofString "room", Str.ofString "upto", Str.ofString "kind"].contains z = false → m' z = m₀ z)
    (part : Nat) (hpart : part = min (o.length - c.pos) (roomN B c.W.length - 7)) (hup : up = ((c.pos + part : Nat) : Int)) (heb : eb = decide (c.pos + part = o.length)) {chunks' : List (List UInt8)}
    (hb : BsAre items' chunks') (hf : chunks'.flatten = stepW B ck c.W (o.drop c.pos) c.begun 0 part eb) (hlen : items'.length ≤ c.items.length + 2) (hle : lenE = (chunks'.flatten.length : Int)) :
    KswEnd h₀ L s (fun c : AddSt => wObjs w x dx fl t0 t1 t2 t3 B tb ck tc (c.W.length : Int) c.tl c.items c.n) (fun c => [(Str.ofString "at", .int (c.pos : Int) c.tp), (Str.ofString "begun", .bool c.begun), (Str.ofString "ended", .bool c.ended)]) (fun _ => True) [Str.ofString "room", Str.ofString "upto", Str.ofString "kind"] m₀ (AddP B ck W0 o) (addM B o) c { s with heap := h', toks := tk } := by
  subst hle hup
  obtain ⟨p1, p2⟩ := add_pure (n' := n') (tl' := tl') (tp' := tu) hP hs hB1 hB2 ho hpart heb hb hf hlen
  rw [hf] at N'
  refine ksw_end _ F' N' (fun p hp => hp) trivial ?_ ?_ p1 p2
  · intro p hp
    simp only [List.mem_cons, List.not_mem_nil, or_false] at hp
    rcases hp with rfl | rfl | rfl
    · exact ha
    · exact hbg
    · exact hen
  · intro z h1 h2
    simp only [List.forall_mem_cons, List.not_mem_nil, false_implies, implies_true, and_true, ne_eq] at h1
    exact hr z h1.1 h1.2.1 h1.2.2 h2
end
section
variable {prog : Program} {w : World} {A : Around} {E : Value → Shared → Prop} {s : Shared} {env : Env}
theorem wpA_app {Γ : PySem.Ctx} {rest : List Stmt} {Q : Flow → Shared → Prop} (hΓ : Γ.In A) : ∀ (pre : List Stmt) (s : Shared) (p : Pos),
    Sem.wp (model prog w) Γ (execs pre env) (fun f _ s' => match f with | .next => wpAny (model prog w) A (execs rest env) Q E s' | f => Q f s') (fun e _ s' => E e s') p s →
    Sem.wp (model prog w) Γ (execs (pre ++ rest) env) (fun f _ s' => Q f s') (fun e _ s' => E e s') p s
  | [], s, p, h => by
    have h' : wpAny (model prog w) A (execs rest env) Q E s := h
    exact h' Γ p hΓ
  | st :: pre, s, p, h => by
    have e1 : execs (st :: pre) env = (exec st env >>= fun f => match f with | .next => execs pre env | f => pure f) := rfl
    have e2 : execs (st :: pre ++ rest) env = (exec st env >>= fun f => match f with | .next => execs (pre ++ rest) env | f => pure f) := rfl
    rw [e1, Sem.wp_bind'] at h
    rw [e2, Sem.wp_bind']
    refine Sem.wp_mono _ Γ _ (fun f p' s' h' => ?_) (fun _ _ _ x => x) p s h
    cases f with
    | next => exact wpA_app hΓ pre s' p' h'
    | _ => exact h'
theorem wpA_cutI (n : Nat) {body : List Stmt} {Q : Flow → Shared → Prop} (I : Shared → Prop) (h : wpAny (model prog w) A (execs (body.take n) env) (fun f s' => f = .next ∧ I s') E s)
    (k : ∀ s', I s' → wpAny (model prog w) A (execs (body.drop n) env) Q E s') : wpAny (model prog w) A (execs body env) Q E s := fun Γ p hΓ => by
  have h1 := wpA_app (rest := body.drop n) hΓ (body.take n) s p ((wpAny_mono h (fun f s' hf => by rw [hf.1]; exact k s' hf.2) fun _ _ x => x : wpAny _ _ _ (fun f s' => match f with | .next => wpAny (model prog w) A (execs (body.drop n) env) Q E s' | f => Q f s') E s) Γ p hΓ)
  rwa [List.take_append_drop] at h1
end
theorem kind_small (b e : Bool) : kindOf b e < 256 := by cases b <;> cases e <;> decide
theorem fr_gen {h₀ : Heap} {L : Addr} {h : Heap} {m : Str → Option Value} (ps : List (Str × Value)) (hk : ∀ p ∈ ps, m p.1 = some p.2) (F : Fr h₀ L h m) : Fr h₀ L h (kstB m ps) := by
  have e : kstB m ps = m := by
    funext y
    exact kstB_eq hk fun _ => rfl
  rw [e]
  exact F
theorem kst_self {m : Str → Option Value} {ps : List (Str × Value)} (hk : ∀ p ∈ ps, m p.1 = some p.2) : kstB m ps = m := by
  funext y
  exact kstB_eq hk fun _ => rfl
/-- a turn of the writer, behind a stretch of it -/
noncomputable def AddI (h₀ : Heap) (L : Addr) (s : Shared) (w : World) (x dx fl : Addr) (t0 t1 t2 t3 : Tok) (B : Nat) (tb : Tok) (ck : Int) (tc : Tok) (m₀ : Str → Option Value) (V : List UInt8) (k : Nat) (ps : Tok → Tok → List (Str × Value)) (s' : Shared) : Prop :=
  ∃ (h : Heap) (tk : Nat) (m : Str → Option Value) (items : List Value) (n : Nat) (chunks : List (List UInt8)) (tl ta te : Tok), s' = { s with heap := h, toks := tk } ∧ Fr h₀ L h m ∧ (∀ p ∈ ps ta te, m p.1 = some p.2) ∧
    (∀ z, z ≠ Str.ofString "at" → z ≠ Str.ofString "begun" → z ≠ Str.ofString "ended" → [Str.ofString "room", Str.ofString "upto", Str.ofString "kind"].contains z = false → m z = m₀ z) ∧
    News h₀ L h (wObjs w x dx fl t0 t1 t2 t3 B tb ck tc (V.length : Int) tl items n) ∧ BsAre items chunks ∧ chunks.flatten = V ∧ items.length ≤ k
theorem add_room {B : Nat} {n : Nat} (h : (B : Int) - ((n % B : Nat) : Int) < 7) : roomN B n = B := by
  unfold roomN
  rw [if_pos (by omega)]
theorem add_room' {B : Nat} {n : Nat} (h : ¬ (B : Int) - ((n % B : Nat) : Int) < 7) (hm : n % B < B) : (B : Int) - ((n % B : Nat) : Int) = (roomN B n : Int) := by
  unfold roomN
  rw [if_neg (by omega)]
  omega
theorem add_upto {rm pos ol : Nat} (h7 : 7 ≤ rm) (hp : pos ≤ ol) : (if (pos : Int) + (rm : Int) - 7 < (ol : Int) then (pos : Int) + (rm : Int) - 7 else (ol : Int)) = ((pos + min (ol - pos) (rm - 7) : Nat) : Int) := by
  split <;> omega
theorem AddI.intro {h₀ : Heap} {L : Addr} {s : Shared} {w : World} {x dx fl : Addr} {t0 t1 t2 t3 : Tok} {B : Nat} {tb : Tok} {ck : Int} {tc : Tok} {m₀ : Str → Option Value} {V : List UInt8} {k : Nat} {ps : Tok → Tok → List (Str × Value)} {h : Heap} {tk : Nat} {m : Str → Option Value} {items : List Value} {n : Nat} {chunks : List (List UInt8)} {tl ta te : Tok} {ln : Int} (F : Fr h₀ L h m)
    (N : News h₀ L h (wObjs w x dx fl t0 t1 t2 t3 B tb ck tc ln tl items n)) (hm : ∀ p ∈ ps ta te, m p.1 = some p.2)
    (hr : ∀ z, z ≠ Str.ofString "at" → z ≠ Str.ofString "begun" → z ≠ Str.ofString "ended" → [Str.ofString "room", Str.ofString "upto", Str.ofString "kind"].contains z = false → m z = m₀ z)
    (hb : BsAre items chunks) (hf : chunks.flatten = V) (hl : items.length ≤ k) (hn : ln = (V.length : Int)) : AddI h₀ L s w x dx fl t0 t1 t2 t3 B tb ck tc m₀ V k ps { s with heap := h, toks := tk } := by
  subst hn
  exact ⟨h, tk, m, items, n, chunks, tl, ta, te, rfl, F, hm, hr, N, hb, hf, hl⟩
theorem add_flat {B : Nat} {ck : Int} {W o : List UInt8} {begun eb : Bool} {pos part : Nat} {up : Int} {chunks : List (List UInt8)} {kI : Nat} (hf : chunks.flatten = W ++ List.replicate (fillN B W.length) 0) (hup : up = ((pos + part : Nat) : Int)) (h : pos + part ≤ o.length) (hkind : kI = kindOf begun eb) :
    (chunks ++ [frag ck kI (List.take ((some up).elim o.length (clipAt o.length) - (some (pos : Int)).elim 0 (clipAt o.length)) (List.drop ((some (pos : Int)).elim 0 (clipAt o.length)) o))]).flatten = stepW B ck W (o.drop pos) begun 0 part eb := by
  rw [cut_eq hup h, hkind]
  unfold stepW
  simp [hf]

/-! Turn -/
section
set_option maxHeartbeats 8000000 in
theorem turn_spec (w : World) (x dx rl : Addr) (k : RdK) (d : List UInt8) (B : Nat) (ck : Int) (at' : Nat) (ta : Tok) (be : Nat) (te : Tok) (sh : Bool) (gl : Nat) (tg : Tok)
    (hd : d.length ≤ 100000) (hbe : be ≤ d.length) (hB1 : 8 ≤ B) (hB2 : B ≤ 14) (ne1 : @Ne Nat x dx) (ne2 : @Ne Nat x rl) (ne3 : @Ne Nat dx rl) :
    MSpec 760 5800 w 216 [.ref x] (rObjs w x dx rl k d B ck (at' : Int) ta (be : Int) te sh (gl : Int) tg)
      (fun v news' => v = .none ∧ ∃ ta' te', news' = rObjs w x dx rl k d B ck (be : Int) ta' ((min d.length (be + B) : Nat) : Int) te' (decide (min d.length (be + B) < be + B)) (gl : Int) tg) := by
  w_top off
  k_with_none
  k_with "execs cons" => (((try k_fold); (try (conv => arg 6; dsimp only)); refine gen_toks ?_; intro tkκ; refine wpAny_execs_cons ?_))
  k_with "storeName" => ((k_here; (try (conv => arg 6; dsimp only)); k_dflt (first
  | ((with_reducible show wpAny _ _ (storeName _ _ (Value.int _ _)) _ _ _); (refine' store_intL (by k_asm) (by k_asm) ?_ (by rfl) (by rfl); k_whole; intro h'κ t'κ tk'κ m'κ F'κ N'κ; (try k_sweep)))
  | ((with_reducible show wpAny _ _ (storeName _ _ (Value.bytes _ _)) _ _ _); (refine' store_bytesL (by k_asm) (by k_asm) ?_ (by rfl) (by rfl); k_whole; intro h'κ t'κ tk'κ m'κ F'κ N'κ; (try k_sweep)))
  | (refine' store_anyL (by k_asm) (by k_asm) ?_ (by rfl) (by rfl); k_whole; intro h'κ tk'κ m'κ F'κ N'κ; (try k_sweep)))))
  k_with "binaryOp RShift int int" => ((with_reducible refine rshift_int (by decide) ?_))
  k_with "call builtin:len" => ((k_here; (with_reducible show wpAny _ _ (call (Value.builtin "len") [Value.bytes (List.toArray _) _]) _ _ _); k_dflt (refine' len_by (by ((try simp only [List.length_append, List.length_cons, List.length_nil, frag_length, le32_length, List.length_replicate]); omega)) ?_)))
  unfold MSpec
  k_fill
  intro mean mg mb gd cn cs a ccd cl outer A₀ base h₀ L m s Q E B F X N T hk hret
  refine wpAny_call ?_
  k_dflt (refine' enterM ?k1 ?k2 ?k3 ?k4 ?k5 ?kA ?kF ?kK ?k6 ?k7 ?k8 ?k9 ?kB ?_ ?c2 ?c3 ?c4 ?c5; (case kA => exact rfl); (case kF => exact rfl); (case kK => assumption); (case k1 => k_asm); (case k2 => k_asm); (case k3 => k_asm); (case k4 => k_asm); (case k5 => k_asm); (case k6 => k_is); (case k7 => k_is); (case k8 => ktr_room); (case k9 => first | exact BindsTo.of_eq rfl | exact binds_K (by k_in) rfl (by k_is) rfl rfl rfl); (case c5 => decide); (case kB => exact locs rfl); (case c2 => exact rfl); (case c3 => exact rfl); (case c4 => exact rfl); k_whole)
  intro gX LX hX FGX FX NX BX XX TX GX
  clear B F X N T
  (try dsimp only)
  (try k_fold)
  dsimp only [rObjs, rD] at NX
  have ne1 := ne1; have ne2 := ne2; have ne3 := ne3
  have hd' : (d.length : Int) ≤ 100000 := by omega
  k_steps
  (try dsimp only)
  (try k_unfold)
  (try dsimp only)
  refine leaveK_ (by assumption) (by assumption) (fun kF kN => ?_)
  show Q _ _
  have e1 : (if (be : Int) + (B : Int) < (d.length : Int) then (be : Int) + (B : Int) else (d.length : Int)) = ((min d.length (be + B) : Nat) : Int) := by split <;> omega
  have e2 : decide (((min d.length (be + B) : Nat) : Int) - (be : Int) < (B : Int)) = decide (min d.length (be + B) < be + B) := by
    refine decide_eq_decide.mpr ?_
    omega
  rw [e1, e2] at kN
  exact hret _ _ _ _ ⟨rfl, _, _, rfl⟩ kF kN (fun b o e n => Fr.keep (by assumption) b o (GX b o e n))
end

/-! FgA -/
theorem turn_of (w : World) (x dx rl : Addr) (k : RdK) (d : List UInt8) (B : Nat) (ck : Int) (at' : Nat) (ta : Tok) (be : Nat) (te : Tok) (sh : Bool) (gl : Nat) (tg : Tok) (be' : Nat) (sh' : Bool)
    (hd : d.length ≤ 100000) (hbe : be ≤ d.length) (hB1 : 8 ≤ B) (hB2 : B ≤ 14) (ne1 : @Ne Nat x dx) (ne2 : @Ne Nat x rl) (ne3 : @Ne Nat dx rl) (he : be' = min d.length (be + B)) (hs : sh' = decide (min d.length (be + B) < be + B)) :
    MSpec 760 5800 w 216 [.ref x] (rObjs w x dx rl k d B ck (at' : Int) ta (be : Int) te sh (gl : Int) tg)
      (fun v news' => v = .none ∧ ∃ ta' te', news' = rObjs w x dx rl k d B ck (be : Int) ta' (be' : Int) te' sh' (gl : Int) tg) := by
  subst he hs
  exact turn_spec w x dx rl k d B ck at' ta be te sh gl tg hd hbe hB1 hB2 ne1 ne2 ne3
/-- behind the reader's search for the block -/
noncomputable def FragI (h₀ : Heap) (L : Addr) (s : Shared) (w : World) (x dx rl : Addr) (k : RdK) (d : List UInt8) (B : Nat) (ck : Int) (p be : Nat) (sh : Bool) (gl : Nat) (tg : Tok) (s' : Shared) : Prop :=
  ∃ h tk m ta te, s' = { s with heap := h, toks := tk } ∧ Fr h₀ L h m ∧ (∀ p ∈ [(Str.ofString "self", Value.ref x)], m p.1 = some p.2) ∧ News h₀ L h (rObjs w x dx rl k d B ck (p : Int) ta (be : Int) te sh (gl : Int) tg)
section
set_option maxHeartbeats 8000000 in
theorem frag_all (w : World) (x dx rl : Addr) (k : RdK) (d : List UInt8) (B : Nat) (ck : Int) (p0 : Nat) (ta : Tok) (be0 : Nat) (te : Tok) (sh0 : Bool) (gl : Nat) (tg : Tok) (kind : Nat) (y : List UInt8) (p be : Nat) (sh : Bool)
    (hd : d.length ≤ 100000) (hbe : be ≤ d.length) (hB1 : 8 ≤ B) (hB2 : B ≤ 14) (hck : ck = 1 ∨ ck = 2) (hk1 : 1 ≤ kind) (hk4 : kind ≤ 4) (hy : y.length ≤ 15)
    (H : (p = p0 ∧ be = be0 ∧ sh = sh0) ∨ (sh0 = false ∧ p = be0 ∧ be0 ≤ d.length ∧ p0 ≤ be0 ∧ be0 < p0 + 7 ∧ be = min d.length (be0 + B) ∧ sh = decide (min d.length (be0 + B) < be0 + B)))
    (hp : p + 7 + y.length ≤ be) (P : PieceAt d ck kind y p) (ne1 : @Ne Nat x dx) (ne2 : @Ne Nat x rl) (ne3 : @Ne Nat dx rl) :
    MSpec 740 5700 w 223 [.ref x] (rObjs w x dx rl k d B ck (p0 : Int) ta (be0 : Int) te sh0 (gl : Int) tg)
      (fun v news' => ∃ T o t1 t2 ta' te', v = .ref T ∧ o = ({ cls := .type "tuple", data := .seq #[.int (kind : Int) t1, .bytes y.toArray t2] } : Obj) ∧ news' = (T, o) :: rObjs w x dx rl k d B ck ((p + 7 + y.length : Nat) : Int) ta' (be : Int) te' sh (gl : Int) tg) := by
  w_top off
  k_with_none
  k_with "execs cons" => (((try k_fold); (try (conv => arg 6; dsimp only)); refine gen_toks ?_; intro tkκ; refine wpAny_execs_cons ?_))
  k_with "storeName" => ((k_here; (try (conv => arg 6; dsimp only)); k_dflt (first
  | ((with_reducible show wpAny _ _ (storeName _ _ (Value.int _ _)) _ _ _); (refine' store_intL (by k_asm) (by k_asm) ?_ (by rfl) (by rfl); k_whole; intro h'κ t'κ tk'κ m'κ F'κ N'κ; (try k_sweep)))
  | ((with_reducible show wpAny _ _ (storeName _ _ (Value.bytes _ _)) _ _ _); (refine' store_bytesL (by k_asm) (by k_asm) ?_ (by rfl) (by rfl); k_whole; intro h'κ t'κ tk'κ m'κ F'κ N'κ; (try k_sweep)))
  | (refine' store_anyL (by k_asm) (by k_asm) ?_ (by rfl) (by rfl); k_whole; intro h'κ tk'κ m'κ F'κ N'κ; (try k_sweep)))))
  k_with "binaryOp RShift int int" => ((with_reducible refine rshift_int (by decide) ?_))
  k_with "WhlIf" => ((first | (refine WhlIf.no (decide_eq_false (by omega)) ?_) | (refine WhlIf.yes (decide_eq_true (by omega)) ?_)))
  k_with "subscriptTail" => ((k_here; (with_reducible show wpAny _ _ (subscriptTail _ _ (Value.bytes (List.toArray _) _) (Value.int _ _)) _ _ _); k_dflt (first
  | (refine' item_at4 (by assumption) (by omega) (by omega) ?_ (by with_unfolding_all rfl) (by (intro _; with_unfolding_all rfl))))))
  k_with "subscriptTail" => ((k_here; (with_reducible show wpAny _ _ (subscriptTail _ (Expr.Slice _ _ none _) (Value.bytes (List.toArray _) _) (Value.ref _)) _ _ _); (with_reducible rename Fr _ _ _ _ => F'κ); (with_reducible rename News _ _ _ _ => N'κ); (refine' slice_to (s := ⟨_, _, _, _, _⟩) F'κ N'κ (by constructor) (by constructor) (by first | omega | (simp only [List.length_cons]; omega)) (by assumption) (by exact clip_eq (by omega) (by (try simp only [List.length_cons]); omega)) (by first | exact rfl | exact clip_eq (by omega) (by (try simp only [List.length_cons]); omega)) ?_ (by with_unfolding_all rfl) (by (intro _; with_unfolding_all rfl)); clear F'κ N'κ; intro h'κ t'κ k'κ F'κ N'κ)))
  k_with "call ref" => ((k_here; (with_reducible show wpAny _ _ (call (Value.ref 96) _) _ _ _); k_dflt (refine' MSpec.pureL (by k_asm) (by k_asm) (by k_asm) (by k_asm) (by k_asm) (by exact rfl) (by first | exact rfl | assumption) (by exact rfl) (by exact Nat.le_of_ble_eq_true rfl) (by exact Nat.le_of_ble_eq_true rfl) (read32_of _ _ _ _ _ _ (by omega) (by omega) (by assumption)) ?_; rintro v'κ h'κ tk'κ ⟨nκ, e1κ, tκ, e2κ⟩ F'κ N'κ; subst e2κ; (try k_sweep))))
  k_with "call ref" => ((k_here; (with_reducible show wpAny _ _ (call (Value.ref 125) _) _ _ _); k_dflt (refine' MSpec.pureL (by k_asm) (by k_asm) (by k_asm) (by k_asm) (by k_asm) (by exact rfl) (by first | exact rfl | assumption) (by exact rfl) (by exact Nat.le_of_ble_eq_true rfl) (by exact Nat.le_of_ble_eq_true rfl) (checksum_spec _ _ _ _ _ (by (simp only [List.length_cons]; omega)) (by assumption)) ?_; rintro v'κ h'κ tk'κ ⟨nκ, e1κ, tκ, e2κ⟩ F'κ N'κ; subst e2κ; (try k_sweep))))
  k_with "call ref" => ((k_here; (with_reducible show wpAny _ _ (call (Value.ref 216) _) _ _ _); k_dflt (refine' MSpec.useL (by k_asm) (by k_asm) (by k_asm) (by k_asm) (by k_asm) (by exact rfl) (by first | exact rfl | assumption) (by exact rfl) (by exact Nat.le_of_ble_eq_true rfl) (by exact Nat.le_of_ble_eq_true rfl) (turn_of _ _ _ _ _ _ _ _ _ _ _ _ _ _ _ _ _ (by omega) (by omega) (by omega) (by omega) (by assumption) (by assumption) (by assumption) (by assumption) (by assumption)) ?_; rintro v'κ n'κ h'κ tk'κ ⟨e1κ, ta'κ, te'κ, e2κ⟩ F'κ N'κ G'κ; subst e1κ; subst e2κ; (try k_sweep))))
  unfold MSpec
  k_fill
  intro mean mg mb gd cn cs a ccd cl outer A₀ base h₀ L m s Q E B F X N T hk hret
  refine wpAny_call ?_
  k_dflt (refine' enterM ?k1 ?k2 ?k3 ?k4 ?k5 ?kA ?kF ?kK ?k6 ?k7 ?k8 ?k9 ?kB ?_ ?c2 ?c3 ?c4 ?c5; (case kA => exact rfl); (case kF => exact rfl); (case kK => assumption); (case k1 => k_asm); (case k2 => k_asm); (case k3 => k_asm); (case k4 => k_asm); (case k5 => k_asm); (case k6 => k_is); (case k7 => k_is); (case k8 => ktr_room); (case k9 => first | exact BindsTo.of_eq rfl | exact binds_K (by k_in) rfl (by k_is) rfl rfl rfl); (case c5 => decide); (case kB => exact locs rfl); (case c2 => exact rfl); (case c3 => exact rfl); (case c4 => exact rfl); k_whole)
  intro gX LX hX FGX FX NX BX XX TX GX
  clear B F X N T
  (try dsimp only)
  (try k_fold)
  dsimp only [rObjs, rD] at NX
  have ne1 := ne1; have ne2 := ne2; have ne3 := ne3
  have z1 : (p : Int) + 7 + (y.length : Int) ≤ (be : Int) := by omega
  refine wpA_cutI 1 (FragI gX LX s w x dx rl k d B ck p be sh gl tg) ?_ ?_
  dsimp only [List.take]
  · clear P
    rcases H with ⟨rfl, rfl, rfl⟩ | ⟨rfl, rfl, h1, h2, h3, h4, h5⟩
    · k_steps
      all_goals (try (exfalso; omega))
      (try refine ⟨rfl, ?_⟩)
      rename Fr _ _ _ _ => F7
      rename News _ _ _ _ => N7
      exact ⟨_, _, _, _, _, rfl, F7, by kst_all, N7⟩
    · have z3 : be ≤ d.length := by omega
      k_steps
      all_goals (try (exfalso; omega))
      (try refine ⟨rfl, ?_⟩)
      rename Fr _ _ _ _ => F7
      rename News _ _ _ _ => N7
      exact ⟨_, _, _, _, _, rfl, F7, by kst_all, N7⟩
  dsimp only [List.drop]
  rintro s' ⟨h7, tk7, m7, ta7, te7, rfl, F7, hm7, N7⟩
  clear FX NX H
  replace F7 := fr_gen _ hm7 F7
  refine (fun (k : let mkκ : Str → Option Value := _; Fr _ _ _ mkκ → _) => k F7) ?_
  clear F7
  intro mkκ F7
  dsimp only [rObjs, rD] at N7
  have h4 := P.h4; have h5 := P.h5; have h6 := P.h6; have hb := P.hb; have hq := P.hq
  have hc1 : ((kind.toUInt8 :: y).drop 1).take ((kind.toUInt8 :: y).length - 1) = y := by simp
  have z2 : (1 : Int) ≤ (kind : Int) := by omega
  k_steps
  all_goals (try (exfalso; omega))
  (try dsimp only)
  (try k_unfold)
  (try dsimp only)
  refine leaveK_ (by assumption) (by assumption) (fun kF kN => ?_)
  show Q _ _
  have e : ((p : Int) + 7 + ((y.length : Int) + ((0 : Nat) : Int) * 256)) = ((p + 7 + y.length : Nat) : Int) := by omega
  rw [e] at kN
  exact hret _ _ _ _ ⟨_, _, _, _, _, _, rfl, rfl, rfl⟩ kF kN (fun b o e n => Fr.keep (by assumption) b o (GX b o e n))
end

/-! Fg3 -/
section
set_option maxHeartbeats 8000000 in
theorem frag_end0 (w : World) (x dx rl : Addr) (k : RdK) (d : List UInt8) (B : Nat) (ck : Int) (p : Nat) (ta : Tok) (te : Tok) (gl : Nat) (tg : Tok)
    (hd : d.length ≤ 100000) (hbe : p = d.length) (hB1 : 8 ≤ B) (hB2 : B ≤ 14) (ne1 : @Ne Nat x dx) (ne2 : @Ne Nat x rl) (ne3 : @Ne Nat dx rl) :
    MSpec 740 5700 w 223 [.ref x] (rObjs w x dx rl k d B ck (p : Int) ta (p : Int) te false (gl : Int) tg)
      (fun v news' => ∃ T o t1 t2 ta' te', v = .ref T ∧ o = ({ cls := .type "tuple", data := .seq #[.int (-1) t1, .bytes (List.toArray []) t2] } : Obj) ∧ news' = (T, o) :: rObjs w x dx rl k d B ck (p : Int) ta' (p : Int) te' true (gl : Int) tg) := by
  w_top off
  k_with_none
  k_with "execs cons" => (((try (conv => arg 6; dsimp only)); refine gen_toks ?_; intro tkκ; refine wpAny_execs_cons ?_))
  k_with "storeName" => ((k_here; (try (conv => arg 6; dsimp only)); k_dflt (first
  | ((with_reducible show wpAny _ _ (storeName _ _ (Value.int _ _)) _ _ _); (refine' store_int (by k_asm) (by k_asm) ?_ (by rfl) (by rfl); k_whole; intro h'κ t'κ tk'κ F'κ N'κ; (try k_sweep)))
  | ((with_reducible show wpAny _ _ (storeName _ _ (Value.bytes _ _)) _ _ _); (refine' store_bytes (by k_asm) (by k_asm) ?_ (by rfl) (by rfl); k_whole; intro h'κ t'κ tk'κ F'κ N'κ; (try k_sweep)))
  | (refine' store_any (by k_asm) (by k_asm) ?_ (by rfl) (by rfl); k_whole; intro h'κ tk'κ F'κ N'κ; (try k_sweep)))))
  k_with "binaryOp RShift int int" => ((with_reducible refine rshift_int (by decide) ?_))
  k_with "WhlIf" => ((first | (refine WhlIf.no (decide_eq_false (by omega)) ?_) | (refine WhlIf.yes (decide_eq_true (by omega)) ?_)))
  k_with "call ref" => ((k_here; (with_reducible show wpAny _ _ (call (Value.ref 216) _) _ _ _); k_dflt (refine' MSpec.useL (by k_asm) (by k_asm) (by k_asm) (by k_asm) (by k_asm) (by exact rfl) (by first | exact rfl | assumption) (by exact rfl) (by exact Nat.le_of_ble_eq_true rfl) (by exact Nat.le_of_ble_eq_true rfl) (turn_of _ _ _ _ _ _ _ _ _ _ _ _ _ _ _ _ _ (by omega) (by omega) (by omega) (by omega) (by assumption) (by assumption) (by assumption) (by assumption) (by assumption)) ?_; rintro v'κ n'κ h'κ tk'κ ⟨e1κ, ta'κ, te'κ, e2κ⟩ F'κ N'κ G'κ; subst e1κ; subst e2κ; (try k_sweep))))
  unfold MSpec
  k_fill
  intro mean mg mb gd cn cs a ccd cl outer A₀ base h₀ L m s Q E B F X N T hk hret
  refine wpAny_call ?_
  k_dflt (refine' enterM ?k1 ?k2 ?k3 ?k4 ?k5 ?kA ?kF ?kK ?k6 ?k7 ?k8 ?k9 ?kB ?_ ?c2 ?c3 ?c4 ?c5; (case kA => exact rfl); (case kF => exact rfl); (case kK => assumption); (case k1 => k_asm); (case k2 => k_asm); (case k3 => k_asm); (case k4 => k_asm); (case k5 => k_asm); (case k6 => k_is); (case k7 => k_is); (case k8 => ktr_room); (case k9 => first | exact BindsTo.of_eq rfl | exact binds_K (by k_in) rfl (by k_is) rfl rfl rfl); (case c5 => decide); (case kB => exact locs rfl); (case c2 => exact rfl); (case c3 => exact rfl); (case c4 => exact rfl); k_whole)
  intro gX LX hX FGX FX NX BX XX TX GX
  clear B F X N T
  (try dsimp only)
  (try k_fold)
  dsimp only [rObjs, rD] at NX
  have ne1 := ne1; have ne2 := ne2; have ne3 := ne3
  have he : p = min d.length (p + B) := by omega
  have hs : true = decide (min d.length (p + B) < p + B) := (decide_eq_true (by omega)).symm
  k_steps
  all_goals (try (exfalso; omega))
  (try dsimp only)
  (try k_unfold)
  (try dsimp only)
  refine leaveK_ (by assumption) (by assumption) (fun kF kN => ?_)
  show Q _ _
  exact hret _ _ _ _ ⟨_, _, _, _, _, _, rfl, rfl, rfl⟩ kF kN (fun b o e n => Fr.keep (by assumption) b o (GX b o e n))
set_option maxHeartbeats 8000000 in
theorem frag_end1 (w : World) (x dx rl : Addr) (k : RdK) (d : List UInt8) (B : Nat) (ck : Int) (p : Nat) (ta : Tok) (te : Tok) (gl : Nat) (tg : Tok)
    (hd : d.length ≤ 100000) (hbe : p = d.length) (hB1 : 8 ≤ B) (hB2 : B ≤ 14) (ne1 : @Ne Nat x dx) (ne2 : @Ne Nat x rl) (ne3 : @Ne Nat dx rl) :
    MSpec 740 5700 w 223 [.ref x] (rObjs w x dx rl k d B ck (p : Int) ta (p : Int) te true (gl : Int) tg)
      (fun v news' => ∃ T o t1 t2 ta' te', v = .ref T ∧ o = ({ cls := .type "tuple", data := .seq #[.int (-1) t1, .bytes (List.toArray []) t2] } : Obj) ∧ news' = (T, o) :: rObjs w x dx rl k d B ck (p : Int) ta' (p : Int) te' true (gl : Int) tg) := by
  w_top off
  k_with_none
  k_with "execs cons" => (((try (conv => arg 6; dsimp only)); refine gen_toks ?_; intro tkκ; refine wpAny_execs_cons ?_))
  k_with "storeName" => ((k_here; (try (conv => arg 6; dsimp only)); k_dflt (first
  | ((with_reducible show wpAny _ _ (storeName _ _ (Value.int _ _)) _ _ _); (refine' store_int (by k_asm) (by k_asm) ?_ (by rfl) (by rfl); k_whole; intro h'κ t'κ tk'κ F'κ N'κ; (try k_sweep)))
  | ((with_reducible show wpAny _ _ (storeName _ _ (Value.bytes _ _)) _ _ _); (refine' store_bytes (by k_asm) (by k_asm) ?_ (by rfl) (by rfl); k_whole; intro h'κ t'κ tk'κ F'κ N'κ; (try k_sweep)))
  | (refine' store_any (by k_asm) (by k_asm) ?_ (by rfl) (by rfl); k_whole; intro h'κ tk'κ F'κ N'κ; (try k_sweep)))))
  k_with "binaryOp RShift int int" => ((with_reducible refine rshift_int (by decide) ?_))
  k_with "WhlIf" => ((first | (refine WhlIf.no (decide_eq_false (by omega)) ?_) | (refine WhlIf.yes (decide_eq_true (by omega)) ?_)))
  k_with "call ref" => ((k_here; (with_reducible show wpAny _ _ (call (Value.ref 216) _) _ _ _); k_dflt (refine' MSpec.useL (by k_asm) (by k_asm) (by k_asm) (by k_asm) (by k_asm) (by exact rfl) (by first | exact rfl | assumption) (by exact rfl) (by exact Nat.le_of_ble_eq_true rfl) (by exact Nat.le_of_ble_eq_true rfl) (turn_of _ _ _ _ _ _ _ _ _ _ _ _ _ _ _ _ _ (by omega) (by omega) (by omega) (by omega) (by assumption) (by assumption) (by assumption) (by assumption) (by assumption)) ?_; rintro v'κ n'κ h'κ tk'κ ⟨e1κ, ta'κ, te'κ, e2κ⟩ F'κ N'κ G'κ; subst e1κ; subst e2κ; (try k_sweep))))
  unfold MSpec
  k_fill
  intro mean mg mb gd cn cs a ccd cl outer A₀ base h₀ L m s Q E B F X N T hk hret
  refine wpAny_call ?_
  k_dflt (refine' enterM ?k1 ?k2 ?k3 ?k4 ?k5 ?kA ?kF ?kK ?k6 ?k7 ?k8 ?k9 ?kB ?_ ?c2 ?c3 ?c4 ?c5; (case kA => exact rfl); (case kF => exact rfl); (case kK => assumption); (case k1 => k_asm); (case k2 => k_asm); (case k3 => k_asm); (case k4 => k_asm); (case k5 => k_asm); (case k6 => k_is); (case k7 => k_is); (case k8 => ktr_room); (case k9 => first | exact BindsTo.of_eq rfl | exact binds_K (by k_in) rfl (by k_is) rfl rfl rfl); (case c5 => decide); (case kB => exact locs rfl); (case c2 => exact rfl); (case c3 => exact rfl); (case c4 => exact rfl); k_whole)
  intro gX LX hX FGX FX NX BX XX TX GX
  clear B F X N T
  (try dsimp only)
  (try k_fold)
  dsimp only [rObjs, rD] at NX
  have ne1 := ne1; have ne2 := ne2; have ne3 := ne3
  k_steps
  all_goals (try (exfalso; omega))
  (try dsimp only)
  (try k_unfold)
  (try dsimp only)
  refine leaveK_ (by assumption) (by assumption) (fun kF kN => ?_)
  show Q _ _
  exact hret _ _ _ _ ⟨_, _, _, _, _, _, rfl, rfl, rfl⟩ kF kN (fun b o e n => Fr.keep (by assumption) b o (GX b o e n))
end
theorem frag_end (w : World) (x dx rl : Addr) (k : RdK) (d : List UInt8) (B : Nat) (ck : Int) (p : Nat) (ta : Tok) (te : Tok) (sh : Bool) (gl : Nat) (tg : Tok)
    (hd : d.length ≤ 100000) (hbe : p = d.length) (hB1 : 8 ≤ B) (hB2 : B ≤ 14) (ne1 : @Ne Nat x dx) (ne2 : @Ne Nat x rl) (ne3 : @Ne Nat dx rl) :
    MSpec 740 5700 w 223 [.ref x] (rObjs w x dx rl k d B ck (p : Int) ta (p : Int) te sh (gl : Int) tg)
      (fun v news' => ∃ T o t1 t2 ta' te', v = .ref T ∧ o = ({ cls := .type "tuple", data := .seq #[.int (-1) t1, .bytes (List.toArray []) t2] } : Obj) ∧ news' = (T, o) :: rObjs w x dx rl k d B ck (p : Int) ta' (p : Int) te' true (gl : Int) tg) := by
  cases sh
  · exact frag_end0 w x dx rl k d B ck p ta te gl tg hd hbe hB1 hB2 ne1 ne2 ne3
  · exact frag_end1 w x dx rl k d B ck p ta te gl tg hd hbe hB1 hB2 ne1 ne2 ne3

/-! BR -/
section
variable {prog : Program} {w : World} {A : Around} {E : Value → Shared → Prop} {s : Shared} {env : Env}
theorem wpB_Assign_Name {x : Str} {pos' pos : Pos} {value : Expr} {Q : Flow → Shared → Prop}
    (h : wpB (model prog w) A (eval value env) (fun v s₁ => wpAny (model prog w) A (storeName env x v) (fun _ => Q .next) E s₁) E s)
    (hs : swapsWith value (some (.Name x pos')) pos.line env = pure false) :
    wpB (model prog w) A (exec (.Assign [.Name x pos'] value pos) env) Q E s := fun Γ p hΓ hn => by
  simp only [exec_Assign_Name env x pos' value pos hs, Sem.wp_bind', Sem.wp_cmd_standAt, Sem.wp_bindName, Sem.wp_pure']
  exact Sem.wp_mono _ Γ _ (fun v _ s₁ h₁ => h₁ Γ _ hΓ) (fun _ _ _ h' => h') _ _ (h Γ _ hΓ hn)
theorem wpB_Expr_none {e : Expr} {pos : Pos} {Q : Flow → Shared → Prop} (h : wpB (model prog w) A (eval e env) (fun v s' => v = .none ∧ Q .next s') E s)
    (hi : interactive env = false) (hs : swapsWith e none pos.line env = pure false) :
    wpB (model prog w) A (exec (.Expr e pos) env) Q E s := by
  rw [exec_Expr env e pos hi hs]
  refine wpB_step (wpAny_standAt (wpB_bind (wpB_mono h (fun v s' h' => ?_) fun _ _ x => x)))
  obtain ⟨rfl, h'⟩ := h'
  rw [dropValue_plain (by intro a ha; cases ha)]
  exact wpB_pure h'
variable {h₀ : Heap} {L : Addr} {Q : Flow → Shared → Prop}
/-- a while in our logic: a state, a word, a measure -/
theorem kswB {σ : Type} {test : Expr} {body : List Stmt} {pos : Pos} {m₀ : Str → Option Value} (Led : σ → List (Addr × Obj)) (ps : σ → List (Str × Value)) (stored : List Str) (P : σ → Prop) (μ : σ → Nat) (c₀ : σ)
    (F : Fr h₀ L s.heap m₀) (N : News h₀ L s.heap (Led c₀)) (hk : ∀ p ∈ ps c₀, m₀ p.1 = some p.2) (hp : P c₀)
    (turn : ∀ (c : σ) (u : Str → Option Value) h tk, P c → Fr h₀ L h (kstB (fun z => if stored.contains z then u z else m₀ z) (ps c)) → News h₀ L h (Led c) →
      wpB (model prog w) A (isTrue test env (eval test env)) (fun b s₂ =>
        if b = true then wpB (model prog w) A (execs body env) (KswPost h₀ L s Led ps (fun _ => True) stored m₀ P μ Q c) noE s₂ else Q .next s₂) noE { s with heap := h, toks := tk }) :
    wpB (model prog w) A (exec (.While test body [] pos) env) Q E s := by
  refine wpB_While (codeB_whileLoop (fun n s' => ∃ (c : σ) (m : Str → Option Value) (h : Heap) (tk : Nat), s' = { s with heap := h, toks := tk } ∧ Fr h₀ L h m ∧ News h₀ L h (Led c) ∧ (∀ p ∈ ps c, m p.1 = some p.2) ∧ (∀ z, (∀ p ∈ ps c, z ≠ p.1) → stored.contains z = false → m z = m₀ z) ∧ P c ∧ μ c = n) ?_ (μ c₀) s
    ⟨c₀, m₀, s.heap, s.toks, rfl, F, N, hk, fun _ _ _ => rfl, hp, rfl⟩)
  rintro n s' ⟨c, m, h, tk, rfl, F₁, N₁, h1, h2, hp', rfl⟩
  refine wpB_mono (turn c m h tk hp' (ksw_fr h1 h2 F₁) N₁) (fun b s₂ p => ?_) fun _ _ x => x
  cases b with
  | false => simpa using p
  | true =>
    simp only [if_true] at p ⊢
    refine wpB_mono p (fun f s₃ q => ?_) fun _ _ x => x
    cases f with
    | ret v => exact q
    | brk => exact q
    | next =>
      obtain ⟨c', h', tk', m', news', rfl, F', N', hn, _, hk9, hr9, hp9, hm9⟩ := q
      exact ⟨μ c', hm9, c', m', h', tk', rfl, F', fun p hp => N' p (hn p hp), hk9, hr9, hp9, rfl⟩
    | cont =>
      obtain ⟨c', h', tk', m', news', rfl, F', N', hn, _, hk9, hr9, hp9, hm9⟩ := q
      exact ⟨μ c', hm9, c', m', h', tk', rfl, F', fun p hp => N' p (hn p hp), hk9, hr9, hp9, rfl⟩
end
/-- a contract in our logic -/
noncomputable def BSpec (d u : Nat) (w : World) (f : Addr) (vs : List Value) (ft : List (Addr × Obj)) (R : Value → List (Addr × Obj) → Prop) : Prop :=
  ∀ (mean : ExcName → Option Value) (mg mb : Str → Option Value) (cn : Str) (cs : Scope) (a : Addr) (ccd : Value) (cl : List (Str × Addr)) (outer : List Env) (A₀ : Around) (base h₀ : Heap) (L : Addr) (m : Str → Option Value) (s : Shared)
    (Q : Value → Shared → Prop),
    Below A₀ base outer h₀ → Fr h₀ L s.heap m → (MineTop.hd.heap_1 w.params).In h₀ → News h₀ L s.heap ft → Top MineTop.view (looseW MineTop.view [Str.ofString "crc32c"]) mean mg mb h₀ → cs.kind = .function →
    (∀ v news' h' tk', R v news' → Fr h₀ L h' m → News h₀ L h' news' → (∀ b o, s.heap.get? b = some o → b ∉ ft.map (·.1) → h'.get? b = some o) → Q v { s with heap := h', toks := tk' }) →
    wpB (model PySem.Challenge.rw_nz0363_01.row.prog w) (ktrTop d u (some []) cn cs L a ccd cl outer) (call (.ref f) vs) Q noE s
section
variable {d u : Nat} {w : World} {f : Addr} {vs : List Value} {ft : List (Addr × Obj)} {R : Value → List (Addr × Obj) → Prop}
  {mean : ExcName → Option Value} {mg mb : Str → Option Value} {cn : Str} {cs : Scope} {a : Addr} {ccd : Value} {cl : List (Str × Addr)} {outer : List Env} {A A₀ : Around} {base h₀ : Heap} {L : Addr} {m : Str → Option Value} {s : Shared}
  {Q : Value → Shared → Prop}
theorem BSpec.foot (S : BSpec d u w f vs ft R) {news : List (Addr × Obj)} (rest : List (Addr × Obj)) (B : Below A₀ base outer h₀) (F : Fr h₀ L s.heap m) (X : (MineTop.hd.heap_1 w.params).In h₀) (N : News h₀ L s.heap news) (T : Top MineTop.view (looseW MineTop.view [Str.ofString "crc32c"]) mean mg mb h₀) (hk : cs.kind = .function)
    (hA : A.frames = some (envX cn cs L a ccd cl :: outer)) (hh : A.handled = none) (hg : A.guards = some []) (hd : A.depth ≤ d) (hu : A.units ≤ u) (h1 : ∀ p ∈ ft, p ∈ news) (h2 : ∀ p ∈ rest, p ∈ news) (h3 : ∀ p ∈ rest, p.1 ∉ ft.map (·.1))
    (h : ∀ v n h' tk', R v n → Fr h₀ L h' m → News h₀ L h' (n ++ rest) → Q v { s with heap := h', toks := tk' }) :
    wpB (model PySem.Challenge.rw_nz0363_01.row.prog w) A (call (.ref f) vs) Q noE s :=
  wpB_A (S mean mg mb cn cs a ccd cl outer A₀ base h₀ L m s Q B F X (fun p hp => N p (h1 p hp)) T hk fun v n h' tk' r F' N' k => h v n h' tk' r F' fun p hp => (List.mem_append.mp hp).elim (N' p) fun q => ⟨k _ _ (N p (h2 p q)).1 (h3 p q), (N p (h2 p q)).2⟩)
    hh.symm hd hA.symm hg.symm hu
end

/-! ## where the reader stands -/
noncomputable def RInv (B len p be : Nat) (sh : Bool) : Prop :=
  p ≤ be ∧ be ≤ len ∧ ((p = 0 ∧ be = 0 ∧ sh = false) ∨ ∃ k, k * B < p ∧ be = min len (k * B + B) ∧ sh = decide (min len (k * B + B) < k * B + B))
theorem rinv_zero {B len : Nat} : RInv B len 0 0 false := ⟨Nat.le_refl _, Nat.zero_le _, .inl ⟨rfl, rfl, rfl⟩⟩
theorem mod_in {B k p : Nat} (h1 : k * B ≤ p) (h2 : p < k * B + B) : p % B = p - k * B := by
  obtain ⟨o, rfl⟩ : ∃ o, p = k * B + o := ⟨p - k * B, by omega⟩
  rw [Nat.mul_comm, Nat.mul_add_mod, Nat.mod_eq_of_lt (by omega)]
  omega
theorem rinv_cases {B len p be n : Nat} {sh : Bool} (hB : 8 ≤ B) (R : RInv B len p be sh) (hl : p + fillN B p + 7 + n ≤ len) (hn : n ≤ roomN B p - 7) :
    (fillN B p = 0 ∧ p + 7 + n ≤ be ∧ RInv B len (p + 7 + n) be sh) ∨
    (p + fillN B p = be ∧ sh = false ∧ be < p + 7 ∧ p ≤ be ∧ be + 7 + n ≤ min len (be + B) ∧ RInv B len (be + 7 + n) (min len (be + B)) (decide (min len (be + B) < be + B))) := by
  obtain ⟨h1, h2, h3⟩ := R
  rcases h3 with ⟨rfl, rfl, rfl⟩ | ⟨k, hk, rfl, rfl⟩
  · right
    have e1 : fillN B 0 = 0 := by
      unfold fillN
      rw [Nat.zero_mod, if_neg (by omega)]
    have e2 : roomN B 0 = B := by
      unfold roomN
      rw [Nat.zero_mod]
      split <;> omega
    rw [e1] at hl
    rw [e2] at hn
    refine ⟨by omega, rfl, by omega, by omega, by omega, by omega, by omega, .inr ⟨0, by omega, ?_, ?_⟩⟩
    · simp
    · simp
  · by_cases hp : p = k * B + B
    · right
      have e0 : p % B = 0 := by
        have : p = (k + 1) * B := by rw [Nat.add_mul]; omega
        rw [this, Nat.mul_mod_left]
      have e1 : fillN B p = 0 := by
        unfold fillN
        rw [e0, if_neg (by omega)]
      have e2 : roomN B p = B := by
        unfold roomN
        rw [e0]
        split <;> omega
      rw [e1] at hl ⊢
      rw [e2] at hn
      have hbe : min len (k * B + B) = p := by omega
      rw [hbe]
      refine ⟨by omega, decide_eq_false (by omega), by omega, by omega, by omega, by omega, by omega, .inr ⟨k + 1, ?_, ?_, ?_⟩⟩
      · rw [Nat.add_mul]; omega
      · rw [Nat.add_mul]; omega
      · rw [Nat.add_mul]
        refine decide_eq_decide.mpr ?_
        omega
    · have hpm : p % B = p - k * B := mod_in (by omega) (by omega)
      by_cases hf : B - p % B < 7
      · right
        have e1 : fillN B p = B - p % B := by unfold fillN; rw [if_pos hf]
        have e2 : roomN B p = B := by unfold roomN; rw [if_pos hf]
        rw [e1] at hl ⊢
        rw [e2] at hn
        have hbe : min len (k * B + B) = k * B + B := by omega
        rw [hbe]
        refine ⟨by omega, decide_eq_false (by omega), by omega, by omega, by omega, by omega, by omega, .inr ⟨k + 1, ?_, ?_, ?_⟩⟩
        · rw [Nat.add_mul]; omega
        · rw [Nat.add_mul]; omega
        · rw [Nat.add_mul]
          refine decide_eq_decide.mpr ?_
          omega
      · left
        have e1 : fillN B p = 0 := by unfold fillN; rw [if_neg hf]
        have e2 : roomN B p = B - p % B := by unfold roomN; rw [if_neg hf]
        rw [e1] at hl
        rw [e2] at hn
        refine ⟨e1, by omega, by omega, by omega, .inr ⟨k, by omega, rfl, rfl⟩⟩
theorem frag_spec (w : World) (x dx rl : Addr) (k : RdK) (d : List UInt8) (B : Nat) (ck : Int) (p : Nat) (ta : Tok) (be : Nat) (te : Tok) (sh : Bool) (gl : Nat) (tg : Tok) (kind : Nat) (kI : Int) (y : List UInt8)
    (hd : d.length ≤ 100000) (hB1 : 8 ≤ B) (hB2 : B ≤ 14) (hck : ck = 1 ∨ ck = 2) (hkI : kI = (kind : Int)) (hk1 : 1 ≤ kind) (hk4 : kind ≤ 4) (hy : y.length ≤ 15) (R : RInv B d.length p be sh) (hn : y.length ≤ roomN B p - 7) (P : PieceAt d ck kind y (p + fillN B p)) (ne1 : @Ne Nat x dx) (ne2 : @Ne Nat x rl) (ne3 : @Ne Nat dx rl) :
    MSpec 740 5700 w 223 [.ref x] (rObjs w x dx rl k d B ck (p : Int) ta (be : Int) te sh (gl : Int) tg)
      (fun v news' => ∃ T o t1 t2 ta' te' be' sh', v = .ref T ∧ o = ({ cls := .type "tuple", data := .seq #[.int kI t1, .bytes y.toArray t2] } : Obj) ∧ RInv B d.length (p + fillN B p + 7 + y.length) be' sh' ∧ news' = (T, o) :: rObjs w x dx rl k d B ck ((p + fillN B p + 7 + y.length : Nat) : Int) ta' (be' : Int) te' sh' (gl : Int) tg) := by
  subst hkI
  have hpl := P.hl
  rcases rinv_cases hB1 R hpl hn with ⟨e1, e2, e3⟩ | ⟨e1, rfl, e3, e4, e5, e6⟩
  · rw [e1, Nat.add_zero] at P ⊢
    intro mean mg mb gd cn cs a ccd cl outer A₀ base h₀ L m s Q E Bw F X N T hk hret
    refine frag_all w x dx rl k d B ck p ta be te sh gl tg kind y p be sh hd R.2.1 hB1 hB2 hck hk1 hk4 hy (.inl ⟨rfl, rfl, rfl⟩) e2 P ne1 ne2 ne3 mean mg mb gd cn cs a ccd cl outer A₀ base h₀ L m s Q E Bw F X N T hk ?_
    rintro v news' h' tk' ⟨T', o, t1, t2, ta', te', rfl, ho, hnw⟩
    exact hret _ _ _ _ ⟨T', o, t1, t2, ta', te', be, sh, rfl, ho, e3, hnw⟩
  · rw [e1] at P ⊢
    intro mean mg mb gd cn cs a ccd cl outer A₀ base h₀ L m s Q E Bw F X N T hk hret
    refine frag_all w x dx rl k d B ck p ta be te false gl tg kind y be _ _ hd (by omega) hB1 hB2 hck hk1 hk4 hy (.inr ⟨rfl, rfl, R.2.1, e4, e3, rfl, rfl⟩) e5 P ne1 ne2 ne3 mean mg mb gd cn cs a ccd cl outer A₀ base h₀ L m s Q E Bw F X N T hk ?_
    rintro v news' h' tk' ⟨T', o, t1, t2, ta', te', rfl, ho, hnw⟩
    exact hret _ _ _ _ ⟨T', o, t1, t2, ta', te', _, _, rfl, ho, e6, hnw⟩
section
variable {h₀ : Heap} {L : Addr} {h : Heap}
theorem news_new {s : Shared} {m : Str → Option Value} {news : List (Addr × Obj)} {h' : Heap} {o : Obj} (F : Fr h₀ L s.heap m) (N : News h₀ L s.heap news) (ho : h'.get? s.heap.objs.size = some o) (hk : ∀ b o, s.heap.get? b = some o → h'.get? b = some o) :
    News h₀ L h' ((s.heap.objs.size, o) :: news) := fun p hp => by
  rcases List.mem_cons.mp hp with rfl | hp
  · exact ⟨ho, fun e => absurd F.ns.lt (e ▸ Nat.lt_irrefl _), next_is_new F⟩
  · exact ⟨hk _ _ (N p hp).1, (N p hp).2⟩
theorem ba_cls {b : List UInt8} {o : Obj} (h : o.cls ≠ .type "bytearray") : o ≠ baObj b := fun e => h (by rw [e]; rfl)
theorem robjs_ba {w : World} {x dx rl : Addr} {k : RdK} {d : List UInt8} {B ck at' : Int} {ta : Tok} {be : Int} {te : Tok} {sh : Bool} {gl : Int} {tg : Tok} {b : List UInt8} : ∀ q ∈ rObjs w x dx rl k d B ck at' ta be te sh gl tg, q.2 ≠ baObj b := by
  intro q hq
  simp only [List.mem_cons, List.not_mem_nil, or_false] at hq
  rcases hq with rfl | rfl | rfl
  · exact ba_cls (fun e => by cases e)
  · exact ba_cls (fun e => absurd (Value.type.inj e) (by decide))
  · exact ba_cls (fun e => absurd (Value.type.inj e) (by decide))
end
section
variable {d u : Nat} {w : World} {f : Addr} {vs : List Value} {ft : List (Addr × Obj)} {R : Value → List (Addr × Obj) → Prop}
  {mean : ExcName → Option Value} {mg mb : Str → Option Value} {cn : Str} {cs : Scope} {a : Addr} {ccd : Value} {cl : List (Str × Addr)} {outer : List Env} {A A₀ : Around} {base h₀ : Heap} {L : Addr} {m : Str → Option Value} {s : Shared}
  {Q E : Value → Shared → Prop}
/-- a call beside one object more -/
theorem MSpec.under (S : MSpec d u w f vs ft R) {b : Addr} {o : Obj} (B : Below A₀ base outer h₀) (F : Fr h₀ L s.heap m) (X : (MineTop.hd.heap_1 w.params).In h₀) (N : News h₀ L s.heap ((b, o) :: ft)) (T : Top MineTop.view (looseW MineTop.view [Str.ofString "crc32c"]) mean mg mb h₀) (hk : cs.kind = .function)
    (hA : A.frames = some (envX cn cs L a ccd cl :: outer)) (hh : A.handled = none) (hd : A.depth ≤ d) (hu : A.units ≤ u) (ho : ∀ q ∈ ft, q.2 ≠ o)
    (h : ∀ v n h' tk', R v n → Fr h₀ L h' m → News h₀ L h' ((b, o) :: n) → Q v { s with heap := h', toks := tk' }) :
    wpAny (model PySem.Challenge.rw_nz0363_01.row.prog w) A (call (.ref f) vs) Q E s := by
  refine S.foot [(b, o)] B F X N T hk hA hh hd hu (fun p hp => List.mem_cons_of_mem _ hp) (fun p hp => ?_) (fun p hp hq => ?_) fun v n h' tk' r F' N' => h v n h' tk' r F' fun p hp => N' p ?_
  · rw [List.mem_singleton.mp hp]; exact List.mem_cons_self
  · rw [List.mem_singleton.mp hp] at hq
    obtain ⟨q, hq1, hq2⟩ := List.mem_map.mp hq
    exact news_ne N (List.mem_cons_of_mem _ hq1) List.mem_cons_self (ho q hq1) hq2
  · rcases List.mem_cons.mp hp with rfl | hp
    · exact List.mem_append.mpr (.inr (List.mem_singleton.mpr rfl))
    · exact List.mem_append.mpr (.inl hp)
theorem MSpec.underL (S : MSpec d u w f vs ft R) {b : Addr} {o : Obj} (B : Below A₀ base outer h₀) (F : Fr h₀ L s.heap m) (X : (MineTop.hd.heap_1 w.params).In h₀) (N : News h₀ L s.heap ((b, o) :: ft)) (T : Top MineTop.view (looseW MineTop.view [Str.ofString "crc32c"]) mean mg mb h₀)
    (hA : A.frames = some (envX cn cs L a ccd cl :: outer)) (hk : cs.kind = .function) (hh : A.handled = none) (hd : A.depth ≤ d) (hu : A.units ≤ u) (ho : ∀ q ∈ ft, q.2 ≠ o)
    (h : ∀ v n h' tk', R v n → Fr h₀ L h' m → News h₀ L h' ((b, o) :: n) → Q v { s with heap := h', toks := tk' }) :
    wpAny (model PySem.Challenge.rw_nz0363_01.row.prog w) A (call (.ref f) vs) Q E s := S.under B F X N T hk hA hh hd hu ho h
end
/-! ## a cutting, piece by piece -/
theorem lay_inv {B : Nat} {c : Int} {W rest W' : List UInt8} {b p : Bool} (h : Lay B c W rest b p W') :
    (∃ v, rest.length ≤ roomN B W.length - 7 ∧ W' = stepW B c W rest b v rest.length true) ∨
    (∃ v part q, part ≤ rest.length ∧ part ≤ roomN B W.length - 7 ∧ Lay B c (stepW B c W rest b v part false) (rest.drop part) true q W') := by
  cases h with
  | @last _ _ _ v h => exact .inl ⟨v, h, rfl⟩
  | @more _ _ _ v part q _ h t => exact .inr ⟨v, part, q, by omega, by omega, t⟩
theorem kindOf_lt (b e : Bool) : kindOf b e < 256 := by cases b <;> cases e <;> decide
theorem step_piece {B : Nat} {c : Int} {W rest d : List UInt8} {b e : Bool} {v : UInt8} {part : Nat} (h : stepW B c W rest b v part e <+: d) (hp : part ≤ 15) :
    PieceAt d c (kindOf b e) (rest.take part) (W.length + fillN B W.length) := by
  obtain ⟨post, rfl⟩ := h
  have e1 : stepW B c W rest b v part e ++ post = (W ++ List.replicate (fillN B W.length) v) ++ (frag c (kindOf b e) (rest.take part) ++ post) := by
    unfold stepW
    simp
  have e2 : W.length + fillN B W.length = (W ++ List.replicate (fillN B W.length) v).length := by simp
  rw [e1, e2]
  exact pieceAt (kindOf_lt b e) (by rw [List.length_take]; omega)
theorem frag_at (w : World) (x dx rl : Addr) (k : RdK) (d : List UInt8) (B : Nat) (ck : Int) (p : Nat) (ta : Tok) (be : Nat) (te : Tok) (sh : Bool) (gl : Nat) (tg : Tok) (kind : Nat) (kI : Int) (y : List UInt8) (q : Nat)
    (hd : d.length ≤ 100000) (hB1 : 8 ≤ B) (hB2 : B ≤ 14) (hck : ck = 1 ∨ ck = 2) (hkI : kI = (kind : Int)) (hk1 : 1 ≤ kind) (hk4 : kind ≤ 4) (hy : y.length ≤ 15) (R : RInv B d.length p be sh) (hn : y.length ≤ roomN B p - 7) (P : PieceAt d ck kind y (p + fillN B p)) (hq : p + fillN B p + 7 + y.length = q) (ne1 : @Ne Nat x dx) (ne2 : @Ne Nat x rl) (ne3 : @Ne Nat dx rl) :
    MSpec 740 5700 w 223 [.ref x] (rObjs w x dx rl k d B ck (p : Int) ta (be : Int) te sh (gl : Int) tg)
      (fun v news' => ∃ T o t1 t2 ta' te' be' sh', v = .ref T ∧ o = ({ cls := .type "tuple", data := .seq #[.int kI t1, .bytes y.toArray t2] } : Obj) ∧ RInv B d.length q be' sh' ∧ news' = (T, o) :: rObjs w x dx rl k d B ck (q : Int) ta' (be' : Int) te' sh' (gl : Int) tg) := by
  subst hq
  exact frag_spec w x dx rl k d B ck p ta be te sh gl tg kind kI y hd hB1 hB2 hck hkI hk1 hk4 hy R hn P ne1 ne2 ne3
theorem ne_cls {o o' : Obj} (h : o.cls ≠ o'.cls) : o ≠ o' := fun e => h (by rw [e])
theorem ty_ne {a b : String} (h : a ≠ b) : Value.type a ≠ Value.type b := fun e => h (Value.type.inj e)
theorem five_ne {h₀ : Heap} {L : Addr} {h : Heap} {w : World} {S T x dx rl : Addr} {o : Obj} {k : RdK} {d : List UInt8} {B ck at' : Int} {ta : Tok} {be : Int} {te : Tok} {sh : Bool} {gl : Int} {tg : Tok} {b : List UInt8} (N : News h₀ L h ((S, baObj b) :: (T, o) :: rObjs w x dx rl k d B ck at' ta be te sh gl tg)) (ho : o.cls = .type "tuple") :
    @Ne Nat S x ∧ @Ne Nat S dx ∧ @Ne Nat S rl ∧ @Ne Nat T x ∧ @Ne Nat T dx ∧ @Ne Nat T rl ∧ @Ne Nat S T := by
  have b0 : (S, baObj b) ∈ ((S, baObj b) :: (T, o) :: rObjs w x dx rl k d B ck at' ta be te sh gl tg) := .head _
  have b1 : (T, o) ∈ ((S, baObj b) :: (T, o) :: rObjs w x dx rl k d B ck at' ta be te sh gl tg) := .tail _ (.head _)
  have b2 : (x, instObj 233 dx) ∈ ((S, baObj b) :: (T, o) :: rObjs w x dx rl k d B ck at' ta be te sh gl tg) := .tail _ (.tail _ (.head _))
  have b3 : (dx, dictOf (rD w k d B ck rl at' ta be te sh gl tg) 11) ∈ ((S, baObj b) :: (T, o) :: rObjs w x dx rl k d B ck at' ta be te sh gl tg) := .tail _ (.tail _ (.tail _ (.head _)))
  have b4 : (rl, listOf #[] k.n) ∈ ((S, baObj b) :: (T, o) :: rObjs w x dx rl k d B ck at' ta be te sh gl tg) := .tail _ (.tail _ (.tail _ (.tail _ (.head _))))
  refine ⟨news_ne N b0 b2 (ne_cls (fun e => by cases e)), news_ne N b0 b3 (ne_cls (ty_ne (by decide))), news_ne N b0 b4 (ne_cls (ty_ne (by decide))),
    news_ne N b1 b2 (ne_cls (by rw [ho]; exact fun e => by cases e)), news_ne N b1 b3 (ne_cls (by rw [ho]; exact ty_ne (by decide))), news_ne N b1 b4 (ne_cls (by rw [ho]; exact ty_ne (by decide))), news_ne N b0 b1 (ne_cls (by rw [ho]; exact ty_ne (by decide)))⟩
theorem fr_upd {h₀ : Heap} {L S : Addr} {h h' : Heap} {m : Str → Option Value} {o : Obj} {rest : List (Addr × Obj)} (F : Fr h₀ L h m) (N : News h₀ L h ((S, o) :: rest)) (hs : Heap.SameBut S h h') : Fr h₀ L h' m :=
  ⟨F.ns.at' fun o' e => hs.extBut L o' (fun q => (N _ (List.Mem.head _)).2.1 q.symm) e, fun b o' e => hs.extBut b o' (fun q => by
    have := (N _ (List.Mem.head _)).2.2
    dsimp only at this
    rw [← q, e] at this
    cases this) (F.keep b o' e), F.above⟩
theorem news_upd {h₀ : Heap} {L S : Addr} {h h' : Heap} {o o' : Obj} {rest : List (Addr × Obj)} (N : News h₀ L h ((S, o) :: rest)) (hs : Heap.SameBut S h h') (ho : h'.get? S = some o') (hne : ∀ p ∈ rest, p.2 ≠ o) : News h₀ L h' ((S, o') :: rest) := fun p hp => by
  rcases List.mem_cons.mp hp with rfl | hp
  · exact ⟨ho, (N _ (List.Mem.head _)).2⟩
  · refine ⟨hs.extBut _ _ (fun q => ?_) (N p (List.mem_cons_of_mem _ hp)).1, (N p (List.mem_cons_of_mem _ hp)).2⟩
    exact news_ne N (List.mem_cons_of_mem _ hp) (List.Mem.head _) (hne p hp) q
theorem off_ba {l : List (Addr × Obj)} {b : List UInt8} (h : ∀ p ∈ l, p.2.cls ≠ .type "bytearray") : ∀ p ∈ l, p.2 ≠ baObj b := fun p hp => ba_cls (h p hp)

/-! Cut -/
/-- the records one by one, and where each ends -/
inductive Cut (B : Nat) (c : Int) : List UInt8 → List (List UInt8) → List Int → List UInt8 → Prop
  | nil {W : List UInt8} : Cut B c W [] [] W
  | cons {W W1 W' r : List UInt8} {rs : List (List UInt8)} {es : List Int} {p : Bool} (h : Lay B c W r false p W1) (t : Cut B c W1 rs es W') : Cut B c W (r :: rs) ((W1.length : Int) :: es) W'
theorem Cut.pre {B : Nat} {c : Int} {W W' : List UInt8} {rs : List (List UInt8)} {es : List Int} (h : Cut B c W rs es W') : W <+: W' := by
  induction h with
  | nil => exact List.prefix_refl _
  | cons h _ ih => exact h.pre.trans ih
theorem Cut.snoc {B : Nat} {c : Int} {W W1 W2 r : List UInt8} {rs : List (List UInt8)} {es : List Int} {p : Bool} (h : Cut B c W rs es W1) (l : Lay B c W1 r false p W2) : Cut B c W (rs ++ [r]) (es ++ [(W2.length : Int)]) W2 := by
  induction h with
  | nil => exact .cons l .nil
  | cons h _ ih => exact .cons h (ih l)
theorem Cut.len {B : Nat} {c : Int} {W W' : List UInt8} {rs : List (List UInt8)} {es : List Int} (h : Cut B c W rs es W') : rs.length = es.length := by
  induction h with
  | nil => rfl
  | cons _ _ ih => simp [ih]
theorem cut_at {B : Nat} {c : Int} {W W' : List UInt8} {rs : List (List UInt8)} {es : List Int} {i : Nat} (h : Cut B c W (rs.drop i) (es.drop i) W') (hi : i < rs.length) :
    ∃ r W1 p, rs[i]? = some r ∧ es[i]? = some (W1.length : Int) ∧ Lay B c W r false p W1 ∧ Cut B c W1 (rs.drop (i + 1)) (es.drop (i + 1)) W' := by
  have hl := h.len
  rw [List.length_drop, List.length_drop] at hl
  have hi2 : i < es.length := by omega
  rw [List.drop_eq_getElem_cons hi, List.drop_eq_getElem_cons hi2] at h
  generalize hr : rs[i] = r at h
  generalize he : es[i] = e at h
  cases h with
  | @cons _ W1 _ _ _ _ p hL t => exact ⟨r, W1, p, by rw [List.getElem?_eq_getElem hi, hr], by rw [List.getElem?_eq_getElem hi2, he], hL, t⟩
theorem cut_done {B : Nat} {c : Int} {W W' : List UInt8} {rs : List (List UInt8)} {es : List Int} {n : Nat} (h : Cut B c W (rs.drop n) (es.drop n) W') (hn : rs.length ≤ n) : W = W' := by
  rw [List.drop_of_length_le hn] at h
  generalize he : es.drop n = e at h
  cases h
  rfl
theorem BsAre.get {vs : List Value} {bs : List (List UInt8)} (h : BsAre vs bs) : ∀ {i : Nat} {b : List UInt8}, bs[i]? = some b → ∃ t, vs[i]? = some (.bytes b.toArray t) := by
  induction h with
  | nil => intro i b e; simp at e
  | @cons b0 t vs bs _ ih =>
    intro i b e
    cases i with
    | zero => simp at e; subst e; exact ⟨t, rfl⟩
    | succ i => exact ih (by simpa using e)
section
variable {prog : Program} {w : World} {A : Around} {E : Value → Shared → Prop} {s : Shared} {h₀ : Heap} {L : Addr} {news : List (Addr × Obj)} {Q : Value → Shared → Prop}
theorem list_item {value slice : PySem.Expr} {l : Addr} {vs : List Value} {c : Nat} {k : Int} {i : Nat} {u : Tok} {v : Value} (N : News h₀ L s.heap news) (hm : (l, listOf vs.toArray c) ∈ news) (hx : vs[i]? = some v) (hk : k = (i : Int)) (hi : i ≤ 1000000) (h : Q v s)
    (hs : subscripted slice false (.ref l) (.int k u) = operate [.ref l, .int k u] (getItem (.ref l) (.int k u))) :
    wpAny (model prog w) A (subscriptTail value slice (.ref l) (.int k u)) Q E s := by
  subst hk
  have hl : s.heap.IsList l vs.toArray := ⟨_, (N _ hm).1, rfl, c, rfl⟩
  exact tail_any hl.typeIs slot_list_getitem.lookup (wpAny_getItem_list hl (by omega) (by omega) (by simpa using hx) h) hs
end
theorem off_of {h₀ : Heap} {L : Addr} {h : Heap} {l rest ft : List (Addr × Obj)} (N : News h₀ L h l) (h1 : ∀ p ∈ rest, p ∈ l) (h2 : ∀ p ∈ ft, p ∈ l) (hne : ∀ p ∈ rest, ∀ q ∈ ft, p.2 ≠ q.2) : ∀ p ∈ rest, p.1 ∉ ft.map (·.1) := fun p hp hq => by
  obtain ⟨q, hq1, hq2⟩ := List.mem_map.mp hq
  exact news_ne N (h1 p hp) (h2 q hq1) (hne p hp q hq1) hq2.symm
theorem list_ne {vs : List Value} {n c : Nat} (h : vs ≠ []) : listOf vs.toArray n ≠ listOf #[] c := fun e => by
  have h1 : Data.seq vs.toArray n = Data.seq #[] c := congrArg Obj.data e
  injection h1 with h2 _
  exact h (by simpa using h2)
theorem bs_ne {vs : List Value} {bs : List (List UInt8)} (h : BsAre vs bs) (hb : bs ≠ []) : vs ≠ [] := fun e => by
  have := h.length
  rw [e] at this
  exact hb (List.eq_nil_of_length_eq_zero this.symm)
theorem robjs_ne {w : World} {x dx rl : Addr} {k : RdK} {d : List UInt8} {B ck at' : Int} {ta : Tok} {be : Int} {te : Tok} {sh : Bool} {gl : Int} {tg : Tok} {I rc en : Addr} {i j : Int} {vs es : List Value} {n1 n2 : Nat} (h1 : vs ≠ []) (h2 : es ≠ []) :
    ∀ p ∈ [(I, itObj i j), (rc, listOf vs.toArray n1), (en, listOf es.toArray n2)], ∀ q ∈ rObjs w x dx rl k d B ck at' ta be te sh gl tg, p.2 ≠ q.2 := by
  intro p hp q hq
  simp only [List.mem_cons, List.not_mem_nil, or_false] at hp hq
  rcases hp with rfl | rfl | rfl <;> rcases hq with rfl | rfl | rfl
  · exact ne_cls (fun e => by cases e)
  · exact ne_cls (ty_ne (by decide))
  · exact ne_cls (ty_ne (by decide))
  · exact list_inst
  · exact list_dict
  · exact list_ne h1
  · exact list_inst
  · exact list_dict
  · exact list_ne h2
theorem fr_kst {h₀ : Heap} {L : Addr} {h : Heap} {m : Str → Option Value} {x : Str} {v : Value} (ps : List (Str × Value)) (hk : ∀ p ∈ ps, m p.1 = some p.2) (F : Fr h₀ L h (fun y => if y = x then some v else m y)) : Fr h₀ L h (fun y => if y = x then some v else kstB m ps y) := by
  have e : kstB m ps = m := by
    funext y
    exact kstB_eq hk fun _ => rfl
  rw [e]
  exact F
theorem fr_kst0 {h₀ : Heap} {L : Addr} {h : Heap} {m : Str → Option Value} (ps : List (Str × Value)) (hk : ∀ p ∈ ps, m p.1 = some p.2) (F : Fr h₀ L h m) : Fr h₀ L h (kstB m ps) := by
  have e : kstB m ps = m := by
    funext y
    exact kstB_eq hk fun _ => rfl
  rw [e]
  exact F
noncomputable def ReadsJ (w : World) (B : Nat) (ck : Int) (d : List UInt8) (rc en : Addr) (vs es : List Value) (n1 n2 : Nat) (recs : List (List UInt8)) (ends : List Int) (i : Nat) (m : Str → Option Value) (nx : List (Addr × Obj)) : Prop :=
  ∃ (x dx rl : Addr) (k : RdK) (ta : Tok) (be : Nat) (te : Tok) (sh : Bool) (gl : Nat) (tg : Tok) (W : List UInt8),
    (∀ p ∈ [(Str.ofString "reader", Value.ref x), (Str.ofString "records", Value.ref rc), (Str.ofString "ends", Value.ref en)], m p.1 = some p.2) ∧ @Ne Nat x dx ∧ @Ne Nat x rl ∧ @Ne Nat dx rl ∧
    nx = rObjs w x dx rl k d B ck (W.length : Int) ta (be : Int) te sh (gl : Int) tg ++ [(rc, listOf vs.toArray n1), (en, listOf es.toArray n2)] ∧ RInv B d.length W.length be sh ∧ Cut B ck W (recs.drop i) (ends.drop i) d
theorem readsJ_it {w : World} {B : Nat} {ck : Int} {d : List UInt8} {rc en : Addr} {vs es : List Value} {n1 n2 : Nat} {recs : List (List UInt8)} {ends : List Int} :
    ∀ i m nx, ReadsJ w B ck d rc en vs es n1 n2 recs ends i m nx → ∀ p ∈ nx, p.2.cls ≠ .type "range_iterator" := by
  rintro i m nx ⟨x, dx, rl, k, ta, be, te, sh, gl, tg, W, _, _, _, _, rfl, _, _⟩ p hp
  simp only [List.mem_append, List.mem_cons, List.not_mem_nil, or_false] at hp
  rcases hp with (rfl | rfl | rfl) | rfl | rfl
  · exact fun e => by cases e
  · exact ty_ne (by decide)
  · exact ty_ne (by decide)
  · exact ty_ne (by decide)
  · exact ty_ne (by decide)

/-! Rd -/
/-- the state between two pieces -/
structure RdSt where
  S : Addr
  parts : List UInt8
  W : List UInt8
  rest : List UInt8
  begun : Bool
  ta : Tok
  be : Nat
  te : Tok
  sh : Bool
structure RdP (B : Nat) (ck : Int) (d rec Wf : List UInt8) (c : RdSt) : Prop where
  lay : ∃ p, Lay B ck c.W c.rest c.begun p Wf
  pre : Wf <+: d
  first : c.begun = false → c.parts = []
  whole : c.parts ++ c.rest = rec
  inv : RInv B d.length c.W.length c.be c.sh
section
set_option maxHeartbeats 8000000 in
theorem read_rec (w : World) (x dx rl : Addr) (k : RdK) (d : List UInt8) (B : Nat) (ck : Int) (W rec Wf : List UInt8) (pl : Bool) (ta : Tok) (be : Nat) (te : Tok) (sh : Bool) (gl : Nat) (tg : Tok)
    (hd : d.length ≤ 100000) (hB1 : 8 ≤ B) (hB2 : B ≤ 14) (hck : ck = 1 ∨ ck = 2) (hrec : rec.length ≤ 15) (hlay : Lay B ck W rec false pl Wf) (hpre : Wf <+: d) (R : RInv B d.length W.length be sh) (ne1 : @Ne Nat x dx) (ne2 : @Ne Nat x rl) (ne3 : @Ne Nat dx rl) :
    BSpec 720 5600 w 230 [.ref x] (rObjs w x dx rl k d B ck (W.length : Int) ta (be : Int) te sh (gl : Int) tg)
      (fun v news' => ∃ t ta' te' tg' be' sh', v = .bytes rec.toArray t ∧ RInv B d.length Wf.length be' sh' ∧ news' = rObjs w x dx rl k d B ck (Wf.length : Int) ta' (be' : Int) te' sh' (Wf.length : Int) tg') := by
  w_top off
  k_with_none
  k_with "execs cons" => (((try k_fold); (try (conv => arg 6; dsimp only)); refine gen_toks ?_; intro tkκ; refine wpAny_execs_cons ?_))
  k_with "storeName" => ((k_here; (try (conv => arg 6; dsimp only)); k_dflt (first
  | ((with_reducible show wpAny _ _ (storeName _ _ (Value.int _ _)) _ _ _); (refine' store_intL (by k_asm) (by k_asm) ?_ (by rfl) (by rfl); k_whole; intro h'κ t'κ tk'κ m'κ F'κ N'κ; (try k_sweep)))
  | ((with_reducible show wpAny _ _ (storeName _ _ (Value.bytes _ _)) _ _ _); (refine' store_bytesL (by k_asm) (by k_asm) ?_ (by rfl) (by rfl); k_whole; intro h'κ t'κ tk'κ m'κ F'κ N'κ; (try k_sweep)))
  | (refine' store_anyL (by k_asm) (by k_asm) ?_ (by rfl) (by rfl); k_whole; intro h'κ tk'κ m'κ F'κ N'κ; (try k_sweep)))))
  k_with "binaryOp RShift int int" => ((with_reducible refine rshift_int (by decide) ?_))
  k_with "call ref" => ((k_here; (with_reducible show wpAny _ _ (call (Value.ref 223) _) _ _ _); k_dflt (refine' MSpec.underL (by assumption) (by k_asm) (by k_asm) (by k_asm) (by k_asm) (by k_asm) (by exact rfl) (by first | exact rfl | assumption) (by exact rfl) (by exact Nat.le_of_ble_eq_true rfl) (by exact Nat.le_of_ble_eq_true rfl) (by exact robjs_ba) ?_; rintro v'κ n'κ h'κ tk'κ ⟨T'κ, o'κ, t1'κ, t2'κ, ta'κ, te'κ, be'κ, sh'κ, e1κ, e2κ, hR'κ, e3κ⟩ F'κ N'κ; subst e1κ; subst e2κ; subst e3κ; (obtain ⟨nn1κ, nn2κ, nn3κ, nn4κ, nn5κ, nn6κ, nn7κ⟩ := five_ne N'κ rfl); (dsimp only [rObjs, rD] at N'κ); (try k_sweep))))
  k_with "call type:bytes" => ((k_here; (with_reducible show wpAny _ _ (call (Value.type "bytes") [Value.ref _]) _ _ _); k_dflt (refine' bytes_ba (by ((with_reducible rename News _ _ _ _ => N'κ); exact (N'κ _ (List.Mem.head _)).1)) (by (rw [sizeLine_eq]; simp only [List.length_append]; omega)) ?_; intro t'κ k'κ)))
  unfold BSpec
  k_fill
  intro mean mg mb cn cs a ccd cl outer A₀ base h₀ L m s Q B F X N T hk hret
  refine wpB_call ?_
  k_dflt (refine' enterB ?k1 ?k2 ?k3 ?k4 ?k5 ?kA ?kF ?kK ?k6 ?k7 ?k8 ?k9 ?kB ?_ ?c2 ?c3 ?c4 ?c5; (case kA => exact rfl); (case kF => exact rfl); (case kK => assumption); (case k1 => k_asm); (case k2 => k_asm); (case k3 => k_asm); (case k4 => k_asm); (case k5 => k_asm); (case k6 => k_is); (case k7 => k_is); (case k8 => ktr_room); (case k9 => first | exact BindsTo.of_eq rfl | exact binds_K (by k_in) rfl (by k_is) rfl rfl rfl); (case c5 => decide); (case kB => exact locs rfl); (case c2 => exact rfl); (case c3 => exact rfl); (case c4 => exact rfl); k_whole)
  intro gX LX hX FGX FX NX BX XX TX GX
  clear B F X N T
  (try dsimp only)
  show let q1 : Flow → Shared → Prop := _; wpB _ _ _ q1 _ _
  intro q1
  refine wpB_cut 1 ?_
  dsimp only [List.take, List.drop]
  k_steps
  (try dsimp only)
  refine wpB_execs_cons ?_
  refine wpB_Assign_Name ?_ rfl
  refine wpB_Call_Name ?_
  k_steps
  refine wpB_callP0 rfl ?_
  refine ba_call0 rfl ?_
  intro h1 hS1 hk1
  rename Fr _ _ _ _ => F0
  rename News _ _ _ _ => N0
  have N1 := news_new F0 N0 hS1 hk1
  have F1 := F0.keeps hk1
  clear F0 N0
  k_steps
  (try dsimp only)
  refine wpB_execs_cons ?_
  rename Fr _ _ _ _ => F2
  rename News _ _ _ _ => N2
  refine' kswB (σ := RdSt) (fun c => (c.S, baObj c.parts) :: rObjs w x dx rl k d B ck (c.W.length : Int) c.ta (c.be : Int) c.te c.sh (gl : Int) tg) (fun c => [(Str.ofString "parts", .ref c.S), (Str.ofString "begun", .bool c.begun)]) [Str.ofString "kind", Str.ofString "data"] (RdP B ck d rec Wf) (fun c => Wf.length - c.W.length) ⟨_, [], W, rec, false, ta, be, te, sh⟩ F2 N2 ?kk ?kp ?_
  case kk => kst_all
  case kp => exact ⟨⟨pl, hlay⟩, hpre, fun _ => rfl, rfl, R⟩
  clear F2 N2
  rintro ⟨S1, parts1, W1, rest1, begun1, ta1, be1, te1, sh1⟩ u h1 tk1 hP F1 N1
  (try dsimp only at F1 N1)
  have ne1 := ne1; have ne2 := ne2; have ne3 := ne3
  obtain ⟨p1, hL⟩ := hP.lay
  have hfirst := hP.first
  have hwhole := hP.whole
  have hinv := hP.inv
  dsimp only at hL hfirst hwhole hinv
  have hr1 : rest1.length ≤ 15 := by
    have := congrArg List.length hwhole
    rw [List.length_append] at this
    omega
  have hpl1 : parts1.length + rest1.length ≤ 15 := by
    have := congrArg List.length hwhole
    rw [List.length_append] at this
    omega
  refine wpB_of ?_
  k_steps
  show let q3 : Flow → Shared → Prop := _; wpB _ _ _ q3 _ _
  intro q3
  rcases lay_inv hL with ⟨v1, hroom, hWf⟩ | ⟨v1, part, q1, hp1, hp2, hL'⟩
  · have hW1 : Wf.length = W1.length + fillN B W1.length + 7 + rest1.length := by rw [hWf]; exact stepW_len (Nat.le_refl _)
    have hP1 := step_piece (d := d) (by rw [← hWf]; exact hpre) hr1
    rw [List.take_length] at hP1
    cases begun1
    · have hF := frag_at w x dx rl k d B ck W1.length ta1 be1 te1 sh1 gl tg 1 1 rest1 Wf.length hd hB1 hB2 hck rfl (by omega) (by omega) hr1 hinv hroom hP1 hW1.symm ne1 ne2 ne3
      refine wpB_of ?_
      k_steps
      (try dsimp only)
      (try k_unfold)
      (try dsimp only)
      refine leaveK_ (by assumption) (by assumption) (fun kF kN => ?_)
      show Q _ _
      have hre : rest1 = rec := by
        rw [hfirst rfl] at hwhole
        exact hwhole
      exact hret _ _ _ _ ⟨_, _, _, _, _, _, by rw [hre], by assumption, rfl⟩ kF (fun p hp => kN p (List.mem_cons_of_mem _ (List.mem_cons_of_mem _ hp))) (fun b o e n => Fr.keep (by assumption) b o (GX b o e n))
    · have hF := frag_at w x dx rl k d B ck W1.length ta1 be1 te1 sh1 gl tg 4 4 rest1 Wf.length hd hB1 hB2 hck rfl (by omega) (by omega) hr1 hinv hroom hP1 hW1.symm ne1 ne2 ne3
      refine wpB_cut 2 ?_
      dsimp only [List.take, List.drop]
      k_steps
      (try dsimp only)
      refine wpB_execs_cons ?_
      refine wpB_If (wpB_of ?_)
      k_steps
      refine wpB_execs_cons ?_
      refine wpB_If (wpB_of ?_)
      k_steps
      refine wpB_execs_cons ?_
      refine wpB_If (wpB_of ?_)
      k_steps
      refine wpB_execs_cons ?_
      refine wpB_Expr_none ?_ rfl rfl
      refine wpB_Call_Attr rfl rfl rfl ?_
      k_steps
      rename News _ _ _ _ => N9
      refine ba_extend_get (N9 _ (List.Mem.head _)).1 ?_
      (try dsimp only)
      refine wpB_callP rfl ?_ rfl rfl
      skip
      k_steps
      rename Fr _ _ _ _ => F9
      rename News _ _ _ _ => N9
      refine ba_extend (b := parts1) rfl (N9 _ (List.Mem.head _)).1 (by rw [sizeLine_eq]; (try simp only [List.length_take]); omega) ?_
      intro h9 hS9 hs9
      have F8 := fr_upd F9 N9 hs9
      have N8 := news_upd N9 hs9 hS9 (off_ba (by
        intro p hp
        simp only [List.mem_cons, List.not_mem_nil, or_false] at hp
        rcases hp with rfl | rfl | rfl | rfl
        all_goals first | exact (fun e => by cases e) | exact ty_ne (by decide)))
      clear N9 F9
      refine ⟨rfl, ?_⟩
      (try dsimp only)
      refine wpB_of ?_
      k_steps
      (try dsimp only)
      (try k_unfold)
      (try dsimp only)
      refine leaveK_ (by assumption) (by assumption) (fun kF kN => ?_)
      show Q _ _
      exact hret _ _ _ _ ⟨_, _, _, _, _, _, by rw [hwhole], by assumption, rfl⟩ kF (fun p hp => kN p (List.mem_cons_of_mem _ (List.mem_cons_of_mem _ hp))) (fun b o e n => Fr.keep (by assumption) b o (GX b o e n))
  · have hW1 : (stepW B ck W1 rest1 begun1 v1 part false).length = W1.length + fillN B W1.length + 7 + part := stepW_len hp1
    have hpre2 := hL'.pre
    have hle2 := hpre2.length_le
    have hP1 := step_piece (d := d) (hpre2.trans hpre) (show part ≤ 15 by omega)
    have hlt : (rest1.take part).length = part := by rw [List.length_take]; omega
    cases begun1
    · have hF := frag_at w x dx rl k d B ck W1.length ta1 be1 te1 sh1 gl tg 2 2 (rest1.take part) (stepW B ck W1 rest1 false v1 part false).length hd hB1 hB2 hck rfl (by omega) (by omega) (by omega) hinv (by omega) hP1 (by omega) ne1 ne2 ne3
      refine wpB_cut 2 ?_
      dsimp only [List.take, List.drop]
      k_steps
      (try dsimp only)
      refine wpB_execs_cons ?_
      refine wpB_If (wpB_of ?_)
      k_steps
      refine wpB_cut 2 ?_
      dsimp only [List.take, List.drop]
      k_steps
      (try dsimp only)
      refine wpB_execs_cons ?_
      refine wpB_Assign_Name ?_ rfl
      refine wpB_Call_Name ?_
      k_steps
      refine wpB_callP rfl ?_ rfl rfl
      k_steps
      rename Fr _ _ _ _ => F9
      rename News _ _ _ _ => N9
      refine ba_call1 rfl (by rw [sizeLine_eq]; omega) ?_
      intro h9 hS9 hk9
      have N8 := news_new F9 N9 hS9 hk9
      have F8 := F9.keeps hk9
      clear F9 N9
      k_steps
      (try dsimp only)
      refine wpB_of ?_
      k_steps
      repeat (first | (refine wpB_execs_nil ?_) | dsimp only)
      show KswEnd _ _ _ _ _ _ _ _ _ _ _ _
      rename Fr _ _ _ _ => F7
      rename News _ _ _ _ => N7
      refine' ksw_end (⟨_, rest1.take part, stepW B ck W1 rest1 false v1 part false, rest1.drop part, true, _, _, _, _⟩ : RdSt) F7 N7 ?hn ?hf ?hk ?hr ?hp ?hm
      case hf => trivial
      case hk => kst_all
      case hn =>
        refine List.forall_mem_cons.mpr ⟨by k_mem, List.forall_mem_cons.mpr ⟨by k_mem, List.forall_mem_cons.mpr ⟨by k_mem, List.forall_mem_cons.mpr ⟨by k_mem, fun _ h => by cases h⟩⟩⟩⟩
      case hr =>
        intro z h1 h2
        simp only [List.forall_mem_cons, List.not_mem_nil, false_implies, implies_true, and_true, ne_eq] at h1
        simp only [List.contains_cons, List.contains_nil, Bool.or_false, Bool.or_eq_false_iff, beq_eq_false_iff_ne, ne_eq] at h2
        simp +zetaDelta [kstB, h1, h2]
      case hp => exact ⟨⟨_, hL'⟩, hpre, (fun h => by cases h), by (have h0 := hfirst rfl; rw [h0] at hwhole; (try dsimp only); rw [List.take_append_drop]; exact hwhole), by assumption⟩
      case hm => dsimp only; omega
    · have hF := frag_at w x dx rl k d B ck W1.length ta1 be1 te1 sh1 gl tg 3 3 (rest1.take part) (stepW B ck W1 rest1 true v1 part false).length hd hB1 hB2 hck rfl (by omega) (by omega) (by omega) hinv (by omega) hP1 (by omega) ne1 ne2 ne3
      refine wpB_cut 2 ?_
      dsimp only [List.take, List.drop]
      k_steps
      (try dsimp only)
      refine wpB_execs_cons ?_
      refine wpB_If (wpB_of ?_)
      k_steps
      refine wpB_execs_cons ?_
      refine wpB_If (wpB_of ?_)
      k_steps
      refine wpB_execs_cons ?_
      refine wpB_If (wpB_of ?_)
      k_steps
      refine wpB_execs_cons ?_
      refine wpB_Expr_none ?_ rfl rfl
      refine wpB_Call_Attr rfl rfl rfl ?_
      k_steps
      rename News _ _ _ _ => N9
      refine ba_extend_get (N9 _ (List.Mem.head _)).1 ?_
      (try dsimp only)
      refine wpB_callP rfl ?_ rfl rfl
      skip
      k_steps
      rename Fr _ _ _ _ => F9
      rename News _ _ _ _ => N9
      refine ba_extend (b := parts1) rfl (N9 _ (List.Mem.head _)).1 (by rw [sizeLine_eq]; (try simp only [List.length_take]); omega) ?_
      intro h9 hS9 hs9
      have F8 := fr_upd F9 N9 hs9
      have N8 := news_upd N9 hs9 hS9 (off_ba (by
        intro p hp
        simp only [List.mem_cons, List.not_mem_nil, or_false] at hp
        rcases hp with rfl | rfl | rfl | rfl
        all_goals first | exact (fun e => by cases e) | exact ty_ne (by decide)))
      clear N9 F9
      refine ⟨rfl, ?_⟩
      (try dsimp only)
      refine wpB_of ?_
      k_steps
      repeat (first | (refine wpB_execs_nil ?_) | dsimp only)
      show KswEnd _ _ _ _ _ _ _ _ _ _ _ _
      rename Fr _ _ _ _ => F7
      rename News _ _ _ _ => N7
      refine' ksw_end (⟨_, parts1 ++ rest1.take part, stepW B ck W1 rest1 true v1 part false, rest1.drop part, true, _, _, _, _⟩ : RdSt) F7 N7 ?hn ?hf ?hk ?hr ?hp ?hm
      case hf => trivial
      case hk => kst_all
      case hn =>
        refine List.forall_mem_cons.mpr ⟨by k_mem, List.forall_mem_cons.mpr ⟨by k_mem, List.forall_mem_cons.mpr ⟨by k_mem, List.forall_mem_cons.mpr ⟨by k_mem, fun _ h => by cases h⟩⟩⟩⟩
      case hr =>
        intro z h1 h2
        simp only [List.forall_mem_cons, List.not_mem_nil, false_implies, implies_true, and_true, ne_eq] at h1
        simp only [List.contains_cons, List.contains_nil, Bool.or_false, Bool.or_eq_false_iff, beq_eq_false_iff_ne, ne_eq] at h2
        simp +zetaDelta [kstB, h1, h2]
      case hp => exact ⟨⟨_, hL'⟩, hpre, (fun h => by cases h), by ((try dsimp only); rw [List.append_assoc, List.take_append_drop]; exact hwhole), by assumption⟩
      case hm => dsimp only; omega
end

/-! RdE -/
section
set_option maxHeartbeats 8000000 in
theorem read_end (w : World) (x dx rl : Addr) (k : RdK) (d : List UInt8) (B : Nat) (ck : Int) (p : Nat) (ta : Tok) (te : Tok) (sh : Bool) (gl : Nat) (tg : Tok)
    (hd : d.length ≤ 100000) (hB1 : 8 ≤ B) (hB2 : B ≤ 14) (hp : p = d.length) (ne1 : @Ne Nat x dx) (ne2 : @Ne Nat x rl) (ne3 : @Ne Nat dx rl) :
    BSpec 720 5600 w 230 [.ref x] (rObjs w x dx rl k d B ck (p : Int) ta (p : Int) te sh (gl : Int) tg)
      (fun v news' => v = .none ∧ ∃ ta' te', news' = rObjs w x dx rl k d B ck (p : Int) ta' (p : Int) te' true (gl : Int) tg) := by
  w_top off
  k_with_none
  k_with "execs cons" => (((try k_fold); (try (conv => arg 6; dsimp only)); refine gen_toks ?_; intro tkκ; refine wpAny_execs_cons ?_))
  k_with "storeName" => ((k_here; (try (conv => arg 6; dsimp only)); k_dflt (first
  | ((with_reducible show wpAny _ _ (storeName _ _ (Value.int _ _)) _ _ _); (refine' store_intL (by k_asm) (by k_asm) ?_ (by rfl) (by rfl); k_whole; intro h'κ t'κ tk'κ m'κ F'κ N'κ; (try k_sweep)))
  | ((with_reducible show wpAny _ _ (storeName _ _ (Value.bytes _ _)) _ _ _); (refine' store_bytesL (by k_asm) (by k_asm) ?_ (by rfl) (by rfl); k_whole; intro h'κ t'κ tk'κ m'κ F'κ N'κ; (try k_sweep)))
  | (refine' store_anyL (by k_asm) (by k_asm) ?_ (by rfl) (by rfl); k_whole; intro h'κ tk'κ m'κ F'κ N'κ; (try k_sweep)))))
  k_with "binaryOp RShift int int" => ((with_reducible refine rshift_int (by decide) ?_))
  k_with "call ref" => ((k_here; (with_reducible show wpAny _ _ (call (Value.ref 223) _) _ _ _); k_dflt (refine' MSpec.underL (by assumption) (by k_asm) (by k_asm) (by k_asm) (by k_asm) (by k_asm) (by exact rfl) (by first | exact rfl | assumption) (by exact rfl) (by exact Nat.le_of_ble_eq_true rfl) (by exact Nat.le_of_ble_eq_true rfl) (by exact robjs_ba) ?_; rintro v'κ n'κ h'κ tk'κ ⟨T'κ, o'κ, t1'κ, t2'κ, ta'κ, te'κ, e1κ, e2κ, e3κ⟩ F'κ N'κ; subst e1κ; subst e2κ; subst e3κ; (obtain ⟨nn1κ, nn2κ, nn3κ, nn4κ, nn5κ, nn6κ, nn7κ⟩ := five_ne N'κ rfl); (dsimp only [rObjs, rD] at N'κ); (try k_sweep))))
  unfold BSpec
  k_fill
  intro mean mg mb cn cs a ccd cl outer A₀ base h₀ L m s Q B F X N T hk hret
  refine wpB_call ?_
  k_dflt (refine' enterB ?k1 ?k2 ?k3 ?k4 ?k5 ?kA ?kF ?kK ?k6 ?k7 ?k8 ?k9 ?kB ?_ ?c2 ?c3 ?c4 ?c5; (case kA => exact rfl); (case kF => exact rfl); (case kK => assumption); (case k1 => k_asm); (case k2 => k_asm); (case k3 => k_asm); (case k4 => k_asm); (case k5 => k_asm); (case k6 => k_is); (case k7 => k_is); (case k8 => ktr_room); (case k9 => first | exact BindsTo.of_eq rfl | exact binds_K (by k_in) rfl (by k_is) rfl rfl rfl); (case c5 => decide); (case kB => exact locs rfl); (case c2 => exact rfl); (case c3 => exact rfl); (case c4 => exact rfl); k_whole)
  intro gX LX hX FGX FX NX BX XX TX GX
  clear B F X N T
  (try dsimp only)
  refine wpB_cut 1 ?_
  dsimp only [List.take, List.drop]
  k_steps
  (try dsimp only)
  refine wpB_execs_cons ?_
  refine wpB_Assign_Name ?_ rfl
  refine wpB_Call_Name ?_
  k_steps
  refine wpB_callP0 rfl ?_
  refine ba_call0 rfl ?_
  intro h1 hS1 hk1
  rename Fr _ _ _ _ => F0
  rename News _ _ _ _ => N0
  have N1 := news_new F0 N0 hS1 hk1
  have F1 := F0.keeps hk1
  clear F0 N0
  k_steps
  (try dsimp only)
  refine wpB_execs_cons ?_
  rename Fr _ _ _ _ => F2
  rename News _ _ _ _ => N2
  refine' kswB (σ := Addr) (fun c => (c, baObj []) :: rObjs w x dx rl k d B ck (p : Int) ta (p : Int) te sh (gl : Int) tg) (fun c => [(Str.ofString "parts", .ref c), (Str.ofString "begun", .bool false)]) [Str.ofString "kind", Str.ofString "data"] (fun _ => True) (fun c => 0) _ F2 N2 ?kk trivial ?_
  case kk => kst_all
  clear F2 N2
  rintro S1 u h1 tk1 _ F1 N1
  (try dsimp only at F1 N1)
  have ne1 := ne1; have ne2 := ne2; have ne3 := ne3
  refine wpB_of ?_
  k_steps
  have hF := frag_end w x dx rl k d B ck p ta te sh gl tg hd hp hB1 hB2 ne1 ne2 ne3
  refine wpB_of ?_
  k_steps
  (try dsimp only)
  (try k_unfold)
  (try dsimp only)
  refine leaveK_ (by assumption) (by assumption) (fun kF kN => ?_)
  show Q _ _
  exact hret _ _ _ _ ⟨rfl, _, _, rfl⟩ kF (fun p hp => kN p (List.mem_cons_of_mem _ (List.mem_cons_of_mem _ hp))) (fun b o e n => Fr.keep (by assumption) b o (GX b o e n))
end

/-! Chk -/
section
set_option maxHeartbeats 8000000 in
theorem chkb_spec (w : World) (B : Nat) (tb : Tok) (hB1 : 8 ≤ B) (hB2 : B ≤ 14) :
    MSpec 790 5950 w 132 [.int (B : Int) tb] [] (fun v news' => news' = [] ∧ v = .none) := by
  w_top off
  k_with_none
  k_with "execs cons" => (((try k_fold); (try (conv => arg 6; dsimp only)); refine gen_toks ?_; intro tkκ; refine wpAny_execs_cons ?_))
  k_with "storeName" => ((k_here; (try (conv => arg 6; dsimp only)); k_dflt (first
  | ((with_reducible show wpAny _ _ (storeName _ _ (Value.int _ _)) _ _ _); (refine' store_intL (by k_asm) (by k_asm) ?_ (by rfl) (by rfl); k_whole; intro h'κ t'κ tk'κ m'κ F'κ N'κ; (try k_sweep)))
  | ((with_reducible show wpAny _ _ (storeName _ _ (Value.bytes _ _)) _ _ _); (refine' store_bytesL (by k_asm) (by k_asm) ?_ (by rfl) (by rfl); k_whole; intro h'κ t'κ tk'κ m'κ F'κ N'κ; (try k_sweep)))
  | (refine' store_anyL (by k_asm) (by k_asm) ?_ (by rfl) (by rfl); k_whole; intro h'κ tk'κ m'κ F'κ N'κ; (try k_sweep)))))
  k_with "binaryOp RShift int int" => ((with_reducible refine rshift_int (by decide) ?_))
  unfold MSpec
  k_fill
  intro mean mg mb gd cn cs a ccd cl outer A₀ base h₀ L m s Q E B F X N T hk hret
  refine wpAny_call ?_
  k_dflt (refine' enterM ?k1 ?k2 ?k3 ?k4 ?k5 ?kA ?kF ?kK ?k6 ?k7 ?k8 ?k9 ?kB ?_ ?c2 ?c3 ?c4 ?c5; (case kA => exact rfl); (case kF => exact rfl); (case kK => assumption); (case k1 => k_asm); (case k2 => k_asm); (case k3 => k_asm); (case k4 => k_asm); (case k5 => k_asm); (case k6 => k_is); (case k7 => k_is); (case k8 => ktr_room); (case k9 => first | exact BindsTo.of_eq rfl | exact binds_K (by k_in) rfl (by k_is) rfl rfl rfl); (case c5 => decide); (case kB => exact locs rfl); (case c2 => exact rfl); (case c3 => exact rfl); (case c4 => exact rfl); k_whole)
  intro gX LX hX FGX FX NX BX XX TX GX
  clear B F X N T
  (try dsimp only)
  (try k_fold)
  have hB3 : (8 : Int) ≤ (B : Int) := by omega
  have hB4 : (B : Int) ≤ 14 := by omega
  k_steps
  (try dsimp only)
  (try k_unfold)
  (try dsimp only)
  refine leaveK_ (by assumption) (by assumption) (fun kF kN => ?_)
  show Q _ _
  exact hret _ _ _ _ ⟨rfl, rfl⟩ kF kN (fun b o e n => Fr.keep (by assumption) b o (GX b o e n))
set_option maxHeartbeats 8000000 in
theorem chkk_spec (w : World) (ck : Int) (tc : Tok) (hck : ck = 1 ∨ ck = 2) :
    MSpec 790 5950 w 139 [.int ck tc] [] (fun v news' => news' = [] ∧ v = .none) := by
  w_top off
  k_with_none
  k_with "execs cons" => (((try k_fold); (try (conv => arg 6; dsimp only)); refine gen_toks ?_; intro tkκ; refine wpAny_execs_cons ?_))
  k_with "storeName" => ((k_here; (try (conv => arg 6; dsimp only)); k_dflt (first
  | ((with_reducible show wpAny _ _ (storeName _ _ (Value.int _ _)) _ _ _); (refine' store_intL (by k_asm) (by k_asm) ?_ (by rfl) (by rfl); k_whole; intro h'κ t'κ tk'κ m'κ F'κ N'κ; (try k_sweep)))
  | ((with_reducible show wpAny _ _ (storeName _ _ (Value.bytes _ _)) _ _ _); (refine' store_bytesL (by k_asm) (by k_asm) ?_ (by rfl) (by rfl); k_whole; intro h'κ t'κ tk'κ m'κ F'κ N'κ; (try k_sweep)))
  | (refine' store_anyL (by k_asm) (by k_asm) ?_ (by rfl) (by rfl); k_whole; intro h'κ tk'κ m'κ F'κ N'κ; (try k_sweep)))))
  k_with "binaryOp RShift int int" => ((with_reducible refine rshift_int (by decide) ?_))
  unfold MSpec
  k_fill
  intro mean mg mb gd cn cs a ccd cl outer A₀ base h₀ L m s Q E B F X N T hk hret
  refine wpAny_call ?_
  k_dflt (refine' enterM ?k1 ?k2 ?k3 ?k4 ?k5 ?kA ?kF ?kK ?k6 ?k7 ?k8 ?k9 ?kB ?_ ?c2 ?c3 ?c4 ?c5; (case kA => exact rfl); (case kF => exact rfl); (case kK => assumption); (case k1 => k_asm); (case k2 => k_asm); (case k3 => k_asm); (case k4 => k_asm); (case k5 => k_asm); (case k6 => k_is); (case k7 => k_is); (case k8 => ktr_room); (case k9 => first | exact BindsTo.of_eq rfl | exact binds_K (by k_in) rfl (by k_is) rfl rfl rfl); (case c5 => decide); (case kB => exact locs rfl); (case c2 => exact rfl); (case c3 => exact rfl); (case c4 => exact rfl); k_whole)
  intro gX LX hX FGX FX NX BX XX TX GX
  clear B F X N T
  (try dsimp only)
  (try k_fold)
  rcases hck with rfl | rfl
  all_goals
    k_steps
    (try dsimp only)
    (try k_unfold)
    (try dsimp only)
    refine leaveK_ (by assumption) (by assumption) (fun kF kN => ?_)
    show Q _ _
    exact hret _ _ _ _ ⟨rfl, rfl⟩ kF kN (fun b o e n => Fr.keep (by assumption) b o (GX b o e n))
end

/-! RNew -/
section
set_option maxHeartbeats 8000000 in
theorem reader_new (w : World) (d : List UInt8) (td : Tok) (B : Nat) (tb : Tok) (ck : Int) (tc : Tok) (hB1 : 8 ≤ B) (hB2 : B ≤ 14) (hck : ck = 1 ∨ ck = 2) :
    CSpec 740 5900 w 233 [.bytes d.toArray td, .int (B : Int) tb, .int ck tc]
      (fun v news' => ∃ x dx rl k ta te tg, v = .ref x ∧ @Ne Nat x dx ∧ @Ne Nat x rl ∧ @Ne Nat dx rl ∧ news' = rObjs w x dx rl k d B ck 0 ta 0 te false 0 tg) := by
  w_top off
  k_with_none
  k_with "execs cons" => (((try k_fold); (try (conv => arg 6; dsimp only)); refine gen_toks ?_; intro tkκ; refine wpAny_execs_cons ?_))
  k_with "storeName" => ((k_here; (try (conv => arg 6; dsimp only)); k_dflt (first
  | ((with_reducible show wpAny _ _ (storeName _ _ (Value.int _ _)) _ _ _); (refine' store_intL (by k_asm) (by k_asm) ?_ (by rfl) (by rfl); k_whole; intro h'κ t'κ tk'κ m'κ F'κ N'κ; (try k_sweep)))
  | ((with_reducible show wpAny _ _ (storeName _ _ (Value.bytes _ _)) _ _ _); (refine' store_bytesL (by k_asm) (by k_asm) ?_ (by rfl) (by rfl); k_whole; intro h'κ t'κ tk'κ m'κ F'κ N'κ; (try k_sweep)))
  | (refine' store_anyL (by k_asm) (by k_asm) ?_ (by rfl) (by rfl); k_whole; intro h'κ tk'κ m'κ F'κ N'κ; (try k_sweep)))))
  k_with "binaryOp RShift int int" => ((with_reducible refine rshift_int (by decide) ?_))
  k_with "call type:bytes" => ((k_here; (with_reducible show wpAny _ _ (call (Value.type "bytes") [Value.bytes _ _]) _ _ _); k_dflt (refine bytes_self ?_)))
  k_with "call ref" => ((k_here; (with_reducible show wpAny _ _ (call (Value.ref 132) _) _ _ _); k_dflt (refine' MSpec.pureL (by k_asm) (by k_asm) (by k_asm) (by k_asm) (by k_asm) (by exact rfl) (by first | exact rfl | assumption) (by exact rfl) (by exact Nat.le_of_ble_eq_true rfl) (by exact Nat.le_of_ble_eq_true rfl) (chkb_spec _ _ _ (by assumption) (by assumption)) ?_; rintro v'κ h'κ tk'κ ⟨nκ, e1κ, e2κ⟩ F'κ N'κ; subst e2κ; (try k_sweep))))
  k_with "call ref" => ((k_here; (with_reducible show wpAny _ _ (call (Value.ref 139) _) _ _ _); k_dflt (refine' MSpec.pureL (by k_asm) (by k_asm) (by k_asm) (by k_asm) (by k_asm) (by exact rfl) (by first | exact rfl | assumption) (by exact rfl) (by exact Nat.le_of_ble_eq_true rfl) (by exact Nat.le_of_ble_eq_true rfl) (chkk_spec _ _ _ (by assumption)) ?_; rintro v'κ h'κ tk'κ ⟨nκ, e1κ, e2κ⟩ F'κ N'κ; subst e2κ; (try k_sweep))))
  unfold CSpec
  k_fill
  intro mean mg mb gd cn cs a ccd cl outer A₀ base h₀ L m s Q E rest B F X N T hk hret
  k_dflt (refine' call_cls ?k1 ?k2 ?k3 ?k4 ?k5 ?k6 ?_; (case k1 => k_asm); (case k2 => k_asm); (case k3 => k_asm); (case k4 => k_is); (case k5 => k_is); (case k6 => k_is); k_whole)
  intro x' d' h' F' N' l1 l2
  (try k_lt l1)
  (try k_lt2 l2)
  have F0 := F
  clear F N
  k_dflt (refine' enterM ?k1 ?k2 ?k3 ?k4 ?k5 ?kA ?kF ?kK ?k6 ?k7 ?k8 ?k9 ?kB ?_ ?c2 ?c3 ?c4 ?c5; (case kA => exact rfl); (case kF => exact rfl); (case kK => assumption); (case k1 => k_asm); (case k2 => k_asm); (case k3 => k_asm); (case k4 => k_asm); (case k5 => k_asm); (case k6 => k_is); (case k7 => k_is); (case k8 => ktr_room); (case k9 => first | exact BindsTo.of_eq rfl | exact binds_K (by k_in) rfl (by k_is) rfl rfl rfl); (case c5 => decide); (case kB => exact locs rfl); (case c2 => exact rfl); (case c3 => exact rfl); (case c4 => exact rfl); k_whole)
  intro gX LX hX FGX FX NX BX XX TX GX
  clear B F' X N' T
  (try dsimp only)
  (try k_fold)
  have hB3 : (8 : Int) ≤ (B : Int) := by omega
  have hB4 : (B : Int) ≤ 14 := by omega
  k_steps
  (try dsimp only)
  (try k_unfold)
  (try dsimp only)
  refine leaveK_ (by assumption) (by assumption) (fun kF kN => ?_)
  dsimp only [InitBack]
  refine ⟨rfl, ?_⟩
  have m1 := news_ne kN (List.Mem.head _) (List.Mem.tail _ (List.Mem.head _)) list_inst
  have m2 := news_ne kN (List.Mem.head _) (List.Mem.tail _ (List.Mem.tail _ (List.Mem.head _))) list_dict
  exact hret _ _ _ _ ⟨_, _, _, ⟨_, _, _, _, _, _, _, _, _, _, _, _, _, _, _, _, _⟩, _, _, _, rfl, Nat.ne_of_gt l2, m1.symm, m2.symm, rfl⟩ kF (news_rot kN)
end

/-! Reads -/
section
set_option maxHeartbeats 8000000 in
theorem reads_spec (w : World) (d : List UInt8) (td : Tok) (B : Nat) (tb : Tok) (ck : Int) (tc : Tok) (rc en : Addr) (vs es : List Value) (n1 n2 : Nat) (recs : List (List UInt8)) (ends : List Int)
    (hd : d.length ≤ 100000) (hB1 : 8 ≤ B) (hB2 : B ≤ 14) (hck : ck = 1 ∨ ck = 2) (hlen : recs.length ≤ 1000) (hvs : BsAre vs recs) (hes : IntsAre es ends) (hsm : ∀ r ∈ recs, r.length ≤ 15) (hcut : Cut B ck [] recs ends d) (hne : @Ne Nat rc en) (hz : recs ≠ []) :
    BSpec 710 5500 w 258 [.bytes d.toArray td, .ref rc, .ref en, .int (B : Int) tb, .int ck tc] [(rc, listOf vs.toArray n1), (en, listOf es.toArray n2)]
      (fun v news' => v = .bool true ∧ news' = [(rc, listOf vs.toArray n1), (en, listOf es.toArray n2)]) := by
  w_top off
  k_with_none
  k_with "execs cons" => (((try k_fold); (try (conv => arg 6; dsimp only)); refine gen_toks ?_; intro tkκ; refine wpAny_execs_cons ?_))
  k_with "storeName" => ((k_here; (try (conv => arg 6; dsimp only)); k_dflt (first
  | ((with_reducible show wpAny _ _ (storeName _ _ (Value.int _ _)) _ _ _); (refine' store_intL (by k_asm) (by k_asm) ?_ (by rfl) (by rfl); k_whole; intro h'κ t'κ tk'κ m'κ F'κ N'κ; (try k_sweep)))
  | ((with_reducible show wpAny _ _ (storeName _ _ (Value.bytes _ _)) _ _ _); (refine' store_bytesL (by k_asm) (by k_asm) ?_ (by rfl) (by rfl); k_whole; intro h'κ t'κ tk'κ m'κ F'κ N'κ; (try k_sweep)))
  | (refine' store_anyL (by k_asm) (by k_asm) ?_ (by rfl) (by rfl); k_whole; intro h'κ tk'κ m'κ F'κ N'κ; (try k_sweep)))))
  k_with "binaryOp RShift int int" => ((with_reducible refine rshift_int (by decide) ?_))
  k_with "call ref" => ((k_here; (with_reducible show wpAny _ _ (call (Value.ref 233) _) _ _ _); k_dflt (refine' CSpec.useL (by k_asm) (by k_asm) (by k_asm) (by k_asm) (by k_asm) (by exact rfl) (by first | exact rfl | assumption) (by exact rfl) (by exact Nat.le_of_ble_eq_true rfl) (by exact Nat.le_of_ble_eq_true rfl) (reader_new _ _ _ _ _ _ _ (by assumption) (by assumption) (by assumption)) ?_; rintro v'κ n'κ h'κ tk'κ ⟨x'κ, dx'κ, rl'κ, kk'κ, ta'κ, te'κ, tg'κ, e1κ, nn1κ, nn2κ, nn3κ, e2κ⟩ F'κ N'κ; subst e1κ; subst e2κ; (dsimp only [rObjs, rD, List.cons_append, List.nil_append] at N'κ); (try k_sweep))))
  k_with "call builtin:len" => ((k_here; (with_reducible show wpAny _ _ (call (Value.builtin "len") [Value.ref _]) _ _ _); k_dflt (refine' kst_len (by k_asm) (by k_mem) (by exact BsAre.length (by assumption)) (by omega) ?_)))
  k_with "subscriptTail" => ((k_here; (with_reducible show wpAny _ _ (subscriptTail _ _ (Value.ref _) (Value.int _ _)) _ _ _); k_dflt (refine' list_item (by k_asm) (by k_mem) (by assumption) (by omega) (by omega) ?_ (by with_unfolding_all rfl))))
  unfold BSpec
  k_fill
  intro mean mg mb cn cs a ccd cl outer A₀ base h₀ L m s Q B F X N T hk hret
  refine wpB_call ?_
  k_dflt (refine' enterB ?k1 ?k2 ?k3 ?k4 ?k5 ?kA ?kF ?kK ?k6 ?k7 ?k8 ?k9 ?kB ?_ ?c2 ?c3 ?c4 ?c5; (case kA => exact rfl); (case kF => exact rfl); (case kK => assumption); (case k1 => k_asm); (case k2 => k_asm); (case k3 => k_asm); (case k4 => k_asm); (case k5 => k_asm); (case k6 => k_is); (case k7 => k_is); (case k8 => ktr_room); (case k9 => first | exact BindsTo.of_eq rfl | exact binds_K (by k_in) rfl (by k_is) rfl rfl rfl); (case c5 => decide); (case kB => exact locs rfl); (case c2 => exact rfl); (case c3 => exact rfl); (case c4 => exact rfl); k_whole)
  intro gX LX hX FGX FX NX BX XX TX GX
  clear B F X N T
  (try dsimp only)
  have hne := hne
  show let q1 : Flow → Shared → Prop := _; wpB _ _ _ q1 _ _
  intro q1
  refine wpB_cut 1 ?_
  dsimp only [List.take, List.drop]
  k_steps
  (try dsimp only)
  refine wpB_execs_cons ?_
  refine wpB_For ?_ (by intro _; rfl)
  k_steps
  rename IsRange _ _ _ _ _ _ _ _ => rg
  rename Fr _ _ _ _ => F5
  rename News _ _ _ _ => N5
  have hv0 := bs_ne hvs hz
  have hcl := hcut.len
  have he0 : es ≠ [] := fun e => by
    have := hes.length
    rw [e] at this
    exact hz (List.eq_nil_of_length_eq_zero (by rw [hcl, ← this]; rfl))
  refine' rangeB (n := recs.length) (ReadsJ w B ck d rc en vs es n1 n2 recs ends) readsJ_it rfl rfl rfl rg ?small ?size F5 N5 ?h0 ?turn ?done
  case small => exact small_one (by omega) (by omega) (by omega) (by omega)
  case size => exact rangeSize_nat _ _
  case h0 => exact ⟨_, _, _, _, _, 0, _, _, 0, _, [], by kst_all, by assumption, by assumption, by assumption, rfl, rinv_zero, hcut⟩
  case turn =>
    clear rg F5 N5
    rintro i t m₁ nx h tk I ik il hi ⟨x1, dx1, rl1, k1, ta1, be1, te1, sh1, gl1, tg1, W1, hm1, ne1, ne2, ne3, rfl, hR1, hC1⟩ F1 N1
    replace F1 := fr_kst _ hm1 F1
    refine (fun (k : let mkκ : Str → Option Value := _; Fr _ _ _ mkκ → _) => k F1) ?_
    clear F1
    intro mkκ F1
    dsimp only [rObjs, rD, List.cons_append, List.nil_append] at N1
    obtain ⟨r, W2, p, hr, he, hL, hC2⟩ := cut_at hC1 hi
    obtain ⟨t1, hv⟩ := hvs.get hr
    obtain ⟨t2, hev⟩ := hes.get _ _ he
    have hrl := hsm r (List.mem_of_getElem? hr)
    have hge : ends.getD (0 + (i : Int)).toNat 0 = (W2.length : Int) := by
      rw [show (0 + (i : Int)).toNat = i by omega, List.getD_eq_getElem?_getD, he]
      rfl
    show let q2 : Flow → Shared → Prop := _; wpB _ _ _ q2 _ _
    intro q2
    refine wpB_execs_cons ?_
    refine wpB_If ?_
    refine wpB_or ?_
    refine wpB_compare ?_ rfl
    refine wpB_Call_Attr rfl rfl rfl ?_
    k_steps
    (try dsimp only)
    refine wpB_callK0 (K := MineTop.hd.heap_1 w.params) (by k_in) (by k_is) ?_
    rename Fr _ _ _ _ => F5
    rename News _ _ _ _ => N5
    refine BSpec.foot (read_rec w x1 dx1 rl1 k1 d B ck W1 r W2 p ta1 be1 te1 sh1 gl1 tg1 hd hB1 hB2 hck hrl hL hC2.pre hR1 ne1 ne2 ne3) [(I, itObj ik il), (rc, listOf vs.toArray n1), (en, listOf es.toArray n2)] BX F5 XX N5 TX rfl rfl rfl rfl (Nat.le_of_ble_eq_true rfl) (Nat.le_of_ble_eq_true rfl) ?h1 ?h2 ?h3 ?_
    case h1 =>
      exact (sub_cons (by k_mem) (sub_cons (by k_mem) (sub_cons (by k_mem) sub_nil)))
    case h2 =>
      exact (sub_cons (by k_mem) (sub_cons (by k_mem) (sub_cons (by k_mem) sub_nil)))
    case h3 =>
      exact off_of N5 (sub_cons (by k_mem) (sub_cons (by k_mem) (sub_cons (by k_mem) sub_nil))) (sub_cons (by k_mem) (sub_cons (by k_mem) (sub_cons (by k_mem) sub_nil))) (robjs_ne hv0 he0)
    rintro v n' h' tk' ⟨t', ta', te', tg', be', sh', e1, hR', e2⟩ F' N'
    subst e1
    subst e2
    clear F5 N5
    dsimp only [rObjs, rD, List.cons_append, List.nil_append] at N'
    k_steps
    · exact absurd ‹(_ != _) = true› (by simp)
    · refine wpB_of ?_
      k_steps
      all_goals (try (exfalso; omega))
      repeat (first | (refine wpB_execs_nil ?_) | dsimp only)
      show RngEnd _ _ _ _ _ _
      rename Fr _ _ _ _ => F7
      rename News _ _ _ _ => N7
      refine' RngEnd.intro (rObjs w x1 dx1 rl1 k1 d B ck (W2.length : Int) ta' (be' : Int) te' sh' (W2.length : Int) tg' ++ [(rc, listOf vs.toArray n1), (en, listOf es.toArray n2)]) F7 N7 ?hn ?ho ?hj
      case hn =>
        exact (sub_cons (by k_mem) (sub_cons (by k_mem) (sub_cons (by k_mem) (sub_cons (by k_mem) (sub_cons (by k_mem) sub_nil)))))
      case ho =>
        exact (sub_cons (by k_mem) sub_nil)
      case hj => exact ⟨x1, dx1, rl1, k1, ta', be', te', sh', W2.length, tg', W2, by kst_all, ne1, ne2, ne3, rfl, hR', hC2⟩
  case done =>
    clear rg F5 N5
    rintro m₁ nx h tk ⟨x1, dx1, rl1, k1, ta1, be1, te1, sh1, gl1, tg1, W1, hm1, ne1, ne2, ne3, rfl, hR1, hC1⟩ F1 N1
    replace F1 := fr_kst0 _ hm1 F1
    refine (fun (k : let mkκ : Str → Option Value := _; Fr _ _ _ mkκ → _) => k F1) ?_
    clear F1
    intro mkκ F1
    dsimp only [rObjs, rD, List.cons_append, List.nil_append] at N1
    have hWd := cut_done hC1 (Nat.le_refl _)
    have hbe : be1 = W1.length := by
      have h1 := hR1.1
      have h2 := hR1.2.1
      rw [hWd] at h1 ⊢
      omega
    subst hbe
    (try dsimp only)
    refine wpB_execs_cons ?_
    refine wpB_If ?_
    refine wpB_compare ?_ rfl
    refine wpB_Call_Attr rfl rfl rfl ?_
    k_steps
    (try dsimp only)
    refine wpB_callK0 (K := MineTop.hd.heap_1 w.params) (by k_in) (by k_is) ?_
    rename Fr _ _ _ _ => F5
    rename News _ _ _ _ => N5
    refine BSpec.foot (read_end w x1 dx1 rl1 k1 d B ck W1.length ta1 te1 sh1 gl1 tg1 hd hB1 hB2 (by rw [hWd]) ne1 ne2 ne3) [(rc, listOf vs.toArray n1), (en, listOf es.toArray n2)] BX F5 XX N5 TX rfl rfl rfl rfl (Nat.le_of_ble_eq_true rfl) (Nat.le_of_ble_eq_true rfl) ?h1 ?h2 ?h3 ?_
    case h1 =>
      exact (sub_cons (by k_mem) (sub_cons (by k_mem) (sub_cons (by k_mem) sub_nil)))
    case h2 =>
      exact (sub_cons (by k_mem) (sub_cons (by k_mem) sub_nil))
    case h3 =>
      exact off_of N5 (sub_cons (by k_mem) (sub_cons (by k_mem) sub_nil)) (sub_cons (by k_mem) (sub_cons (by k_mem) (sub_cons (by k_mem) sub_nil))) (fun p hp => robjs_ne (I := 0) (i := 0) (j := 0) hv0 he0 p (List.mem_cons_of_mem _ hp))
    rintro v n' h' tk' ⟨e1, ta', te', e2⟩ F' N'
    subst e1
    subst e2
    clear F5 N5
    dsimp only [rObjs, rD, List.cons_append, List.nil_append] at N'
    k_steps
    repeat (first | (refine wpB_execs_nil ?_) | dsimp only)
    refine wpB_of ?_
    k_steps
    (try dsimp only)
    (try k_unfold)
    (try dsimp only)
    refine leaveK_ (by assumption) (by assumption) (fun kF kN => ?_)
    show Q _ _
    refine hret _ [(rc, listOf vs.toArray n1), (en, listOf es.toArray n2)] _ _ ⟨rfl, rfl⟩ kF (fun p hp => kN p ((sub_cons (by k_mem) (sub_cons (by k_mem) sub_nil)) p hp)) (fun b o e n => Fr.keep (by assumption) b o (GX b o e n))
end

/-! LawB -/
theorem enter_callB {M : Model} {A : Around} {s : Shared} {f : Value} {pos : List Value} {kw : List (Str × Value)} {c : ClaimW} {cl : Str → Option Addr} {mean : ExcName → Option Value} {args : List WData} {s₁ : Shared}
    (h : codeB M A (.call f ⟨pos, kw⟩) (GoodWG c cl mean args s₁) s) : wpB M A (PySem.call f pos kw) (fun v s' => GoodWG c cl mean args s₁ (.ok (.ret v)) s') (fun e s' => GoodWG c cl mean args s₁ (.error e) s') s :=
  wpB_call (codeB_mono h fun res s' g => by rcases g.1 with ⟨v, _, _, rfl, _⟩ | ⟨e, _, _, rfl, _⟩ <;> exact g)
theorem call_cellsB {prog : Program} {w : World} {A : Around} {R : Result → Shared → Prop} {s : Shared} {name : Str} {params : Arguments} {body : List Stmt} {scope : Scope}
    {pm cd doc : Value} {a : Addr} {o : Obj} {args : List Value} {binds : List (Str × Value)}
    (hroom : A.depth < recursionLimit) (ho : s.heap.get? a = some o) (hdata : o.data = .func (Calls.docDef name params body scope pm cd doc)) (hlim : s.heap.NoLimit) (hcd : s.heap.CodeRec cd name)
    (hbind : bindArgs (Calls.docDef name params body scope pm cd doc) ⟨args, []⟩ = pure binds)
    (hkind : ∀ x ∈ binds, scope.names.lookup x.1 = some .local ∨ (scope.names.lookup x.1 = some .cell ∧ ((cellsFrom (s.heap.objs.size + 1) scope.names []).lookup x.1).isSome = true))
    (hnd : ((cellsFrom 0 scope.names []).map (·.1)).Nodup)
    (h : ∀ h₁ tk cells, Fr s.heap s.heap.objs.size h₁ (bindL (envOfC name scope s.heap.objs.size a cd).kindOf binds fun _ => none) → News s.heap s.heap.objs.size h₁ cells →
      CellsAre (bindC (envOfC name scope s.heap.objs.size a cd).kindOf binds fun _ => none) (cellsFrom (s.heap.objs.size + 1) scope.names []) cells →
      wpB (model prog w) (A.deeper (envOfC name scope s.heap.objs.size a cd)) (execs body (envOfC name scope s.heap.objs.size a cd))
        (fun f s' => R (.ok (.ret (match f with | .ret v => v | _ => .none))) s') noE { s with heap := h₁, toks := tk })
    (hco : scope.isCoroutine = false := by rfl) (hgen : scope.isGenerator = false := by rfl) (hk : scope.kind = .function := by rfl) :
    codeB (model prog w) A (.call (.ref a) ⟨args, []⟩) R s := by
  refine codeB_call_function (fd := Calls.docDef name params body scope pm cd doc) hroom ho hdata hco hgen rfl hcd ?_
  rw [hbind]
  show wpAny _ _ (pure binds) _ _ _
  refine wpAny_pure (wpAny_newFunctionEnv_cells hk hkind fun env he s' X => ?_)
  subst he
  refine ⟨hlim.keeps X.toInCall.keep, codeB_func ?_⟩
  obtain ⟨h₁, tk, rfl, _⟩ := X.done
  have Y : Cl s.heap.objs.size (cellsFrom (s.heap.objs.size + 1) scope.names []) h₁ (bindC (envOfC name scope s.heap.objs.size a cd).kindOf binds fun _ => none) := ⟨X.cell, X.apart, X.above⟩
  let ⟨cells, N, Z⟩ := Cl.news (h₀ := s.heap) (Nat.le_refl _) fun n c hm => ⟨Y.cell n c (lookup_of_mem_nodup (cellsFrom_names scope.names 0 (s.heap.objs.size + 1) [] [] rfl ▸ hnd) hm), Y.above n c hm⟩
  exact h h₁ tk cells ⟨X.toInCall.ns, X.toInCall.keep, X.toInCall.fresh⟩ N Z
section
variable {prog : Program} {w : World} {A : Around} {E : Value → Shared → Prop} {s : Shared} {env : Env}
theorem wpB_cutI (n : Nat) {body : List Stmt} {Q : Flow → Shared → Prop} (I : Shared → Prop) (h : wpAny (model prog w) A (execs (body.take n) env) (fun f s' => f = .next ∧ I s') E s)
    (k : ∀ s', I s' → wpB (model prog w) A (execs (body.drop n) env) Q E s') : wpB (model prog w) A (execs body env) Q E s :=
  wpB_cut n (wpAny_mono h (fun f s' hf => by rw [hf.1]; exact k s' hf.2) fun _ _ x => x)
end
/-- where a stretch of the law ends: names bound, ledger held -/
noncomputable def Held (h₀ : Heap) (L : Addr) (s : Shared) (ps : List (Str × Value)) (nx : List (Addr × Obj)) (s' : Shared) : Prop :=
  ∃ h tk m, s' = { s with heap := h, toks := tk } ∧ Fr h₀ L h m ∧ (∀ p ∈ ps, m p.1 = some p.2) ∧ News h₀ L h nx
theorem MSpec.keep {d u : Nat} {w : World} {f : Addr} {vs : List Value} {ft : List (Addr × Obj)} {R : Value → List (Addr × Obj) → Prop} {mean : ExcName → Option Value} {mg mb : Str → Option Value} {cn : Str} {cs : Scope} {a : Addr} {ccd : Value} {cl : List (Str × Addr)} {outer : List Env} {A A₀ : Around} {base h₀ : Heap} {L : Addr} {m : Str → Option Value} {s : Shared}
    {Q : Value → Shared → Prop} {E : Value → Shared → Prop} (S : MSpec d u w f vs ft R) (hR : ∀ v n, R v n → n = ft) {news : List (Addr × Obj)} (B : Below A₀ base outer h₀) (F : Fr h₀ L s.heap m) (X : (MineTop.hd.heap_1 w.params).In h₀) (N : News h₀ L s.heap news) (T : Top MineTop.view (looseW MineTop.view [Str.ofString "crc32c"]) mean mg mb h₀) (hk : cs.kind = .function)
    (hA : A.frames = some (envX cn cs L a ccd cl :: outer)) (hh : A.handled = none) (hd : A.depth ≤ d) (hu : A.units ≤ u) (h1 : ∀ p ∈ ft, p ∈ news)
    (h : ∀ v h' tk', R v ft → Fr h₀ L h' m → News h₀ L h' news → Q v { s with heap := h', toks := tk' }) :
    wpAny (model PySem.Challenge.rw_nz0363_01.row.prog w) A (call (.ref f) vs) Q E s :=
  S.use B F X (fun p hp => N p (h1 p hp)) T hk hA hh hd hu fun v n h' tk' r F' N' k => h v h' tk' (hR v n r ▸ r) F' fun p hp => by
    by_cases hq : p.1 ∈ ft.map (·.1)
    · obtain ⟨q, hq1, hq2⟩ := List.mem_map.mp hq
      have e1 := (N q (h1 q hq1)).1
      have e2 := (N p hp).1
      rw [hq2, e2] at e1
      have : p = q := Prod.ext hq2.symm (Option.some.inj e1)
      rw [this]
      exact N' q (by rw [hR v n r]; exact hq1)
    · exact ⟨k _ _ (N p hp).1 hq, (N p hp).2⟩
theorem MSpec.keepL {d u : Nat} {w : World} {f : Addr} {vs : List Value} {ft : List (Addr × Obj)} {R : Value → List (Addr × Obj) → Prop} {mean : ExcName → Option Value} {mg mb : Str → Option Value} {cn : Str} {cs : Scope} {a : Addr} {ccd : Value} {cl : List (Str × Addr)} {outer : List Env} {A A₀ : Around} {base h₀ : Heap} {L : Addr} {m : Str → Option Value} {s : Shared}
    {Q : Value → Shared → Prop} {E : Value → Shared → Prop} {news : List (Addr × Obj)} (B : Below A₀ base outer h₀) (F : Fr h₀ L s.heap m) (X : (MineTop.hd.heap_1 w.params).In h₀) (N : News h₀ L s.heap news) (T : Top MineTop.view (looseW MineTop.view [Str.ofString "crc32c"]) mean mg mb h₀)
    (hA : A.frames = some (envX cn cs L a ccd cl :: outer)) (hk : cs.kind = .function) (hh : A.handled = none) (hd : A.depth ≤ d) (hu : A.units ≤ u) (hR : ∀ v n, R v n → n = ft) (h1 : ∀ p ∈ ft, p ∈ news) (S : MSpec d u w f vs ft R)
    (h : ∀ v h' tk', R v ft → Fr h₀ L h' m → News h₀ L h' news → Q v { s with heap := h', toks := tk' }) :
    wpAny (model PySem.Challenge.rw_nz0363_01.row.prog w) A (call (.ref f) vs) Q E s := S.keep hR B F X N T hk hA hh hd hu h1 h
theorem BSpec.keep {d u : Nat} {w : World} {f : Addr} {vs : List Value} {ft : List (Addr × Obj)} {R : Value → List (Addr × Obj) → Prop} {mean : ExcName → Option Value} {mg mb : Str → Option Value} {cn : Str} {cs : Scope} {a : Addr} {ccd : Value} {cl : List (Str × Addr)} {outer : List Env} {A A₀ : Around} {base h₀ : Heap} {L : Addr} {m : Str → Option Value} {s : Shared}
    {Q : Value → Shared → Prop} (S : BSpec d u w f vs ft R) (hR : ∀ v n, R v n → n = ft) {news : List (Addr × Obj)} (B : Below A₀ base outer h₀) (F : Fr h₀ L s.heap m) (X : (MineTop.hd.heap_1 w.params).In h₀) (N : News h₀ L s.heap news) (T : Top MineTop.view (looseW MineTop.view [Str.ofString "crc32c"]) mean mg mb h₀) (hk : cs.kind = .function)
    (hA : A.frames = some (envX cn cs L a ccd cl :: outer)) (hh : A.handled = none) (hg : A.guards = some []) (hd : A.depth ≤ d) (hu : A.units ≤ u) (h1 : ∀ p ∈ ft, p ∈ news)
    (h : ∀ v h' tk', R v ft → Fr h₀ L h' m → News h₀ L h' news → Q v { s with heap := h', toks := tk' }) :
    wpB (model PySem.Challenge.rw_nz0363_01.row.prog w) A (call (.ref f) vs) Q noE s :=
  wpB_A (S mean mg mb cn cs a ccd cl outer A₀ base h₀ L m s Q B F X (fun p hp => N p (h1 p hp)) T hk fun v n h' tk' r F' N' k => h v h' tk' (hR v n r ▸ r) F' fun p hp => by
      by_cases hq : p.1 ∈ ft.map (·.1)
      · obtain ⟨q, hq1, hq2⟩ := List.mem_map.mp hq
        have e1 := (N q (h1 q hq1)).1
        have e2 := (N p hp).1
        rw [hq2, e2] at e1
        have : p = q := Prod.ext hq2.symm (Option.some.inj e1)
        rw [this]
        exact N' q (by rw [hR v n r]; exact hq1)
      · exact ⟨k _ _ (N p hp).1 hq, (N p hp).2⟩)
    hh.symm hd hA.symm hg.symm hu
theorem news_one {h₀ : Heap} {L : Addr} {h : Heap} {nx : List (Addr × Obj)} {p : Addr × Obj} {l : List (Addr × Obj)} (N : News h₀ L h nx) (hp : p ∈ nx) (hl : News h₀ L h l) : News h₀ L h (p :: l) := fun q hq => (List.mem_cons.mp hq).elim (fun e => e ▸ N p hp) (hl q)
/-- the numbers that the law draws from -/
noncomputable def NumsI (h₀ : Heap) (L : Addr) (s : Shared) (cz : Addr) (s' : Shared) : Prop :=
  ∃ nl vs ns n oz, oz.data = .cell none ∧ Held h₀ L s [(Str.ofString "nums", .ref nl)] [(nl, listOf vs.toArray n), (cz, oz)] s' ∧ IntsAre vs ns ∧ (∀ k ∈ ns, 0 ≤ k ∧ k ≤ 999982) ∧ ns ≠ [] ∧ ns.length ≤ 1000
theorem nums_ok (ns : List Int) : ∀ k ∈ List.map (fun k' => k'.fmod 999983) (List.take 14 ns), 0 ≤ k ∧ k ≤ 999982 := by
  intro k hk
  obtain ⟨j, _, rfl⟩ := List.mem_map.mp hk
  have h1 := Int.fmod_nonneg_of_pos j (b := 999983) (by decide)
  have h2 := Int.fmod_lt_of_pos j (b := 999983) (by decide)
  omega
theorem ne_of_len {l : List Int} (h : (l.length : Int) ≠ 0) : l ≠ [] := fun e => h (by rw [e]; rfl)
noncomputable def Few (c : Nat) : Prop := 1 ≤ c ∧ c ≤ 3
/-- block size, check and count -/
noncomputable def ParI (h₀ : Heap) (L : Addr) (s : Shared) (nl cz : Addr) (ol oz : Obj) (s' : Shared) : Prop :=
  ∃ (B : Nat) (tb : Tok) (ck : Int) (tc : Tok) (c : Nat) (tn : Tok), Held h₀ L s [(Str.ofString "nums", .ref nl), (Str.ofString "block", .int (B : Int) tb), (Str.ofString "check", .int ck tc), (Str.ofString "count", .int (c : Int) tn)] [(nl, ol), (cz, oz)] s' ∧ 8 ≤ B ∧ B ≤ 14 ∧ (ck = 1 ∨ ck = 2) ∧ Few c
theorem fmod_pos' {a : Int} {b : Int} (hb : 0 < b) : 0 ≤ a.fmod b ∧ a.fmod b < b := ⟨Int.fmod_nonneg_of_pos a hb, Int.fmod_lt_of_pos a hb⟩

/-! WNew -/
section
set_option maxHeartbeats 8000000 in
theorem writer_new (w : World) (fl : Addr) (B : Nat) (tb : Tok) (ck : Int) (tc : Tok) (len : Nat) (tl : Tok) (hB1 : 8 ≤ B) (hB2 : B ≤ 14) (hck : ck = 1 ∨ ck = 2) :
    CSpec 720 5600 w 184 [.ref fl, .int (B : Int) tb, .int ck tc, .int (len : Int) tl]
      (fun v news' => ∃ x dx t0 t1 t2 t3, v = .ref x ∧ @Ne Nat x dx ∧ news' = [(x, instObj 184 dx), (dx, dictOf (wD w t0 t1 t2 t3 fl B tb ck tc len tl) 4)]) := by
  w_top off
  k_with_none
  k_with "execs cons" => (((try k_fold); (try (conv => arg 6; dsimp only)); refine gen_toks ?_; intro tkκ; refine wpAny_execs_cons ?_))
  k_with "storeName" => ((k_here; (try (conv => arg 6; dsimp only)); k_dflt (first
  | ((with_reducible show wpAny _ _ (storeName _ _ (Value.int _ _)) _ _ _); (refine' store_intL (by k_asm) (by k_asm) ?_ (by rfl) (by rfl); k_whole; intro h'κ t'κ tk'κ m'κ F'κ N'κ; (try k_sweep)))
  | ((with_reducible show wpAny _ _ (storeName _ _ (Value.bytes _ _)) _ _ _); (refine' store_bytesL (by k_asm) (by k_asm) ?_ (by rfl) (by rfl); k_whole; intro h'κ t'κ tk'κ m'κ F'κ N'κ; (try k_sweep)))
  | (refine' store_anyL (by k_asm) (by k_asm) ?_ (by rfl) (by rfl); k_whole; intro h'κ tk'κ m'κ F'κ N'κ; (try k_sweep)))))
  k_with "binaryOp RShift int int" => ((with_reducible refine rshift_int (by decide) ?_))
  k_with "call ref" => ((k_here; (with_reducible show wpAny _ _ (call (Value.ref 132) _) _ _ _); k_dflt (refine' MSpec.pureL (by k_asm) (by k_asm) (by k_asm) (by k_asm) (by k_asm) (by exact rfl) (by first | exact rfl | assumption) (by exact rfl) (by exact Nat.le_of_ble_eq_true rfl) (by exact Nat.le_of_ble_eq_true rfl) (chkb_spec _ _ _ (by assumption) (by assumption)) ?_; rintro v'κ h'κ tk'κ ⟨nκ, e1κ, e2κ⟩ F'κ N'κ; subst e2κ; (try k_sweep))))
  k_with "call ref" => ((k_here; (with_reducible show wpAny _ _ (call (Value.ref 139) _) _ _ _); k_dflt (refine' MSpec.pureL (by k_asm) (by k_asm) (by k_asm) (by k_asm) (by k_asm) (by exact rfl) (by first | exact rfl | assumption) (by exact rfl) (by exact Nat.le_of_ble_eq_true rfl) (by exact Nat.le_of_ble_eq_true rfl) (chkk_spec _ _ _ (by assumption)) ?_; rintro v'κ h'κ tk'κ ⟨nκ, e1κ, e2κ⟩ F'κ N'κ; subst e2κ; (try k_sweep))))
  unfold CSpec
  k_fill
  intro mean mg mb gd cn cs a ccd cl outer A₀ base h₀ L m s Q E rest B F X N T hk hret
  k_dflt (refine' call_cls ?k1 ?k2 ?k3 ?k4 ?k5 ?k6 ?_; (case k1 => k_asm); (case k2 => k_asm); (case k3 => k_asm); (case k4 => k_is); (case k5 => k_is); (case k6 => k_is); k_whole)
  intro x' d' h' F' N' l1 l2
  (try k_lt l1)
  (try k_lt2 l2)
  have F0 := F
  clear F N
  k_dflt (refine' enterM ?k1 ?k2 ?k3 ?k4 ?k5 ?kA ?kF ?kK ?k6 ?k7 ?k8 ?k9 ?kB ?_ ?c2 ?c3 ?c4 ?c5; (case kA => exact rfl); (case kF => exact rfl); (case kK => assumption); (case k1 => k_asm); (case k2 => k_asm); (case k3 => k_asm); (case k4 => k_asm); (case k5 => k_asm); (case k6 => k_is); (case k7 => k_is); (case k8 => ktr_room); (case k9 => first | exact BindsTo.of_eq rfl | exact binds_K (by k_in) rfl (by k_is) rfl rfl rfl); (case c5 => decide); (case kB => exact locs rfl); (case c2 => exact rfl); (case c3 => exact rfl); (case c4 => exact rfl); k_whole)
  intro gX LX hX FGX FX NX BX XX TX GX
  clear B F' X N' T
  (try dsimp only)
  (try k_fold)
  have hB3 : (8 : Int) ≤ (B : Int) := by omega
  have hB4 : (B : Int) ≤ 14 := by omega
  have hl0 : (0 : Int) ≤ (len : Int) := by omega
  k_steps
  (try dsimp only)
  (try k_unfold)
  (try dsimp only)
  refine leaveK_ (by assumption) (by assumption) (fun kF kN => ?_)
  dsimp only [InitBack]
  refine ⟨rfl, ?_⟩
  exact hret _ [_, _] _ _ ⟨_, _, _, _, _, _, rfl, Nat.ne_of_gt l2, rfl⟩ kF kN
end

/-! Add -/
section
set_option maxHeartbeats 8000000 in
theorem add_spec (w : World) (x dx fl : Addr) (t0 t1 t2 t3 : Tok) (B : Nat) (tb : Tok) (ck : Int) (tc : Tok) (W0 : List UInt8) (tl : Tok) (items : List Value) (n : Nat) (o : List UInt8) (to : Tok)
    (hB1 : 8 ≤ B) (hB2 : B ≤ 14) (hck : ck = 1 ∨ ck = 2) (hl : W0.length ≤ 50000) (ho : o.length ≤ 15) (hi : items.length ≤ W0.length) (chunks : List (List UInt8)) (hb : BsAre items chunks) (hf : chunks.flatten = W0) (ne1 : @Ne Nat x dx) (ne2 : @Ne Nat x fl) (ne3 : @Ne Nat dx fl) :
    MSpec 710 5500 w 174 [.ref x, .bytes o.toArray to] (wObjs w x dx fl t0 t1 t2 t3 B tb ck tc W0.length tl items n)
      (fun v news' => v = .none ∧ ∃ tl' items' n' chunks' W', news' = wObjs w x dx fl t0 t1 t2 t3 B tb ck tc (W'.length : Int) tl' items' n' ∧ BsAre items' chunks' ∧ chunks'.flatten = W' ∧ items'.length ≤ W'.length ∧ W'.length ≤ W0.length + 896 ∧ Lay B ck W0 o false true W') := by
  w_top off
  k_with_none
  k_with "execs cons" => (((try k_fold); (try (conv => arg 6; dsimp only)); refine gen_toks ?_; intro tkκ; refine wpAny_execs_cons ?_))
  k_with "storeName" => ((k_here; (try (conv => arg 6; dsimp only)); k_dflt (first
  | ((with_reducible show wpAny _ _ (storeName _ _ (Value.int _ _)) _ _ _); (refine' store_int (by k_asm) (by k_asm) ?_ (by rfl) (by rfl); k_whole; intro h'κ t'κ tk'κ F'κ N'κ; (try k_sweep)))
  | ((with_reducible show wpAny _ _ (storeName _ _ (Value.bytes _ _)) _ _ _); (refine' store_bytes (by k_asm) (by k_asm) ?_ (by rfl) (by rfl); k_whole; intro h'κ t'κ tk'κ F'κ N'κ; (try k_sweep)))
  | (refine' store_any (by k_asm) (by k_asm) ?_ (by rfl) (by rfl); k_whole; intro h'κ tk'κ F'κ N'κ; (try k_sweep)))))
  k_with "binaryOp RShift int int" => ((with_reducible refine rshift_int (by decide) ?_))
  k_with "call builtin:len" => ((k_here; (with_reducible show wpAny _ _ (call (Value.builtin "len") [Value.bytes (List.toArray _) _]) _ _ _); k_dflt (refine' len_by (by ((try simp only [List.length_append, List.length_cons, List.length_nil, frag_length, le32_length, List.length_replicate]); omega)) ?_)))
  k_with "binaryOp Mod int int" => ((k_here; (with_reducible show wpAny _ _ (binaryOp Operator.Mod (Value.int _ _) (Value.int _ _)) _ _ _); k_dflt (refine' mod_nat (by exact rfl) (by exact rfl) (by omega) ?_; intro hmod'κ)))
  k_with "subscriptTail" => ((k_here; (with_reducible show wpAny _ _ (subscriptTail _ (Expr.Slice _ _ none _) (Value.bytes (List.toArray _) _) (Value.ref _)) _ _ _); (with_reducible rename Fr _ _ _ _ => F'κ); (with_reducible rename News _ _ _ _ => N'κ); (refine slice_by (s := ⟨_, _, _, _, _⟩) _ _ F'κ N'κ (by constructor) (by constructor) (by (first | omega | ((try simp only [List.length_append, List.length_cons, List.length_nil, List.length_replicate, List.length_take, List.length_drop, frag_length, le32_length, List.size_toArray]); omega))) (by first | exact rfl | exact clip_in (by (first | omega | ((try simp only [List.length_append, List.length_cons, List.length_nil, List.length_replicate, List.length_take, List.length_drop, frag_length, le32_length, List.size_toArray]); omega))) (by (first | omega | ((try simp only [List.length_append, List.length_cons, List.length_nil, List.length_replicate, List.length_take, List.length_drop, frag_length, le32_length, List.size_toArray]); omega)))) (by first | exact rfl | exact clip_in (by (first | omega | ((try simp only [List.length_append, List.length_cons, List.length_nil, List.length_replicate, List.length_take, List.length_drop, frag_length, le32_length, List.size_toArray]); omega))) (by (first | omega | ((try simp only [List.length_append, List.length_cons, List.length_nil, List.length_replicate, List.length_take, List.length_drop, frag_length, le32_length, List.size_toArray]); omega)))) ?_ (by with_unfolding_all rfl) (by intro _; with_unfolding_all rfl)); clear F'κ N'κ; intro h'κ t'κ k'κ F'κ N'κ))
  k_with "call type:bytes" => ((k_here; (with_reducible show wpAny _ _ (call (Value.type "bytes") [Value.int _ _]) _ _ _); k_dflt (refine' bytes_int (by (first | omega | ((try simp only [List.length_append, List.length_cons, List.length_nil, List.length_replicate, List.length_take, List.length_drop, frag_length, le32_length, List.size_toArray]); omega))) (by (first | omega | ((try simp only [List.length_append, List.length_cons, List.length_nil, List.length_replicate, List.length_take, List.length_drop, frag_length, le32_length, List.size_toArray]); omega))) ?_; intro t'κ k'κ)))
  k_with "call ref" => ((k_here; (with_reducible show wpAny _ _ (call (Value.ref 167) _) _ _ _); k_dflt (refine' MSpec.useL (by k_asm) (by k_asm) (by k_asm) (by k_asm) (by k_asm) (by exact rfl) (by first | exact rfl | assumption) (by exact rfl) (by exact Nat.le_of_ble_eq_true rfl) (by exact Nat.le_of_ble_eq_true rfl) (put_spec _ _ _ _ _ _ _ _ _ _ _ _ _ _ _ _ _ _ (by (first | omega | ((try simp only [List.length_append, List.length_cons, List.length_nil, List.length_replicate, List.length_take, List.length_drop, frag_length, le32_length, List.size_toArray]); omega))) (by (first | omega | ((try simp only [List.length_append, List.length_cons, List.length_nil, List.length_replicate, List.length_take, List.length_drop, frag_length, le32_length, List.size_toArray]); omega))) (by (first | omega | ((try simp only [List.length_append, List.length_cons, List.length_nil, List.length_replicate, List.length_take, List.length_drop, frag_length, le32_length, List.size_toArray]); omega))) (by assumption) (by assumption) (by assumption)) ?_; rintro v'κ n'κ h'κ tk'κ ⟨e1κ, tl'κ, e2κ⟩ F'κ N'κ G'κ; subst e1κ; subst e2κ; (try k_sweep))))
  k_with "call ref" => ((k_here; (with_reducible show wpAny _ _ (call (Value.ref 146) _) _ _ _); k_dflt (refine' MSpec.pureL (by k_asm) (by k_asm) (by k_asm) (by k_asm) (by k_asm) (by exact rfl) (by first | exact rfl | assumption) (by exact rfl) (by exact Nat.le_of_ble_eq_true rfl) (by exact Nat.le_of_ble_eq_true rfl) (fragment_of _ _ _ _ _ _ _ _ (by exact rfl) (by first | decide | exact kind_small _ _) (by (first | omega | ((try simp only [List.length_append, List.length_cons, List.length_nil, List.length_replicate, List.length_take, List.length_drop, frag_length, le32_length, List.size_toArray]); omega))) (by assumption)) ?_; rintro v'κ h'κ tk'κ ⟨nκ, e1κ, tκ, e2κ⟩ F'κ N'κ; subst e2κ; (try k_sweep))))
  k_with "exec While UnaryOp cons nil" => ((refine hold ?_))
  k_with "execs cons" => (((with_reducible show wpAny _ _ (execs _ _) (KswPost _ _ _ _ _ _ _ _ _ _ _ _) _ _); refine hold ?_))
  unfold MSpec
  k_fill
  intro mean mg mb gd cn cs a ccd cl outer A₀ base h₀ L m s Q E B F X N T hk hret
  refine wpAny_call ?_
  k_dflt (refine' enterM ?k1 ?k2 ?k3 ?k4 ?k5 ?kA ?kF ?kK ?k6 ?k7 ?k8 ?k9 ?kB ?_ ?c2 ?c3 ?c4 ?c5; (case kA => exact rfl); (case kF => exact rfl); (case kK => assumption); (case k1 => k_asm); (case k2 => k_asm); (case k3 => k_asm); (case k4 => k_asm); (case k5 => k_asm); (case k6 => k_is); (case k7 => k_is); (case k8 => ktr_room); (case k9 => first | exact BindsTo.of_eq rfl | exact binds_K (by k_in) rfl (by k_is) rfl rfl rfl); (case c5 => decide); (case kB => exact locs rfl); (case c2 => exact rfl); (case c3 => exact rfl); (case c4 => exact rfl); k_whole)
  intro gX LX hX FGX FX NX BX XX TX GX
  clear B F X N T
  (try dsimp only)
  (try k_fold)
  k_steps
  unfold Hold
  rename Fr _ _ _ _ => F0
  obtain ⟨ts, ta0, mm, F0k⟩ : ∃ (ts ta0 : Tok) (mm : Str → Option Value), Fr gX LX h'κ (kstB mm [(Str.ofString "self", Value.ref x), (Str.ofString "octets", .bytes o.toArray to), (Str.ofString "size", .int (o.toArray.size : Int) ts), (Str.ofString "at", .int ((0 : Nat) : Int) ta0), (Str.ofString "begun", .bool false), (Str.ofString "ended", .bool false)]) := ⟨_, _, _, fr_gen _ (by kst_all) F0⟩
  clear F0
  refine' ksw_while (σ := AddSt) (fun c => wObjs w x dx fl t0 t1 t2 t3 B tb ck tc (c.W.length : Int) c.tl c.items c.n) (fun c => [(Str.ofString "at", .int (c.pos : Int) c.tp), (Str.ofString "begun", .bool c.begun), (Str.ofString "ended", .bool c.ended)]) (fun _ => True) [Str.ofString "room", Str.ofString "upto", Str.ofString "kind"] (AddP B ck W0 o) (addM B o) ⟨items, n, W0, tl, 0, ta0, false, false⟩ ?kF ?kN trivial ?kk ?kp ?_
  case kF => assumption
  case kN => assumption
  case kk => kst_all
  case kp =>
    refine ⟨⟨chunks, hb, hf⟩, hi, Nat.zero_le _, ?_, fun _ W' h => h, fun h => by cases h⟩
    unfold addM
    simp only [Bool.false_eq_true, if_false]
    split <;> omega
  rintro ⟨items1, n1, W1, tl1, pos1, tp1, begun1, ended1⟩ u h1 tk1 _ hP1 F1 N1
  dsimp only at F1 N1
  obtain ⟨chunks1, hb1, hf1⟩ := hP1.chunks
  have hlen1 := hP1.len
  have hpos1 := hP1.pos
  have hroom1 := hP1.room
  dsimp only at hb1 hf1 hlen1 hpos1 hroom1
  cases ended1
  · k_steps
    unfold Hold
    refine wpA_cutI 2 (AddI gX LX s w x dx fl t0 t1 t2 t3 B tb ck tc (kstB mm [(Str.ofString "self", Value.ref x), (Str.ofString "octets", .bytes o.toArray to), (Str.ofString "size", .int (o.toArray.size : Int) ts), (Str.ofString "at", .int ((0 : Nat) : Int) ta0), (Str.ofString "begun", .bool false), (Str.ofString "ended", .bool false)]) (W1 ++ List.replicate (fillN B W1.length) 0) (items1.length + 1) fun ta _ => [(Str.ofString "room", .int (roomN B W1.length : Int) ta), (Str.ofString "self", .ref x), (Str.ofString "octets", .bytes o.toArray to), (Str.ofString "size", .int (o.toArray.size : Int) ts), (Str.ofString "at", .int (pos1 : Int) tp1), (Str.ofString "begun", .bool begun1)]) ?_ ?_
    dsimp only [List.take]
    · k_fold
      k_steps
      · rename Fr _ _ _ _ => F2
        rename News _ _ _ _ => N2
        rename (_ : Int) < 7 => hlt
        have hz := fill_yes hlt hmod'κ
        rw [hz] at N2
        rw [add_room hlt]
        exact AddI.intro (te := tp1) F2 N2 (by kst_all) (by intro z h1 h2 h3 h4; (simp only [List.contains_cons, List.contains_nil, Bool.or_false, Bool.or_eq_false_iff, beq_eq_false_iff_ne, ne_eq] at h4); simp [kstB, h1, h2, h3, h4]) hb1.snoc (by rw [List.flatten_append, hf1]; simp) (by simp) (by simp)
      · rename Fr _ _ _ _ => F2
        rename News _ _ _ _ => N2
        rename ¬ (_ : Int) < 7 => hlt
        have hz := fill_no hlt hmod'κ
        rw [add_room' hlt hmod'κ] at F2
        exact AddI.intro (te := tp1) F2 N2 (by kst_all) (by intro z h1 h2 h3 h4; (simp only [List.contains_cons, List.contains_nil, Bool.or_false, Bool.or_eq_false_iff, beq_eq_false_iff_ne, ne_eq] at h4); simp [kstB, h1, h2, h3, h4]) hb1 (by rw [hz]; simpa using hf1) (by omega) (by rw [hz]; simp)
    dsimp only [List.drop]
    rintro s' ⟨h2, tk2, m2, items2, n2, chunks2, tl2, ta2, _, rfl, F2, hm2, hr2, N2, hb2, hf2, hl2⟩
    clear F1 N1
    dsimp only at hm2
    replace F2 := fr_gen _ hm2 F2
    have h7 := roomN_lo (n := W1.length) hB1
    obtain ⟨part, hpart⟩ : ∃ p, p = min (o.length - pos1) (roomN B W1.length - 7) := ⟨_, rfl⟩
    have hpo : pos1 + part ≤ o.length := by omega
    obtain ⟨eb, heb⟩ : ∃ e, e = decide (pos1 + part = o.length) := ⟨_, rfl⟩
    refine wpA_cutI 2 (AddI gX LX s w x dx fl t0 t1 t2 t3 B tb ck tc (kstB mm [(Str.ofString "self", Value.ref x), (Str.ofString "octets", .bytes o.toArray to), (Str.ofString "size", .int (o.toArray.size : Int) ts), (Str.ofString "at", .int ((0 : Nat) : Int) ta0), (Str.ofString "begun", .bool false), (Str.ofString "ended", .bool false)]) (W1 ++ List.replicate (fillN B W1.length) 0) (items1.length + 1) fun ta _ => [(Str.ofString "upto", .int ((pos1 + part : Nat) : Int) ta), (Str.ofString "ended", .bool eb), (Str.ofString "self", .ref x), (Str.ofString "octets", .bytes o.toArray to), (Str.ofString "at", .int (pos1 : Int) tp1), (Str.ofString "begun", .bool begun1)]) ?_ ?_
    dsimp only [List.take]
    · k_fold
      k_steps
      (try refine ⟨rfl, ?_⟩)
      rename Fr _ _ _ _ => F3
      rename News _ _ _ _ => N3
      rw [List.size_toArray, add_upto h7 hpos1, ← hpart, beq_nat, ← heb] at F3
      exact AddI.intro (te := tp1) F3 N3 (by kst_all) (by intro z h1 h2 h3 h4; have h5 := h4; (simp only [List.contains_cons, List.contains_nil, Bool.or_false, Bool.or_eq_false_iff, beq_eq_false_iff_ne, ne_eq] at h5); (show (if z = _ then _ else (if z = _ then _ else _)) = _); rw [if_neg h3, if_neg h5.2.1]; exact (congrFun (kst_self hm2) z).trans (hr2 z h1 h2 h3 h4)) hb2 hf2 hl2 rfl
    dsimp only [List.drop]
    rintro s' ⟨h3, tk3, m3, items3, n3, chunks3, tl3, ta3, _, rfl, F3, hm3, hr3, N3, hb3, hf3, hl3⟩
    clear F2 N2 hr2 hb2 hf2
    dsimp only at hm3
    replace F3 := fr_gen _ hm3 F3
    refine wpA_cutI 1 (AddI gX LX s w x dx fl t0 t1 t2 t3 B tb ck tc (kstB mm [(Str.ofString "self", Value.ref x), (Str.ofString "octets", .bytes o.toArray to), (Str.ofString "size", .int (o.toArray.size : Int) ts), (Str.ofString "at", .int ((0 : Nat) : Int) ta0), (Str.ofString "begun", .bool false), (Str.ofString "ended", .bool false)]) (W1 ++ List.replicate (fillN B W1.length) 0) (items1.length + 1) fun ta _ => [(Str.ofString "kind", .int (kindOf begun1 eb : Int) ta), (Str.ofString "upto", .int ((pos1 + part : Nat) : Int) ta3), (Str.ofString "ended", .bool eb), (Str.ofString "self", .ref x), (Str.ofString "octets", .bytes o.toArray to), (Str.ofString "at", .int (pos1 : Int) tp1)]) ?_ ?_
    dsimp only [List.take]
    · k_fold
      clear hP1 heb
      cases begun1 <;> cases eb
      all_goals
        k_steps
        (try refine ⟨rfl, ?_⟩)
        rename Fr _ _ _ _ => F4
        rename News _ _ _ _ => N4
        exact AddI.intro (te := tp1) F4 N4 (by kst_all) (by intro z h1 h2 h3 h4; have h5 := h4; (simp only [List.contains_cons, List.contains_nil, Bool.or_false, Bool.or_eq_false_iff, beq_eq_false_iff_ne, ne_eq] at h5); (show (if z = _ then _ else _) = _); rw [if_neg h5.2.2]; exact (congrFun (kst_self hm3) z).trans (hr3 z h1 h2 h3 h4)) hb3 hf3 hl3 rfl
    dsimp only [List.drop]
    rintro s' ⟨h4, tk4, m4, items4, n4, chunks4, tl4, ta4, _, rfl, F4, hm4, hr4, N4, hb4, hf4, hl4⟩
    clear F3 N3 hr3 hb3 hf3
    dsimp only at hm4
    replace F4 := fr_gen _ hm4 F4
    have hw4 : (W1 ++ List.replicate (fillN B W1.length) (0 : UInt8)).length ≤ 90000 := by
      have := fillN_hi (B := B) (n := W1.length)
      rw [List.length_append, List.length_replicate]
      omega
    have hi4 : items4.length ≤ 90000 := by omega
    show wpAny _ _ _ _ _ _
    k_fold
    k_with "execs cons" => ((try (conv => arg 6; dsimp only)); refine gen_toks ?_; intro tkκ; refine wpAny_execs_cons ?_)
    k_steps
    rename Fr _ _ _ _ => F5
    rename News _ _ _ _ => N5
    exact add_close hP1 rfl hB1 hB2 ho F5 N5 rfl rfl rfl (by intro z h1 h2 h3 h4; (show (if z = _ then _ else if z = _ then _ else _) = _); rw [if_neg h2, if_neg h1]; exact (congrFun (kst_self hm4) z).trans (hr4 z h1 h2 h3 h4)) part hpart rfl heb hb4.snoc (add_flat hf4 rfl hpo rfl) (by rw [List.length_append]; simp only [List.length_cons, List.length_nil]; omega) (len_one hf4)
  · k_steps
    (try dsimp only)
    (try k_unfold)
    (try dsimp only)
    refine leaveK_ (by assumption) (by assumption) (fun kF kN => ?_)
    show Q _ _
    exact hret _ _ _ _ ⟨rfl, _, _, _, chunks1, W1, rfl, hb1, hf1, hlen1, by omega, hP1.done rfl⟩ kF kN (fun b o e n => Fr.keep (by assumption) b o (GX b o e n))
end

/-! Piece -/
theorem step_int (c : Nat) : Builtin.bitXor ((c : Int).fdiv 2) (2197175160 * (c : Int).fmod 2) = ((cStep c : Nat) : Int) := by
  have e1 : (c : Int).fdiv 2 = ((c / 2 : Nat) : Int) := fdiv_nat c 2
  have e2 : (c : Int).fmod 2 = ((c % 2 : Nat) : Int) := fmod_nat c 2
  have e3 : (2197175160 : Int) * ((c % 2 : Nat) : Int) = ((2197175160 * (c % 2) : Nat) : Int) := by omega
  rw [e1, e2, e3, bitXor_nat]
  rfl
theorem chk2_law (b : List UInt8) : (((sumB b : Nat) : Int) * 251 + (b.length : Int) * 65537 + 7).fmod 4294967296 = ((chkN 2 b : Nat) : Int) := by
  unfold chkN
  rw [if_pos rfl]
  have := fmod_nat (sumB b * 251 + b.length * 65537 + 7) 4294967296
  rw [← this]
  congr 1
theorem chk1_law {f : Int} {b : List UInt8} (hf : f = ((cFold 4294967295 (List.map Int.toNat (List.map (fun c : UInt8 => (c.toNat : Int)) b)) : Nat) : Int)) :
    ((4294967295 - f).fdiv 32768 + (4294967295 - f).fmod 32768 * 131072 + 2726488792).fmod 4294967296 = ((chkN 1 b : Nat) : Int) := by
  have e : List.map Int.toNat (List.map (fun c : UInt8 => (c.toNat : Int)) b) = b.map UInt8.toNat := by
    rw [List.map_map]; rfl
  rw [e] at hf
  have hl := cF_lt b
  unfold chkN maskN
  rw [if_neg (by decide)]
  have e0 : (4294967295 : Int) - f = ((4294967295 - cFold 4294967295 (b.map UInt8.toNat) : Nat) : Int) := by omega
  rw [e0]
  have e1 := fdiv_nat (4294967295 - cFold 4294967295 (b.map UInt8.toNat)) 32768
  have e2 := fmod_nat (4294967295 - cFold 4294967295 (b.map UInt8.toNat)) 32768
  have e3 := fmod_nat ((4294967295 - cFold 4294967295 (b.map UInt8.toNat)) / 32768 + (4294967295 - cFold 4294967295 (b.map UInt8.toNat)) % 32768 * 131072 + 2726488792) 4294967296
  have c1 : ((32768 : Nat) : Int) = 32768 := rfl
  have c2 : ((4294967296 : Nat) : Int) = 4294967296 := rfl
  rw [c1] at e1 e2
  rw [c2] at e3
  rw [e1, e2, ← e3]
  congr 1
section
variable {prog : Program} {w : World} {A : Around} {E : Value → Shared → Prop} {s : Shared} {h₀ : Heap} {L : Addr} {m : Str → Option Value} {news : List (Addr × Obj)}
theorem bytes_six {l : Addr} {e : Int} {r z : Nat} {t0 t1 t2 t3 t4 t5 : Tok} {n : Nat} {Q : Value → Shared → Prop} (F : Fr h₀ L s.heap m) (N : News h₀ L s.heap news)
    (hm : (l, listOf #[.int (e.fmod 256) t0, .int ((e.fdiv 256).fmod 256) t1, .int ((e.fdiv 65536).fmod 256) t2, .int (e.fdiv 16777216) t3, .int (z : Int) t4, .int 0 t5] n) ∈ news)
    (he : e = ((r : Nat) : Int)) (hr : r < 4294967296) (hz : z < 256) (hh : A.handled = none)
    (h : ∀ h' t k', Fr h₀ L h' m → News h₀ L h' news → Q (.bytes (List.toArray (le32 r ++ [z.toUInt8, 0])) t) { s with heap := h', toks := k' }) : wpAny (model prog w) A (call (.type "bytes") [.ref l]) Q E s := by
  subst he
  have e1 := fmod_nat r 256
  have e2 := fdiv_nat r 256
  have e3 := fdiv_nat r 65536
  have e4 := fdiv_nat r 16777216
  have e5 := fmod_nat (r / 256) 256
  have e6 := fmod_nat (r / 65536) 256
  have c1 : ((256 : Nat) : Int) = 256 := rfl
  have c2 : ((65536 : Nat) : Int) = 65536 := rfl
  have c3 : ((16777216 : Nat) : Int) = 16777216 := rfl
  rw [c1] at e1 e2 e5 e6
  rw [c2] at e3
  rw [c3] at e4
  rw [e1, e2, e3, e4, e5, e6] at hm
  refine bytes_K (ns := [((r % 256 : Nat) : Int), ((r / 256 % 256 : Nat) : Int), ((r / 65536 % 256 : Nat) : Int), ((r / 16777216 : Nat) : Int), (z : Int), 0]) (vs := [.int ((r % 256 : Nat) : Int) t0, .int ((r / 256 % 256 : Nat) : Int) t1, .int ((r / 65536 % 256 : Nat) : Int) t2, .int ((r / 16777216 : Nat) : Int) t3, .int (z : Int) t4, .int 0 t5]) F N (News.isList N hm) (.cons _ _ (.cons _ _ (.cons _ _ (.cons _ _ (.cons _ _ (.cons _ _ .nil)))))) ?_ (Nat.le_of_ble_eq_true rfl) hh fun h' t k' F' N' _ => ?_
  · intro x hx
    simp only [List.mem_cons, List.not_mem_nil, or_false] at hx
    rcases hx with rfl | rfl | rfl | rfl | rfl | rfl <;> omega
  · exact h h' t k' F' N'
end
section
set_option maxHeartbeats 8000000 in
theorem piece2 (w : World) (kind : Nat) (tk : Tok) (x : List UInt8) (tx : Tok) (tc : Tok) (hk : kind < 256) (hx : x.length ≤ 15) :
    MSpec 740 5700 w 251 [.int (kind : Int) tk, .bytes x.toArray tx, .int 2 tc] [] (fun v news' => news' = [] ∧ ∃ t, v = .bytes (frag 2 kind x).toArray t) := by
  w_top off
  k_with_none
  k_with "execs cons" => (((try (conv => arg 6; dsimp only)); refine gen_toks ?_; intro tkκ; refine wpAny_execs_cons ?_))
  k_with "storeName" => ((k_here; (try (conv => arg 6; dsimp only)); k_dflt (first
  | ((with_reducible show wpAny _ _ (storeName _ _ (Value.int _ _)) _ _ _); (refine' store_int (by k_asm) (by k_asm) ?_ (by rfl) (by rfl); k_whole; intro h'κ t'κ tk'κ F'κ N'κ; (try k_sweep)))
  | ((with_reducible show wpAny _ _ (storeName _ _ (Value.bytes _ _)) _ _ _); (refine' store_bytes (by k_asm) (by k_asm) ?_ (by rfl) (by rfl); k_whole; intro h'κ t'κ tk'κ F'κ N'κ; (try k_sweep)))
  | (refine' store_any (by k_asm) (by k_asm) ?_ (by rfl) (by rfl); k_whole; intro h'κ tk'κ F'κ N'κ; (try k_sweep)))))
  k_with "binaryOp RShift int int" => ((with_reducible refine rshift_int (by decide) ?_))
  k_with "call builtin:sum" => ((k_here; (with_reducible show wpAny _ _ (call (Value.builtin "sum") [Value.bytes _ _]) _ _ _); k_dflt (refine' sum_bytes (by k_asm) (by k_asm) (by exact rfl) (by (simp only [List.length_append, List.length_cons, List.length_nil]; omega)) ?_; intro h'κ tk'κ t'κ F'κ N'κ; (try k_sweep))))
  k_with "call builtin:len" => ((k_here; (with_reducible show wpAny _ _ (call (Value.builtin "len") [Value.bytes (List.toArray _) _]) _ _ _); k_dflt (refine' len_by (by (simp only [List.length_append, List.length_cons, List.length_nil, frag_length, le32_length, List.length_replicate]; omega)) ?_)))
  k_with "binaryOp Add bytes bytes" => ((k_here; (with_reducible show wpAny _ _ (binaryOp Operator.Add (Value.bytes (List.toArray _) _) (Value.bytes (List.toArray _) _)) _ _ _); k_dflt (refine' add_by (by (simp only [List.length_append, List.length_cons, List.length_nil, frag_length, le32_length, List.length_replicate]; omega)) ?_; intro t'κ k'κ)))
  k_with "call type:bytes" => ((k_here; (with_reducible show wpAny _ _ (call (Value.type "bytes") [Value.ref _]) _ _ _); k_dflt (refine' bytes_six (by k_asm) (by k_asm) (by exact List.Mem.head _) (by first | exact chk2_law _ | exact chk1_law (by assumption)) (by exact chk_lt _ _) (by (rw [List.size_toArray]; omega)) (by exact rfl) ?_; intro h'κ t'κ k'κ F'κ N'κ; (try k_sweep))))
  k_with "call type:bytes" => ((k_here; (with_reducible show wpAny _ _ (call (Value.type "bytes") [Value.ref _]) _ _ _); k_dflt (refine' bytes_one (by k_asm) (by k_asm) (by exact List.Mem.head _) (by assumption) (by exact rfl) ?_; intro h'κ t'κ k'κ F'κ N'κ; (try k_sweep))))
  unfold MSpec
  k_fill
  intro mean mg mb gd cn cs a ccd cl outer A₀ base h₀ L m s Q E B F X N T hk hret
  refine wpAny_call ?_
  k_dflt (refine' enterM ?k1 ?k2 ?k3 ?k4 ?k5 ?kA ?kF ?kK ?k6 ?k7 ?k8 ?k9 ?kB ?_ ?c2 ?c3 ?c4 ?c5; (case kA => exact rfl); (case kF => exact rfl); (case kK => assumption); (case k1 => k_asm); (case k2 => k_asm); (case k3 => k_asm); (case k4 => k_asm); (case k5 => k_asm); (case k6 => k_is); (case k7 => k_is); (case k8 => ktr_room); (case k9 => first | exact BindsTo.of_eq rfl | exact binds_K (by k_in) rfl (by k_is) rfl rfl rfl); (case c5 => decide); (case kB => exact locs rfl); (case c2 => exact rfl); (case c3 => exact rfl); (case c4 => exact rfl); k_whole)
  intro gX LX hX FGX FX NX BX XX TX GX
  clear B F X N T
  (try dsimp only)
  (try k_fold)
  repeat' (first | (k_unfold; (try dsimp only)) | walk1 | (dsimp only; walk1))
  (try dsimp only)
  (try k_unfold)
  (try dsimp only)
  refine leaveK_ (by assumption) (by assumption) (fun kF kN => ?_)
  show Q _ _
  have e : (le32 (chkN 2 (kind.toUInt8 :: x)) ++ [x.toArray.size.toUInt8, 0] ++ ([kind.toUInt8] ++ x)) = frag 2 kind x := rfl
  rw [e]
  exact hret _ [] _ _ ⟨rfl, _, rfl⟩ kF News.nil (fun b o e n => Fr.keep (by assumption) b o (GX b o e n))
end

/-! Piece1 -/
theorem piece_turn {f k : Int} {pre : List Int} (hf : f = ((cFold 4294967295 (pre.map Int.toNat) : Nat) : Int)) (h0 : 0 ≤ k) :
    List.foldl (fun a' k' => Builtin.bitXor (Int.fdiv a' 2) (2197175160 * Int.fmod a' 2)) (Builtin.bitXor f k) (rangeKs 0 (8 - 0 : Int).toNat) = ((cFold 4294967295 ((pre ++ [k]).map Int.toNat) : Nat) : Int) := by
  obtain ⟨j, rfl⟩ : ∃ j : Nat, k = (j : Int) := ⟨k.toNat, by omega⟩
  subst hf
  have e : rangeKs 0 (8 - 0 : Int).toNat = [0, 1, 2, 3, 4, 5, 6, 7] := by decide
  rw [e, bitXor_nat]
  simp only [List.foldl, step_int]
  unfold cFold
  rw [List.map_append, List.foldl_append]
  rfl
section
set_option maxHeartbeats 8000000 in
theorem piece1 (w : World) (kind : Nat) (tk : Tok) (x : List UInt8) (tx : Tok) (tc : Tok) (hk : kind < 256) (hx : x.length ≤ 15) :
    MSpec 740 5700 w 251 [.int (kind : Int) tk, .bytes x.toArray tx, .int 1 tc] [] (fun v news' => news' = [] ∧ ∃ t, v = .bytes (frag 1 kind x).toArray t) := by
  w_top off
  k_with_none
  k_with "execs cons" => (((try (conv => arg 6; dsimp only)); refine gen_toks ?_; intro tkκ; refine wpAny_execs_cons ?_))
  k_with "storeName" => ((k_here; (try (conv => arg 6; dsimp only)); k_dflt (first
  | ((with_reducible show wpAny _ _ (storeName _ _ (Value.int _ _)) _ _ _); (refine' store_int (by k_asm) (by k_asm) ?_ (by rfl) (by rfl); k_whole; intro h'κ t'κ tk'κ F'κ N'κ; (try k_sweep)))
  | ((with_reducible show wpAny _ _ (storeName _ _ (Value.bytes _ _)) _ _ _); (refine' store_bytes (by k_asm) (by k_asm) ?_ (by rfl) (by rfl); k_whole; intro h'κ t'κ tk'κ F'κ N'κ; (try k_sweep)))
  | (refine' store_any (by k_asm) (by k_asm) ?_ (by rfl) (by rfl); k_whole; intro h'κ tk'κ F'κ N'κ; (try k_sweep)))))
  k_with "binaryOp RShift int int" => ((with_reducible refine rshift_int (by decide) ?_))
  k_with "call builtin:sum" => ((k_here; (with_reducible show wpAny _ _ (call (Value.builtin "sum") [Value.bytes _ _]) _ _ _); k_dflt (refine' sum_bytes (by k_asm) (by k_asm) (by exact rfl) (by (simp only [List.length_append, List.length_cons, List.length_nil]; omega)) ?_; intro h'κ tk'κ t'κ F'κ N'κ; (try k_sweep))))
  k_with "call builtin:len" => ((k_here; (with_reducible show wpAny _ _ (call (Value.builtin "len") [Value.bytes (List.toArray _) _]) _ _ _); k_dflt (refine' len_by (by (simp only [List.length_append, List.length_cons, List.length_nil, frag_length, le32_length, List.length_replicate]; omega)) ?_)))
  k_with "binaryOp Add bytes bytes" => ((k_here; (with_reducible show wpAny _ _ (binaryOp Operator.Add (Value.bytes (List.toArray _) _) (Value.bytes (List.toArray _) _)) _ _ _); k_dflt (refine' add_by (by (simp only [List.length_append, List.length_cons, List.length_nil, frag_length, le32_length, List.length_replicate]; omega)) ?_; intro t'κ k'κ)))
  k_with "call type:bytes" => ((k_here; (with_reducible show wpAny _ _ (call (Value.type "bytes") [Value.ref _]) _ _ _); k_dflt (refine' bytes_six (by k_asm) (by k_asm) (by exact List.Mem.head _) (by first | exact chk2_law _ | exact chk1_law (by assumption)) (by exact chk_lt _ _) (by (rw [List.size_toArray]; omega)) (by exact rfl) ?_; intro h'κ t'κ k'κ F'κ N'κ; (try k_sweep))))
  k_with "call type:bytes" => ((k_here; (with_reducible show wpAny _ _ (call (Value.type "bytes") [Value.ref _]) _ _ _); k_dflt (refine' bytes_one (by k_asm) (by k_asm) (by exact List.Mem.head _) (by assumption) (by exact rfl) ?_; intro h'κ t'κ k'κ F'κ N'κ; (try k_sweep))))
  unfold MSpec
  k_fill
  intro mean mg mb gd cn cs a ccd cl outer A₀ base h₀ L m s Q E B F X N T hk hret
  refine wpAny_call ?_
  k_dflt (refine' enterM ?k1 ?k2 ?k3 ?k4 ?k5 ?kA ?kF ?kK ?k6 ?k7 ?k8 ?k9 ?kB ?_ ?c2 ?c3 ?c4 ?c5; (case kA => exact rfl); (case kF => exact rfl); (case kK => assumption); (case k1 => k_asm); (case k2 => k_asm); (case k3 => k_asm); (case k4 => k_asm); (case k5 => k_asm); (case k6 => k_is); (case k7 => k_is); (case k8 => ktr_room); (case k9 => first | exact BindsTo.of_eq rfl | exact binds_K (by k_in) rfl (by k_is) rfl rfl rfl); (case c5 => decide); (case kB => exact locs rfl); (case c2 => exact rfl); (case c3 => exact rfl); (case c4 => exact rfl); k_whole)
  intro gX LX hX FGX FX NX BX XX TX GX
  clear B F X N T
  (try dsimp only)
  (try k_fold)
  k_with "exec For Name Call cons nil" => kpr_for
  k_with "pyIter ref" => kpr_short
  k_with "pyIter bytes" => k_state (fun pre c => c = ((cFold 4294967295 (pre.map Int.toNat) : Nat) : Int)) "rest"
  k_with "state" => exact piece_turn (by assumption) (by assumption)
  k_steps
  (try dsimp only)
  (try k_unfold)
  (try dsimp only)
  refine leaveK_ (by assumption) (by assumption) (fun kF kN => ?_)
  show Q _ _
  have e : (le32 (chkN 1 ([kind.toUInt8] ++ x)) ++ [x.toArray.size.toUInt8, 0] ++ ([kind.toUInt8] ++ x)) = frag 1 kind x := rfl
  rw [e]
  exact hret _ [] _ _ ⟨rfl, _, rfl⟩ kF News.nil (fun b o e n => Fr.keep (by assumption) b o (GX b o e n))
end
theorem piece_spec (w : World) (kind : Nat) (tk : Tok) (x : List UInt8) (tx : Tok) (check : Int) (tc : Tok) (hk : kind < 256) (hx : x.length ≤ 15) (hc : check = 1 ∨ check = 2) :
    MSpec 740 5700 w 251 [.int (kind : Int) tk, .bytes x.toArray tx, .int check tc] [] (fun v news' => news' = [] ∧ ∃ t, v = .bytes (frag check kind x).toArray t) := by
  rcases hc with rfl | rfl
  · exact piece1 w kind tk x tx tc hk hx
  · exact piece2 w kind tk x tx tc hk hx

/-! Draw -/
theorem draw_nat {ns : List Int} {i : Nat} (hb : ∀ k ∈ ns, 0 ≤ k ∧ k ≤ 999982) : ∃ z : Nat, ns.getD (((i : Int)).fmod (ns.length : Int)).toNat 0 + 31 * ((i : Int)).fdiv (ns.length : Int) = (z : Int) ∧ z ≤ 999982 + 31 * i := by
  have e : ((i : Int)).fdiv (ns.length : Int) = ((i / ns.length : Nat) : Int) := fdiv_nat i ns.length
  have hle := Nat.div_le_self i ns.length
  rw [e]
  generalize i / ns.length = q at hle ⊢
  generalize (((i : Int)).fmod (ns.length : Int)).toNat = j
  have hg : 0 ≤ ns.getD j 0 ∧ ns.getD j 0 ≤ 999982 := by
    rw [List.getD_eq_getElem?_getD]
    cases hx : ns[j]? with
    | none => exact ⟨by decide, by decide⟩
    | some v => exact hb v (List.mem_of_getElem? hx)
  refine ⟨(ns.getD j 0 + 31 * (q : Int)).toNat, ?_, ?_⟩ <;> omega
section
set_option maxHeartbeats 8000000 in
theorem draw_spec (w : World) (nl : Addr) (vs : List Value) (ns : List Int) (n : Nat) (i : Nat) (ti : Tok) (hi : i ≤ 100000) (hns : IntsAre vs ns) (hb : ∀ k ∈ ns, 0 ≤ k ∧ k ≤ 999982) (hz : ns ≠ []) (hl : ns.length ≤ 1000) :
    MSpec 740 5700 w 244 [.ref nl, .int (i : Int) ti] [(nl, listOf vs.toArray n)]
      (fun v news' => news' = [(nl, listOf vs.toArray n)] ∧ ∃ (z : Nat) (t : Tok), v = .int (z : Int) t ∧ z ≤ 999982 + 31 * i) := by
  w_top off
  k_with_none
  k_with "execs cons" => (((try k_fold); (try (conv => arg 6; dsimp only)); refine gen_toks ?_; intro tkκ; refine wpAny_execs_cons ?_))
  k_with "storeName" => ((k_here; (try (conv => arg 6; dsimp only)); k_dflt (first
  | ((with_reducible show wpAny _ _ (storeName _ _ (Value.int _ _)) _ _ _); (refine' store_intL (by k_asm) (by k_asm) ?_ (by rfl) (by rfl); k_whole; intro h'κ t'κ tk'κ m'κ F'κ N'κ; (try k_sweep)))
  | ((with_reducible show wpAny _ _ (storeName _ _ (Value.bytes _ _)) _ _ _); (refine' store_bytesL (by k_asm) (by k_asm) ?_ (by rfl) (by rfl); k_whole; intro h'κ t'κ tk'κ m'κ F'κ N'κ; (try k_sweep)))
  | (refine' store_anyL (by k_asm) (by k_asm) ?_ (by rfl) (by rfl); k_whole; intro h'κ tk'κ m'κ F'κ N'κ; (try k_sweep)))))
  k_with "binaryOp RShift int int" => ((with_reducible refine rshift_int (by decide) ?_))
  unfold MSpec
  k_fill
  intro mean mg mb gd cn cs a ccd cl outer A₀ base h₀ L m s Q E B F X N T hk hret
  refine wpAny_call ?_
  k_dflt (refine' enterM ?k1 ?k2 ?k3 ?k4 ?k5 ?kA ?kF ?kK ?k6 ?k7 ?k8 ?k9 ?kB ?_ ?c2 ?c3 ?c4 ?c5; (case kA => exact rfl); (case kF => exact rfl); (case kK => assumption); (case k1 => k_asm); (case k2 => k_asm); (case k3 => k_asm); (case k4 => k_asm); (case k5 => k_asm); (case k6 => k_is); (case k7 => k_is); (case k8 => ktr_room); (case k9 => first | exact BindsTo.of_eq rfl | exact binds_K (by k_in) rfl (by k_is) rfl rfl rfl); (case c5 => decide); (case kB => exact locs rfl); (case c2 => exact rfl); (case c3 => exact rfl); (case c4 => exact rfl); k_whole)
  intro gX LX hX FGX FX NX BX XX TX GX
  clear B F X N T
  (try dsimp only)
  (try k_fold)
  have hln : 1 ≤ ns.length := by
    cases ns with
    | nil => exact absurd rfl hz
    | cons _ _ => simp
  have hlv := hns.length
  k_steps
  (try dsimp only)
  (try k_unfold)
  (try dsimp only)
  refine leaveK_ (by assumption) (by assumption) (fun kF kN => ?_)
  show Q _ _
  obtain ⟨z, hz1, hz2⟩ := draw_nat (ns := ns) (i := i) hb
  rw [hz1]
  exact hret _ [(nl, listOf vs.toArray n)] _ _ ⟨rfl, z, _, rfl, hz2⟩ kF kN (fun b o e n => Fr.keep (by assumption) b o (GX b o e n))
end

/-! LawC -/
theorem draw_int (w : World) (nl : Addr) (vs : List Value) (ns : List Int) (n : Nat) (k : Int) (ti : Tok) (hns : IntsAre vs ns) (h0 : 0 ≤ k) (hi : k ≤ 100000) (hb : ∀ k ∈ ns, 0 ≤ k ∧ k ≤ 999982) (hz : ns ≠ []) (hl : ns.length ≤ 1000) :
    MSpec 740 5700 w 244 [.ref nl, .int k ti] [(nl, listOf vs.toArray n)]
      (fun v news' => news' = [(nl, listOf vs.toArray n)] ∧ ∃ (z : Nat) (t : Tok), v = .int (z : Int) t ∧ z ≤ 5000000) := by
  obtain ⟨i, rfl⟩ : ∃ i : Nat, k = (i : Int) := ⟨k.toNat, by omega⟩
  intro mean mg mb gd cn cs a ccd cl outer A₀ base h₀ L m s Q E B F X N T hk hret
  exact draw_spec w nl vs ns n i ti (by omega) hns hb hz hl mean mg mb gd cn cs a ccd cl outer A₀ base h₀ L m s Q E B F X N T hk fun v news' h' tk' ⟨h1, z, t, h2, h3⟩ => hret v news' h' tk' ⟨h1, z, t, h2, by omega⟩

/-! LawD -/
theorem ParI.intro {h₀ : Heap} {L : Addr} {s : Shared} {nl cz : Addr} {ol oz : Obj} {kb ck kc : Int} {tb tc tn : Tok} {h : Heap} {tk : Nat} {m : Str → Option Value} (F : Fr h₀ L h m) (hm : ∀ p ∈ [(Str.ofString "nums", Value.ref nl), (Str.ofString "block", .int kb tb), (Str.ofString "check", .int ck tc), (Str.ofString "count", .int kc tn)], m p.1 = some p.2) (N : News h₀ L h [(nl, ol), (cz, oz)])
    (h1 : 8 ≤ kb ∧ kb ≤ 14) (hck : ck = 1 ∨ ck = 2) (h2 : 1 ≤ kc ∧ kc ≤ 3) : ParI h₀ L s nl cz ol oz { s with heap := h, toks := tk } := by
  obtain ⟨B, rfl⟩ : ∃ n : Nat, kb = (n : Int) := ⟨kb.toNat, by omega⟩
  obtain ⟨c, rfl⟩ : ∃ n : Nat, kc = (n : Int) := ⟨kc.toNat, by omega⟩
  exact ⟨B, tb, ck, tc, c, tn, ⟨h, tk, m, rfl, F, hm, N⟩, by omega, by omega, hck, ⟨by omega, by omega⟩⟩
theorem fm7 (q : Int) : 8 ≤ 8 + q.fmod 7 ∧ 8 + q.fmod 7 ≤ 14 := by
  have := fmod_pos' (a := q) (b := 7) (by decide)
  omega
theorem fm3 (q : Int) : 1 ≤ 1 + q.fmod 3 ∧ 1 + q.fmod 3 ≤ 3 := by
  have := fmod_pos' (a := q) (b := 3) (by decide)
  omega
/-- the cutting from the start, with the word whether it is the plain one -/
inductive CutP (B : Nat) (c : Int) : List (List UInt8) → List Int → Bool → List UInt8 → Prop
  | nil : CutP B c [] [] true []
  | snoc {W W' r : List UInt8} {rs : List (List UInt8)} {es : List Int} {p q : Bool} (h : CutP B c rs es p W) (l : Lay B c W r false q W') : CutP B c (rs ++ [r]) (es ++ [(W'.length : Int)]) (p && q) W'
theorem CutP.cut {B : Nat} {c : Int} {W : List UInt8} {rs : List (List UInt8)} {es : List Int} {p : Bool} (h : CutP B c rs es p W) : Cut B c [] rs es W := by
  induction h with
  | nil => exact .nil
  | snoc _ l ih => exact ih.snoc l
theorem CutP.len {B : Nat} {c : Int} {W : List UInt8} {rs : List (List UInt8)} {es : List Int} {p : Bool} (h : CutP B c rs es p W) : es.length = rs.length := by
  induction h with
  | nil => rfl
  | snoc _ l ih => simp [ih]
/-- the written form is the cutting's own just where the cutting is plain -/
theorem cutP_same' {B : Nat} {c : Int} {rs : List (List UInt8)} {es : List Int} {p : Bool} {W : List UInt8} (h : CutP B c rs es p W) : (∀ r ∈ rs, r.length < 256) → ∀ {t : Bool} {fs : List Int} {V : List UInt8}, CutP B c rs fs t V → t = true → (p = true → V = W) ∧ (p = false → Apart V W) := by
  induction h with
  | nil =>
    intro _ t fs V hV ht
    generalize hr : ([] : List (List UInt8)) = r at hV
    cases hV with
    | nil => exact ⟨fun _ => rfl, fun h => by cases h⟩
    | snoc _ _ => simp at hr
  | @snoc W W' r rs es p q _ l ih =>
    intro hsm t fs V hV ht
    generalize hr : rs ++ [r] = rr at hV
    cases hV with
    | nil => simp at hr
    | @snoc V0 V' r' rs' fs' p' q' hV0 l' =>
      obtain ⟨rfl, e⟩ := List.append_inj' hr rfl
      obtain rfl : r = r' := by simpa using e
      obtain ⟨rfl, rfl⟩ : p' = true ∧ q' = true := by simpa [Bool.and_eq_true] using ht
      obtain ⟨h1, h2⟩ := ih (fun r hr => hsm r (by simp [hr])) hV0 rfl
      have hrl : r.length < 256 := hsm r (by simp)
      cases p with
      | true =>
        obtain rfl := h1 rfl
        obtain ⟨h3, h4⟩ := lay_same l hrl l'
        simpa using ⟨h3, h4⟩
      | false => exact ⟨fun h => by simp at h, fun _ => (h2 rfl).ext l'.pre l.pre⟩
theorem cutP_same {B : Nat} {c : Int} {rs : List (List UInt8)} {es : List Int} {p : Bool} {W : List UInt8} (h : CutP B c rs es p W) (hs : ∀ r ∈ rs, r.length < 256) {fs : List Int} {V : List UInt8} (hV : CutP B c rs fs true V) : (p = true → V = W) ∧ (p = false → Apart V W) := cutP_same' h hs hV rfl
theorem cutP_word {B : Nat} {c : Int} {rs : List (List UInt8)} {es fs : List Int} {p : Bool} {W V : List UInt8} (h : CutP B c rs es p W) (hsm : ∀ r ∈ rs, r.length ≤ 15) (hV : CutP B c rs fs true V) : (V = W) ↔ p = true := by
  obtain ⟨h1, h2⟩ := cutP_same h (fun r hr => Nat.lt_of_le_of_lt (hsm r hr) (by decide)) hV
  cases p with
  | true => exact ⟨fun _ => rfl, h1⟩
  | false => exact ⟨fun e => absurd e (h2 rfl).ne, fun h => by cases h⟩
/-- how the law lays one record -/
structure LaySt where
  W : List UInt8
  tw : Tok
  rest : List UInt8
  tr : Tok
  begun : Bool
  ended : Bool
  free : Nat
  tf : Tok
  tu : Nat
  tt : Tok
  pl : Bool
noncomputable def layM (B : Nat) (c : LaySt) : Nat := if c.ended then 0 else 1 + 40 * c.free + 2 * c.rest.length + (if c.W.length % B = 0 then 0 else 1)
structure LayP (B : Nat) (ck : Int) (W0 r0 : List UInt8) (p0 : Bool) (tu0 : Nat) (c : LaySt) : Prop where
  rest : c.rest.length ≤ 15
  free : c.free ≤ 4
  wide : c.W.length + 28 * layM B c ≤ W0.length + 28 * 192
  turns : c.tu + layM B c ≤ tu0 + 192
  more : c.ended = false → ∀ (p : Bool) (W' : List UInt8), Lay B ck c.W c.rest c.begun p W' → ∃ q, Lay B ck W0 r0 false q W' ∧ (p0 && q) = (c.pl && p)
  done : c.ended = true → ∃ q, Lay B ck W0 r0 false q c.W ∧ c.pl = (p0 && q)
/-- the names that a turn starts from -/
noncomputable def layNames (c : LaySt) : List (Str × Value) :=
  [(Str.ofString "out", .bytes c.W.toArray c.tw), (Str.ofString "rest", .bytes c.rest.toArray c.tr), (Str.ofString "begun", .bool c.begun), (Str.ofString "ended", .bool c.ended), (Str.ofString "free", .int (c.free : Int) c.tf), (Str.ofString "turn", .int (c.tu : Int) c.tt), (Str.ofString "plain", .bool c.pl)]

/-! RngC -/
section
variable {prog : Program} {w : World} {A : Around} {E : Value → Shared → Prop} {s : Shared} {env : Env} {h₀ : Heap} {L : Addr} {x : Str} {body : List Stmt} {Q : Flow → Shared → Prop}
theorem rangeC {r : Addr} {a₀ b₀ : Int} {t₀ u₀ v₀ : Tok} {n : Nat} {m₀ : Str → Option Value} {news : List (Addr × Obj)} (J : Nat → (Str → Option Value) → List (Addr × Obj) → Prop)
    (hJ : ∀ i m nx, J i m nx → ∀ p ∈ nx, ∀ k l, p.2 ≠ itObj k l)
    (hh : A.handled = none) (hr : IsRange s.heap r a₀ b₀ 1 t₀ u₀ v₀) (hsmall : Builtin.Range.small a₀ b₀ 1 = true) (hn : Builtin.Range.rangeSize a₀ b₀ 1 = (n : Int)) (F : Fr h₀ env.locals s.heap m₀) (N : News h₀ env.locals s.heap news) (hj : J 0 m₀ news)
    (turn : ∀ i t m₁ nx h tk I k l, i < n → J i m₁ nx → Fr h₀ env.locals h (fun y => if y = x then some (.int (a₀ + (i : Nat)) t) else m₁ y) → News h₀ env.locals h ((I, itObj k l) :: nx) →
      wpAny (model prog w) A (execs body env) (RngPost h₀ env.locals (J (i + 1)) [(I, itObj k l)] { s with heap := h, toks := tk } Q) E { s with heap := h, toks := tk })
    (done : ∀ m₁ nx h tk, J n m₁ nx → Fr h₀ env.locals h m₁ → News h₀ env.locals h nx → Q .next { s with heap := h, toks := tk }) :
    wpAny (model prog w) A (pyIter (.ref r)) (fun it s₂ => LoopAtV prog w A h₀ env x body Q E it s₂) E s := by
  refine wpAny_pyIter_range hr hsmall ?_
  have W : Walks prog w A s.heap.objs.size [s.heap.objs.size] [s.heap.objs.size] n (fun i v => i < n ∧ ∃ t, v = .int (a₀ + i * 1) t)
      (fun i h => IsRangeIter h s.heap.objs.size (a₀ + (i : Nat) * 1) ((n : Int) - (i : Nat)) 1) := (Walks.range hh _ a₀ 1 n).bound
  refine ⟨s.heap.objs.size, _, _, n, _, _, m₀, news, J, rfl, W, ?_, ?_, ?_, (by show IsRangeIter _ _ _ _ _; rw [hn]; simpa using Heap.get?_push_size _ rfl), F.push _, (fun p hp => ⟨Heap.get?_push_of_some _ (N p hp).1, (N p hp).2⟩), hj, ?_, ?_⟩
  · intro hm
    exact absurd F.ns.lt ((List.mem_singleton.mp hm) ▸ Nat.lt_irrefl _)
  · intro b hb
    rw [List.mem_singleton.mp hb]
    exact next_is_new F
  · intro p hp hI
    exact absurd (Heap.lt_size (N p hp).1) ((List.mem_singleton.mp hI) ▸ Nat.lt_irrefl _)
  · rintro i v m₁ nx s₁ own ⟨hh', tk', rfl⟩ hi ⟨_, t, rfl⟩ hJi hoff hown hget hfp hst F₁ N₁
    have e1 : a₀ + (i : Int) * 1 = a₀ + (i : Int) := by omega
    rw [e1] at F₁
    have hI : (s.heap.objs.size, itObj (a₀ + ((i + 1 : Nat) : Int) * 1) ((n : Int) - ((i + 1 : Nat) : Int))) ∈ own := hfp _ (by simp) (next_is_new F) _ hst
    have N₂ : News h₀ env.locals hh' ((s.heap.objs.size, itObj (a₀ + ((i + 1 : Nat) : Int) * 1) ((n : Int) - ((i + 1 : Nat) : Int))) :: nx) := fun p hp => N₁ p ((List.mem_cons.mp hp).elim (fun e => List.mem_append.mpr (.inl (e ▸ hI))) fun h => List.mem_append.mpr (.inr h))
    refine wpAny_mono (turn i t m₁ nx hh' tk' _ _ _ hi hJi F₁ N₂) (fun f s₂ p => ?_) fun _ _ e => e
    have fin : RngEnd h₀ env.locals (J (i + 1)) [(s.heap.objs.size, itObj (a₀ + ((i + 1 : Nat) : Int) * 1) ((n : Int) - ((i + 1 : Nat) : Int)))] { s with heap := hh', toks := tk' } s₂ →
        LoopStepU h₀ env.locals [s.heap.objs.size] own (J (i + 1)) { s with heap := hh', toks := tk' } .next s₂ := by
      rintro ⟨h', tk, m', news', nx', e, F', N', hn', ho', hJ'⟩
      have hIn := ho' _ (List.mem_singleton.mpr rfl)
      refine ⟨rfl, h', tk, m', nx', e, F', fun p hp => ?_, fun p hp hq => ?_, hJ'⟩
      · rcases List.mem_append.mp hp with h | h
        · have h1 : p.1 = s.heap.objs.size := List.mem_singleton.mp (hown p h)
          have h2 : hh'.get? p.1 = some p.2 := hget p h
          rw [h1, hst] at h2
          have h3 : p = (s.heap.objs.size, itObj (a₀ + ((i + 1 : Nat) : Int) * 1) ((n : Int) - ((i + 1 : Nat) : Int))) := Prod.ext h1 (Option.some.inj h2).symm
          rw [h3]
          exact N' _ hIn
        · exact N' p (hn' p h)
      · have h1 : p.1 = s.heap.objs.size := List.mem_singleton.mp hq
        have h2 := (N' p (hn' p hp)).1
        have h3 := (N' _ hIn).1
        rw [h1] at h2
        dsimp only at h3
        rw [h2] at h3
        exact hJ _ _ _ hJ' p hp _ _ (Option.some.inj h3)
    cases f with
    | ret v => exact .ret p
    | brk => exact .brk p
    | next => exact .next (fin p)
    | cont => exact .cont (fin p)
  · rintro h' tk m' news' F' N' _ hJ'
    exact done m' news' h' tk hJ' F' N'

end

/-! LawE -/
theorem list_it {a : Array Value} {n : Nat} {k l : Int} : listOf a n ≠ itObj k l := ne_cls (ty_ne (by decide))
theorem cell_it {o : Obj} {v : Option Value} {k l : Int} (h : o.data = .cell v) : o ≠ itObj k l := fun e => by
  rw [e] at h
  cases h
theorem cell_list {o : Obj} {v : Option Value} {a : Array Value} {n : Nat} (h : o.data = .cell v) : o ≠ listOf a n := fun e => by
  rw [e] at h
  cases h
/-- the law's first loop, at the head of a turn -/
noncomputable def CutJ (B : Nat) (tb : Tok) (ck : Int) (tc : Tok) (cn : Nat) (tn : Tok) (nl rc en cz : Addr) (nv : List Value) (nn : Nat) (i : Nat) (m : Str → Option Value) (nx : List (Addr × Obj)) : Prop :=
  ∃ (vs es : List Value) (n1 n2 : Nat) (recs : List (List UInt8)) (ends : List Int) (W : List UInt8) (tw : Tok) (pl : Bool) (tu : Nat) (tt : Tok) (oz : Obj) (vz : Option Value),
    (∀ p ∈ [(Str.ofString "nums", Value.ref nl), (Str.ofString "block", .int (B : Int) tb), (Str.ofString "check", .int ck tc), (Str.ofString "count", .int (cn : Int) tn), (Str.ofString "records", .ref rc), (Str.ofString "ends", .ref en),
        (Str.ofString "out", .bytes W.toArray tw), (Str.ofString "plain", .bool pl), (Str.ofString "turn", .int (tu : Int) tt)], m p.1 = some p.2) ∧
    oz.data = .cell vz ∧ nx = [(en, listOf es.toArray n2), (rc, listOf vs.toArray n1), (nl, listOf nv.toArray nn), (cz, oz)] ∧ BsAre vs recs ∧ IntsAre es ends ∧ (∀ r ∈ recs, r.length ≤ 15) ∧ CutP B ck recs ends pl W ∧ recs.length = i ∧ tu ≤ 192 * i ∧ W.length ≤ 5376 * i
theorem CutJ.elim {B : Nat} {tb : Tok} {ck : Int} {tc : Tok} {cn : Nat} {tn : Tok} {nl rc en cz : Addr} {nv : List Value} {nn : Nat} {i : Nat} {m : Str → Option Value} {nx : List (Addr × Obj)} {P : List (Addr × Obj) → Prop} (H : CutJ B tb ck tc cn tn nl rc en cz nv nn i m nx)
    (k : ∀ (vs es : List Value) (n1 n2 : Nat) (recs : List (List UInt8)) (ends : List Int) (W : List UInt8) (tw : Tok) (pl : Bool) (tu : Nat) (tt : Tok) (oz : Obj) (vz : Option Value), (∀ p ∈ [(Str.ofString "nums", Value.ref nl), (Str.ofString "block", .int (B : Int) tb), (Str.ofString "check", .int ck tc), (Str.ofString "count", .int (cn : Int) tn), (Str.ofString "records", .ref rc), (Str.ofString "ends", .ref en), (Str.ofString "out", .bytes W.toArray tw), (Str.ofString "plain", .bool pl), (Str.ofString "turn", .int (tu : Int) tt)], m p.1 = some p.2) → oz.data = .cell vz → BsAre vs recs → IntsAre es ends → (∀ r ∈ recs, r.length ≤ 15) → CutP B ck recs ends pl W → recs.length = i → tu ≤ 192 * i → W.length ≤ 5376 * i → P [(en, listOf es.toArray n2), (rc, listOf vs.toArray n1), (nl, listOf nv.toArray nn), (cz, oz)]) : P nx := by
  obtain ⟨vs, es, n1, n2, recs, ends, W, tw, pl, tu, tt, oz, vz, a0, a1, rfl, a3, a4, a5, a6, a7, a8, a9⟩ := H
  exact k _ _ _ _ _ _ _ _ _ _ _ _ _ a0 a1 a3 a4 a5 a6 a7 a8 a9
theorem cutJ_it {B : Nat} {tb : Tok} {ck : Int} {tc : Tok} {cn : Nat} {tn : Tok} {nl rc en cz : Addr} {nv : List Value} {nn : Nat} : ∀ i m nx, CutJ B tb ck tc cn tn nl rc en cz nv nn i m nx → ∀ p ∈ nx, ∀ k l, p.2 ≠ itObj k l := by
  rintro i m nx ⟨vs, es, n1, n2, recs, ends, W, tw, pl, tu, tt, oz, vz, _, hoz, rfl, _⟩ p hp k l
  simp only [List.mem_cons, List.not_mem_nil, or_false] at hp
  rcases hp with rfl | rfl | rfl | rfl
  · exact list_it
  · exact list_it
  · exact list_it
  · exact cell_it hoz
/-- the law ahead of its first loop -/
noncomputable def InitI (h₀ : Heap) (L : Addr) (s : Shared) (ps : List (Str × Value)) (nx : List (Addr × Obj)) (nl : Addr) (s' : Shared) : Prop :=
  ∃ h tk m rc en tw tt, s' = { s with heap := h, toks := tk } ∧ Fr h₀ L h m ∧ (∀ p ∈ (Str.ofString "records", Value.ref rc) :: (Str.ofString "ends", Value.ref en) :: (Str.ofString "out", Value.bytes (List.toArray []) tw) :: (Str.ofString "plain", Value.bool true) :: (Str.ofString "turn", Value.int ((0 : Nat) : Int) tt) :: ps, m p.1 = some p.2) ∧
    News h₀ L h ((en, listOf #[] 0) :: (rc, listOf #[] 0) :: nx) ∧ @Ne Nat rc en ∧ @Ne Nat nl en ∧ @Ne Nat nl rc
theorem InitI.elim {h₀ : Heap} {L : Addr} {s : Shared} {ps : List (Str × Value)} {nx : List (Addr × Obj)} {nl : Addr} {s' : Shared} {P : Shared → Prop} (H : InitI h₀ L s ps nx nl s')
    (k : ∀ h tk m rc en tw tt, Fr h₀ L h m → (∀ p ∈ (Str.ofString "records", Value.ref rc) :: (Str.ofString "ends", Value.ref en) :: (Str.ofString "out", Value.bytes (List.toArray []) tw) :: (Str.ofString "plain", Value.bool true) :: (Str.ofString "turn", Value.int ((0 : Nat) : Int) tt) :: ps, m p.1 = some p.2) → News h₀ L h ((en, listOf #[] 0) :: (rc, listOf #[] 0) :: nx) → @Ne Nat rc en → @Ne Nat nl en → @Ne Nat nl rc → P { s with heap := h, toks := tk }) : P s' := by
  obtain ⟨h, tk, m, rc, en, tw, tt, rfl, a1, a2, a3, a4, a5, a6⟩ := H
  exact k _ _ _ _ _ _ _ a1 a2 a3 a4 a5 a6
/-- a record drawn -/
noncomputable def RestI (h₀ : Heap) (L : Addr) (s : Shared) (ps : List (Str × Value)) (nx : List (Addr × Obj)) (cz : Addr) (s' : Shared) : Prop :=
  ∃ h tk m r tr oz vz, s' = { s with heap := h, toks := tk } ∧ Fr h₀ L h m ∧ (∀ p ∈ (Str.ofString "rest", Value.bytes (List.toArray r) tr) :: ps, m p.1 = some p.2) ∧ News h₀ L h (nx ++ [(cz, oz)]) ∧ oz.data = .cell vz ∧ r.length ≤ 15
theorem RestI.elim {h₀ : Heap} {L : Addr} {s : Shared} {ps : List (Str × Value)} {nx : List (Addr × Obj)} {cz : Addr} {s' : Shared} {P : Shared → Prop} (H : RestI h₀ L s ps nx cz s')
    (k : ∀ h tk m r tr oz vz, Fr h₀ L h m → (∀ p ∈ (Str.ofString "rest", Value.bytes (List.toArray r) tr) :: ps, m p.1 = some p.2) → News h₀ L h (nx ++ [(cz, oz)]) → oz.data = .cell vz → r.length ≤ 15 → P { s with heap := h, toks := tk }) : P s' := by
  obtain ⟨h, tk, m, r, tr, oz, vz, rfl, a1, a2, a3, a4, a5⟩ := H
  exact k _ _ _ _ _ _ _ a1 a2 a3 a4 a5
/-- the law behind its first loop -/
noncomputable def CutI (h₀ : Heap) (L : Addr) (s : Shared) (B : Nat) (tb : Tok) (ck : Int) (tc : Tok) (cn : Nat) (tn : Tok) (nl rc en cz : Addr) (nv : List Value) (nn : Nat) (s' : Shared) : Prop :=
  ∃ h tk m nx, s' = { s with heap := h, toks := tk } ∧ Fr h₀ L h m ∧ News h₀ L h nx ∧ CutJ B tb ck tc cn tn nl rc en cz nv nn cn m nx
theorem CutI.elim {h₀ : Heap} {L : Addr} {s : Shared} {B : Nat} {tb : Tok} {ck : Int} {tc : Tok} {cn : Nat} {tn : Tok} {nl rc en cz : Addr} {nv : List Value} {nn : Nat} {s' : Shared} {P : Shared → Prop} (H : CutI h₀ L s B tb ck tc cn tn nl rc en cz nv nn s')
    (k : ∀ h tk m nx, Fr h₀ L h m → News h₀ L h nx → CutJ B tb ck tc cn tn nl rc en cz nv nn cn m nx → P { s with heap := h, toks := tk }) : P s' := by
  obtain ⟨h, tk, m, nx, rfl, a1, a2, a3⟩ := H
  exact k _ _ _ _ a1 a2 a3
section
variable {M : Model} {A : Around} {E : Value → Shared → Prop} {s : Shared} {h₀ : Heap} {L a : Addr} {m : Str → Option Value} {cn : Str} {cs : Scope} {ccd : Value} {x : Str} {v : Value} {news : List (Addr × Obj)} {g : Obj → List (Addr × Obj)} {c : Addr} {o : Obj} {v₀ : Option Value}
theorem storeC_F {Q : Unit → Shared → Prop} (F : Fr h₀ L s.heap m) (N : News h₀ L s.heap news) (hc : (envOfC cn cs L a ccd).cells.lookup x = some c) (U : UpdF c o news g) (hd : o.data = .cell v₀)
    (h : ∀ h' o', Fr h₀ L h' m → News h₀ L h' (g o') → o'.data = .cell (some v) → Q () { s with heap := h' })
    (hk : cs.kind = .function) (hx : (envOfC cn cs L a ccd).kindOf x = some .cell) : wpAny M A (storeName (envOfC cn cs L a ccd) x v) Q E s := by
  obtain ⟨own, rest, rfl, hg, h1, h2⟩ := U.split
  have hmem := N (c, o) (List.mem_append_right _ (.head _))
  refine wpAny_storeName_cell hk hx hc ⟨o, hmem.1, hd⟩ fun h' hv hs => ?_
  obtain ⟨o', ho', hd'⟩ := hv
  refine h h' o' ⟨F.ns.sameBut hs (Ne.symm hmem.2.1), fun b ob e => (hs.2 b (fun q => ?_)).trans (F.keep b ob e), F.above⟩ (hg o' ▸ N.setAt h1 h2 hs ho') hd'
  rw [q, hmem.2.2] at e; cases e
end
section
variable {prog : Program} {w : World} {A : Around} {E : Value → Shared → Prop} {s : Shared}
theorem mod_new {i j : Int} {t u : Tok} {Q : Value → Shared → Prop} (hj : 0 < j) (h : ∀ k : Nat, (k : Int) < j → Q (.int (k : Int) s.toks) { s with toks := s.toks + 1 }) :
    wpAny (model prog w) A (binaryOp .Mod (.int i t) (.int j u)) Q E s := by
  refine mod_int' (by omega) ?_
  have h1 := fmod_pos' (a := i) (b := j) hj
  obtain ⟨k, hk⟩ : ∃ k : Nat, i.fmod j = (k : Int) := ⟨(i.fmod j).toNat, by omega⟩
  rw [hk] at h1 ⊢
  exact h k h1.2
end

/-! LawF -/
theorem lay_start {B : Nat} {ck : Int} {W r : List UInt8} {tw tr tf tt : Tok} {pl : Bool} {tu : Nat} (hr : r.length ≤ 15) : LayP B ck W r pl tu ⟨W, tw, r, tr, false, false, 4, tf, tu, tt, pl⟩ := by
  have hm : layM B ⟨W, tw, r, tr, false, false, 4, tf, tu, tt, pl⟩ ≤ 192 := by
    unfold layM
    simp only [Bool.false_eq_true, if_false]
    split <;> omega
  refine ⟨hr, Nat.le_refl _, ?_, ?_, fun _ p W' h => ⟨p, h, rfl⟩, fun h => by cases h⟩
  · show W.length + _ ≤ _
    omega
  · show tu + _ ≤ _
    omega
theorem lay_step {B : Nat} {ck : Int} {W0 r0 : List UInt8} {p0 : Bool} {tu0 : Nat} {c : LaySt} (hP : LayP B ck W0 r0 p0 tu0 c) (hs : c.ended = false) (hB1 : 8 ≤ B) (hB2 : B ≤ 14)
    {v : UInt8} {part free' : Nat} {e' pl' : Bool} {tw' tr' tf' tt' : Tok} (h1 : part ≤ min c.rest.length (roomN B c.W.length - 7)) (h2 : free' ≤ c.free) (h3 : e' = true → part = c.rest.length)
    (h4 : e' = false → (part = min c.rest.length (roomN B c.W.length - 7) ∧ part ≠ c.rest.length) ∨ free' + 1 ≤ c.free)
    (h5 : pl' = (c.pl && fillOk B c.W.length v && (part == min c.rest.length (roomN B c.W.length - 7)) && (e' == (part == c.rest.length)))) :
    LayP B ck W0 r0 p0 tu0 ⟨stepW B ck c.W c.rest c.begun v part e', tw', c.rest.drop part, tr', true, e', free', tf', c.tu + 1, tt', pl'⟩ ∧
    layM B ⟨stepW B ck c.W c.rest c.begun v part e', tw', c.rest.drop part, tr', true, e', free', tf', c.tu + 1, tt', pl'⟩ < layM B c := by
  have hr := hP.rest
  have hf := hP.free
  have hw := hP.wide
  have ht := hP.turns
  have hW : (stepW B ck c.W c.rest c.begun v part e').length = c.W.length + fillN B c.W.length + 7 + part := stepW_len (by omega)
  have r1 := roomN_lo (n := c.W.length) hB1
  have r2 := roomN_hi (n := c.W.length) hB1
  have r3 := fillN_hi (B := B) (n := c.W.length)
  have hd : (c.rest.drop part).length = c.rest.length - part := List.length_drop ..
  have hm : layM B ⟨stepW B ck c.W c.rest c.begun v part e', tw', c.rest.drop part, tr', true, e', free', tf', c.tu + 1, tt', pl'⟩ < layM B c := by
    unfold layM
    rw [hs]
    simp only [Bool.false_eq_true, if_false]
    cases e' with
    | true => simp only [if_true]; omega
    | false =>
      simp only [Bool.false_eq_true, if_false, hd]
      rcases h4 rfl with ⟨h6, h7⟩ | h6
      · have hz : (stepW B ck c.W c.rest c.begun v part false).length % B = 0 := by
          rw [hW]
          have : c.W.length + fillN B c.W.length + 7 + part = c.W.length + fillN B c.W.length + roomN B c.W.length := by omega
          rw [this]
          exact fill_end hB1
        rw [hz]
        simp only [if_true]
        by_cases h0 : part = 0
        · have h7 : roomN B c.W.length = 7 := by omega
          have hn : ¬ (c.W.length % B = 0) := by
            intro hz2
            unfold roomN at h7
            rw [hz2] at h7
            simp only [Nat.sub_zero] at h7
            split at h7 <;> omega
          rw [if_neg hn]
          omega
        · split <;> omega
      · split <;> split <;> omega
  refine ⟨⟨?_, ?_, ?_, ?_, ?_, ?_⟩, hm⟩
  · show (c.rest.drop part).length ≤ 15
    omega
  · show free' ≤ 4
    omega
  · show (stepW B ck c.W c.rest c.begun v part e').length + _ ≤ _
    omega
  · show c.tu + 1 + _ ≤ _
    omega
  · intro he p W' hL
    dsimp only at he hL ⊢
    subst he
    obtain ⟨q, hq1, hq2⟩ := hP.more hs _ _ (Lay.more (v := v) h1 hL)
    refine ⟨q, hq1, hq2.trans ?_⟩
    rw [h5]
    cases c.pl <;> cases fillOk B c.W.length v <;> cases (part == min c.rest.length (roomN B c.W.length - 7)) <;> cases hb : (part == c.rest.length) <;> cases p <;> simp_all
  · intro he
    dsimp only at he ⊢
    subst he
    have h6 := h3 rfl
    obtain ⟨q, hq1, hq2⟩ := hP.more hs _ _ (Lay.last (B := B) (c := ck) (W := c.W) (rest := c.rest) (begun := c.begun) (v := v) (by omega))
    rw [← h6] at hq1
    refine ⟨q, hq1, ?_⟩
    rw [hq2, h5]
    have e1 : (part == min c.rest.length (roomN B c.W.length - 7)) = true := by rw [beq_iff_eq]; omega
    have e2 : (part == c.rest.length) = true := by rw [beq_iff_eq]; exact h6
    rw [e1, e2]
    cases c.pl <;> cases fillOk B c.W.length v <;> rfl
/-- the inner loop, at the head of a turn -/
noncomputable def LayJ (B : Nat) (ck : Int) (W0 r0 : List UInt8) (p0 : Bool) (tu0 : Nat) (ps : List (Str × Value)) (nx : List (Addr × Obj)) (n : Nat) (m : Str → Option Value) (nx' : List (Addr × Obj)) : Prop :=
  ∃ c : LaySt, layM B c = n ∧ LayP B ck W0 r0 p0 tu0 c ∧ (∀ p ∈ layNames c ++ ps, m p.1 = some p.2) ∧ nx' = nx
/-- a turn of it: behind the filling -/
noncomputable def FillI (h₀ : Heap) (L : Addr) (s : Shared) (B : Nat) (W : List UInt8) (tu : Nat) (pl : Bool) (ps : List (Str × Value)) (nx : List (Addr × Obj)) (s' : Shared) : Prop :=
  ∃ h tk m, ∃ (y : Nat) (ty : Tok) (v : UInt8) (tw ti tt : Tok) (rm : Nat), s' = { s with heap := h, toks := tk } ∧ Fr h₀ L h m ∧ rm = roomN B W.length ∧
    (∀ p ∈ (Str.ofString "y", Value.int (y : Int) ty) :: (Str.ofString "out", .bytes (List.toArray (W ++ List.replicate (fillN B W.length) v)) tw) :: (Str.ofString "room", .int (rm : Int) ti) :: (Str.ofString "turn", .int ((tu + 1 : Nat) : Int) tt) ::
      (Str.ofString "plain", .bool (pl && fillOk B W.length v)) :: ps, m p.1 = some p.2) ∧ News h₀ L h nx
theorem FillI.elim {h₀ : Heap} {L : Addr} {s : Shared} {B : Nat} {W : List UInt8} {tu : Nat} {pl : Bool} {ps : List (Str × Value)} {nx : List (Addr × Obj)} {s' : Shared} {P : Shared → Prop} (H : FillI h₀ L s B W tu pl ps nx s')
    (k : ∀ h tk m (y : Nat) (ty : Tok) (v : UInt8) (tw ti tt : Tok) (rm : Nat), Fr h₀ L h m → rm = roomN B W.length → (∀ p ∈ (Str.ofString "y", Value.int (y : Int) ty) :: (Str.ofString "out", .bytes (List.toArray (W ++ List.replicate (fillN B W.length) v)) tw) :: (Str.ofString "room", .int (rm : Int) ti) :: (Str.ofString "turn", .int ((tu + 1 : Nat) : Int) tt) :: (Str.ofString "plain", .bool (pl && fillOk B W.length v)) :: ps, m p.1 = some p.2) → News h₀ L h nx → P { s with heap := h, toks := tk }) : P s' := by
  obtain ⟨h, tk, m, y, ty, v, tw, ti, tt, rm, rfl, a1, a2, a3, a4⟩ := H
  exact k _ _ _ _ _ _ _ _ _ _ a1 a2 a3 a4
/-- behind the choice of the piece -/
noncomputable def PartI (h₀ : Heap) (L : Addr) (s : Shared) (rl rm free : Nat) (ps : List (Str × Value)) (nx : List (Addr × Obj)) (s' : Shared) : Prop :=
  ∃ h tk m, ∃ (mo part fr : Nat) (e : Bool) (tm tp tf : Tok), s' = { s with heap := h, toks := tk } ∧ Fr h₀ L h m ∧ mo = min rl (rm - 7) ∧ part ≤ mo ∧ fr ≤ free ∧ (e = true → part = rl) ∧ (e = false → (part = mo ∧ part ≠ rl) ∨ fr + 1 ≤ free) ∧
    (∀ p ∈ (Str.ofString "most", Value.int (mo : Int) tm) :: (Str.ofString "part", .int (part : Int) tp) :: (Str.ofString "ended", .bool e) :: (Str.ofString "free", .int (fr : Int) tf) :: ps, m p.1 = some p.2) ∧ News h₀ L h nx
theorem PartI.elim {h₀ : Heap} {L : Addr} {s : Shared} {rl rm free : Nat} {ps : List (Str × Value)} {nx : List (Addr × Obj)} {s' : Shared} {P : Shared → Prop} (H : PartI h₀ L s rl rm free ps nx s')
    (k : ∀ h tk m (mo part fr : Nat) (e : Bool) (tm tp tf : Tok), Fr h₀ L h m → mo = min rl (rm - 7) → part ≤ mo → fr ≤ free → (e = true → part = rl) → (e = false → (part = mo ∧ part ≠ rl) ∨ fr + 1 ≤ free) → (∀ p ∈ (Str.ofString "most", Value.int (mo : Int) tm) :: (Str.ofString "part", .int (part : Int) tp) :: (Str.ofString "ended", .bool e) :: (Str.ofString "free", .int (fr : Int) tf) :: ps, m p.1 = some p.2) → News h₀ L h nx → P { s with heap := h, toks := tk }) : P s' := by
  obtain ⟨h, tk, m, mo, part, fr, e, tm, tp, tf, rfl, a1, a2, a3, a4, a5, a6, a7, a8⟩ := H
  exact k _ _ _ _ _ _ _ _ _ _ a1 a2 a3 a4 a5 a6 a7 a8
/-- behind a stretch that binds names alone -/
noncomputable def HeldI (h₀ : Heap) (L : Addr) (s : Shared) (ps : List (Str × Value)) (nx : List (Addr × Obj)) (s' : Shared) : Prop :=
  ∃ h tk m, s' = { s with heap := h, toks := tk } ∧ Fr h₀ L h m ∧ (∀ p ∈ ps, m p.1 = some p.2) ∧ News h₀ L h nx
theorem HeldI.elim {h₀ : Heap} {L : Addr} {s : Shared} {ps : List (Str × Value)} {nx : List (Addr × Obj)} {s' : Shared} {P : Shared → Prop} (H : HeldI h₀ L s ps nx s')
    (k : ∀ h tk m, Fr h₀ L h m → (∀ p ∈ ps, m p.1 = some p.2) → News h₀ L h nx → P { s with heap := h, toks := tk }) : P s' := by
  obtain ⟨h, tk, m, rfl, a1, a2, a3⟩ := H
  exact k _ _ _ a1 a2 a3
/-- behind the kind -/
noncomputable def KindI (h₀ : Heap) (L : Addr) (s : Shared) (k : Nat) (ps : List (Str × Value)) (nx : List (Addr × Obj)) (s' : Shared) : Prop :=
  ∃ h tk m t, s' = { s with heap := h, toks := tk } ∧ Fr h₀ L h m ∧ (∀ p ∈ (Str.ofString "kind", Value.int (k : Int) t) :: ps, m p.1 = some p.2) ∧ News h₀ L h nx
theorem KindI.elim {h₀ : Heap} {L : Addr} {s : Shared} {k : Nat} {ps : List (Str × Value)} {nx : List (Addr × Obj)} {s' : Shared} {P : Shared → Prop} (H : KindI h₀ L s k ps nx s')
    (k : ∀ h tk m t, Fr h₀ L h m → (∀ p ∈ (Str.ofString "kind", Value.int (k : Int) t) :: ps, m p.1 = some p.2) → News h₀ L h nx → P { s with heap := h, toks := tk }) : P s' := by
  obtain ⟨h, tk, m, t, rfl, a1, a2, a3⟩ := H
  exact k _ _ _ _ a1 a2 a3

/-! LawG -/
section
variable {prog : Program} {w : World} {A : Around} {E : Value → Shared → Prop} {s : Shared} {h₀ : Heap} {L : Addr} {m : Str → Option Value} {news : List (Addr × Obj)}
theorem rep_flat {α : Type} (n : Nat) (x : α) : (List.replicate n [x]).flatten = List.replicate n x := by
  induction n with
  | zero => rfl
  | succ n ih => simp [List.replicate_succ, ih]
theorem ints_rep (n : Nat) (k : Int) (t : Tok) : IntsAre (List.replicate n (Value.int k t)) (List.replicate n k) := by
  induction n with
  | zero => exact .nil
  | succ n ih => rw [List.replicate_succ, List.replicate_succ]; exact .cons _ _ ih
theorem bytes_rep {l : Addr} {k r : Int} {t : Tok} {c : Nat} {Q : Value → Shared → Prop} (F : Fr h₀ L s.heap m) (N : News h₀ L s.heap news) (hm : (l, listOf (List.replicate r.toNat [Value.int k t]).flatten.toArray c) ∈ news) (hk : 0 ≤ k ∧ k ≤ 255) (hr : r ≤ 1000) (hh : A.handled = none)
    (h : ∀ h' t k', Fr h₀ L h' m → News h₀ L h' news → Q (.bytes (List.toArray (List.replicate r.toNat k.toNat.toUInt8)) t) { s with heap := h', toks := k' }) : wpAny (model prog w) A (call (.type "bytes") [.ref l]) Q E s := by
  rw [rep_flat] at hm
  refine bytes_K (ns := List.replicate r.toNat k) (vs := List.replicate r.toNat (.int k t)) F N (News.isList N hm) (ints_rep _ _ _) ?_ ?_ hh fun h' t k' F' N' _ => ?_
  · intro x hx
    rw [List.eq_of_mem_replicate hx]
    omega
  · simp only [List.length_replicate, List.size_toArray, sizeLine_eq]
    omega
  · have := h h' t k' F' N'
    simpa [List.map_replicate] using this
theorem val_bnd (z : Nat) : 0 ≤ ((z : Int).fdiv 2).fmod 2 * ((z : Int).fdiv 4).fmod 256 ∧ ((z : Int).fdiv 2).fmod 2 * ((z : Int).fdiv 4).fmod 256 ≤ 255 := by
  have h1 := fmod_pos' (a := (z : Int).fdiv 2) (b := 2) (by decide)
  have h2 := fmod_pos' (a := (z : Int).fdiv 4) (b := 256) (by decide)
  generalize ((z : Int).fdiv 2).fmod 2 = a at h1 ⊢
  generalize ((z : Int).fdiv 4).fmod 256 = b at h2 ⊢
  obtain rfl | rfl : a = 0 ∨ a = 1 := by omega
  · simp
  · omega
end
theorem news_tail2 {h₀ : Heap} {L : Addr} {h : Heap} {a b : Addr × Obj} {nx : List (Addr × Obj)} (N : News h₀ L h (a :: b :: nx)) : News h₀ L h nx := fun p hp => N p (List.Mem.tail _ (List.Mem.tail _ hp))
theorem FillI.intro {h₀ : Heap} {L : Addr} {s : Shared} {B : Nat} {W1 : List UInt8} {tu1 : Nat} {pl1 : Bool} {ps : List (Str × Value)} {nx : List (Addr × Obj)} {h : Heap} {tk : Nat} {m : Str → Option Value} {y : Nat} {ty tw ti tt : Tok} {bs : List UInt8} {kr : Int} {pv : Bool} (F : Fr h₀ L h m) (N : News h₀ L h nx)
    (hm : ∀ p ∈ (Str.ofString "y", Value.int (y : Int) ty) :: (Str.ofString "out", .bytes bs.toArray tw) :: (Str.ofString "room", .int kr ti) :: (Str.ofString "turn", .int ((tu1 : Int) + 1) tt) :: (Str.ofString "plain", .bool pv) :: ps, m p.1 = some p.2) (v : UInt8)
    (h1 : bs = W1 ++ List.replicate (fillN B W1.length) v) (h2 : kr = (roomN B W1.length : Int)) (h3 : pv = (pl1 && fillOk B W1.length v)) : FillI h₀ L s B W1 tu1 pl1 ps nx { s with heap := h, toks := tk } := by
  subst h1 h2 h3
  exact ⟨h, tk, m, y, ty, v, tw, ti, tt, _, rfl, F, rfl, hm, N⟩
theorem fill_in {B : Nat} {W : List UInt8} (h : (B : Int) - ((W.toArray.size % B : Nat) : Int) < 7) : fillN B W.length = ((B : Int) - ((W.toArray.size % B : Nat) : Int)).toNat ∧ roomN B W.length = B := by
  rw [List.size_toArray] at h ⊢
  unfold fillN roomN
  rw [if_pos (by omega), if_pos (by omega)]
  omega
theorem fill_out {B : Nat} {W : List UInt8} (hB : 8 ≤ B) (h : ¬ (B : Int) - ((W.toArray.size % B : Nat) : Int) < 7) : fillN B W.length = 0 ∧ (B : Int) - ((W.toArray.size % B : Nat) : Int) = (roomN B W.length : Int) := by
  rw [List.size_toArray] at h ⊢
  have := Nat.mod_lt W.length (show 0 < B by omega)
  unfold fillN roomN
  rw [if_neg (by omega), if_neg (by omega)]
  omega
theorem fill_ok {B n : Nat} (hB : 8 ≤ B) {k : Int} (hk : 0 ≤ k ∧ k ≤ 255) (h : fillN B n ≠ 0) : fillOk B n k.toNat.toUInt8 = (k == 0) := by
  unfold fillOk
  rw [Bool.eq_iff_iff]
  simp only [Bool.or_eq_true, beq_iff_eq]
  constructor
  · rintro (h1 | h1)
    · exact absurd h1 h
    · by_cases h0 : k.toNat = 0
      · omega
      · exact absurd h1 (u8_ne (by omega) (by decide) h0)
  · rintro rfl
    exact .inr rfl
theorem fill_pos {B : Nat} {W : List UInt8} (hB : 8 ≤ B) (h : (B : Int) - ((W.toArray.size % B : Nat) : Int) < 7) : fillN B W.length ≠ 0 := by
  have := Nat.mod_lt W.length (show 0 < B by omega)
  rw [(fill_in h).1, List.size_toArray]
  omega
theorem most_eq {rm : Nat} {b : List UInt8} (h : 7 ≤ rm) : (if (rm : Int) - 7 < (b.toArray.size : Int) then (rm : Int) - 7 else (b.toArray.size : Int)) = ((min b.length (rm - 7) : Nat) : Int) := by
  rw [List.size_toArray]
  split <;> omega
theorem PartI.intro {h₀ : Heap} {L : Addr} {s : Shared} {rm free : Nat} {b : List UInt8} {ps : List (Str × Value)} {nx : List (Addr × Obj)} {h : Heap} {tk : Nat} {m : Str → Option Value} {ms pt fr : Int} {e : Bool} {tm tp tf : Tok} (F : Fr h₀ L h m) (N : News h₀ L h nx)
    (hm : ∀ p ∈ (Str.ofString "most", Value.int ms tm) :: (Str.ofString "part", .int pt tp) :: (Str.ofString "ended", .bool e) :: (Str.ofString "free", .int fr tf) :: ps, m p.1 = some p.2) (h1 : ms = ((min b.length (rm - 7) : Nat) : Int)) (h2 : 0 ≤ pt ∧ pt ≤ ms) (h3 : 0 ≤ fr ∧ fr ≤ (free : Int))
    (h4 : e = true → pt = (b.toArray.size : Int)) (h5 : e = false → (pt = ms ∧ pt ≠ (b.toArray.size : Int)) ∨ fr + 1 ≤ (free : Int)) : PartI h₀ L s b.length rm free ps nx { s with heap := h, toks := tk } := by
  rw [List.size_toArray] at h4 h5
  subst h1
  obtain ⟨p, rfl⟩ : ∃ p : Nat, pt = (p : Int) := ⟨pt.toNat, by omega⟩
  obtain ⟨f, rfl⟩ : ∃ p : Nat, fr = (p : Int) := ⟨fr.toNat, by omega⟩
  exact ⟨h, tk, m, _, p, f, e, tm, tp, tf, rfl, F, rfl, by omega, by omega, fun q => by have := h4 q; omega, fun q => by have := h5 q; omega, hm, N⟩
theorem beq_t {a b : Int} (h : (a == b) = true) : a = b := by simpa using h
theorem beq_f {a b : Int} (h : (a == b) = false) : a ≠ b := by simpa using h
theorem HeldI.plain {h₀ : Heap} {L : Addr} {s : Shared} {ps : List (Str × Value)} {nx : List (Addr × Obj)} {h : Heap} {tk : Nat} {m : Str → Option Value} {pv pw : Bool} (F : Fr h₀ L h m) (N : News h₀ L h nx)
    (hm : ∀ p ∈ (Str.ofString "plain", Value.bool pv) :: ps, m p.1 = some p.2) (e : pv = pw) : HeldI h₀ L s ((Str.ofString "plain", .bool pw) :: ps) nx { s with heap := h, toks := tk } := by
  subst e
  exact ⟨h, tk, m, rfl, F, hm, N⟩
theorem pl_a {q e : Bool} {p mo : Nat} {b : List UInt8} (h : q = true) (h2 : (p : Int) = (mo : Int)) : (e == ((p : Int) == (b.toArray.size : Int))) = (q && (p == mo) && (e == (p == b.length))) := by
  have e1 : ((p : Int) == (b.toArray.size : Int)) = (p == b.length) := by
    rw [List.size_toArray, Bool.eq_iff_iff]
    simp only [beq_iff_eq]
    omega
  have e2 : (p == mo) = true := by rw [beq_iff_eq]; omega
  rw [h, e1, e2]
  rfl
theorem pl_b {q e : Bool} {p mo : Nat} {b : List UInt8} (h : q = true) (h2 : (p : Int) ≠ (mo : Int)) : ((p : Int) == (mo : Int)) = (q && (p == mo) && (e == (p == b.length))) := by
  have e1 : ((p : Int) == (mo : Int)) = false := by simpa using h2
  have e2 : (p == mo) = false := by
    rw [beq_eq_false_iff_ne]
    omega
  rw [h, e1, e2]
  rfl
theorem pl_c {q e : Bool} {p mo : Nat} {b : List UInt8} (h : q = false) : q = (q && (p == mo) && (e == (p == b.length))) := by
  rw [h]
  rfl
/-- behind the laying of a piece -/
noncomputable def TurnI (h₀ : Heap) (L : Addr) (s : Shared) (bs rs : List UInt8) (ps : List (Str × Value)) (nx : List (Addr × Obj)) (s' : Shared) : Prop :=
  ∃ h tk m tw tr, s' = { s with heap := h, toks := tk } ∧ Fr h₀ L h m ∧ (∀ p ∈ (Str.ofString "out", Value.bytes bs.toArray tw) :: (Str.ofString "rest", .bytes rs.toArray tr) :: (Str.ofString "begun", .bool true) :: ps, m p.1 = some p.2) ∧ News h₀ L h nx
theorem TurnI.elim {h₀ : Heap} {L : Addr} {s : Shared} {bs rs : List UInt8} {ps : List (Str × Value)} {nx : List (Addr × Obj)} {s' : Shared} {P : Shared → Prop} (H : TurnI h₀ L s bs rs ps nx s')
    (k : ∀ h tk m tw tr, Fr h₀ L h m → (∀ p ∈ (Str.ofString "out", Value.bytes bs.toArray tw) :: (Str.ofString "rest", .bytes rs.toArray tr) :: (Str.ofString "begun", .bool true) :: ps, m p.1 = some p.2) → News h₀ L h nx → P { s with heap := h, toks := tk }) : P s' := by
  obtain ⟨h, tk, m, tw, tr, rfl, a1, a2, a3⟩ := H
  exact k _ _ _ _ _ a1 a2 a3
theorem TurnI.intro {h₀ : Heap} {L : Addr} {s : Shared} {ps : List (Str × Value)} {nx : List (Addr × Obj)} {h : Heap} {tk : Nat} {m : Str → Option Value} {bs rs bs' rs' : List UInt8} {tw tr : Tok} (F : Fr h₀ L h m) (N : News h₀ L h nx)
    (hm : ∀ p ∈ (Str.ofString "out", Value.bytes bs'.toArray tw) :: (Str.ofString "rest", .bytes rs'.toArray tr) :: (Str.ofString "begun", .bool true) :: ps, m p.1 = some p.2) (e1 : bs' = bs) (e2 : rs' = rs) : TurnI h₀ L s bs rs ps nx { s with heap := h, toks := tk } := by
  subst e1 e2
  exact ⟨h, tk, m, tw, tr, rfl, F, hm, N⟩
section
variable {prog : Program} {w : World} {A : Around} {E : Value → Shared → Prop} {s : Shared} {h₀ : Heap} {L : Addr} {m : Str → Option Value} {news : List (Addr × Obj)}
theorem slice_take {value slice : PySem.Expr} {b : List UInt8} {t : Tok} {l u : Value} {j : Nat} {Q : Value → Shared → Prop} (F : Fr h₀ L s.heap m) (N : News h₀ L s.heap news) (hl : IsPart l none) (hu : IsPart u (some (j : Int))) (hz : b.length ≤ 1000000) (hj : j ≤ b.length)
    (h : ∀ h' t' k, Fr h₀ L h' m → News h₀ L h' news → Q (.bytes (b.take j).toArray t') { s with heap := h', toks := k })
    (hs : subscripted slice false (.bytes b.toArray t) (.ref s.heap.objs.size) = operate [.ref s.heap.objs.size, .bytes b.toArray t] (getItem (.bytes b.toArray t) (.ref s.heap.objs.size)))
    (ht : ∀ r, letTemporaryGo value (.bytes b.toArray t) r = pure ()) :
    wpAny (model prog w) A (subscriptTail value slice (.bytes b.toArray t) (.ref s.heap.objs.size)) Q E { s with heap := s.heap.push { cls := .type "slice", data := .fields #[l, u, .none] } } :=
  slice_by 0 j F N hl hu hz rfl (clip_in (by omega) (by omega)) (fun h' t' k F' N' => by simpa using h h' t' k F' N') hs ht
theorem slice_drop {value slice : PySem.Expr} {b : List UInt8} {t : Tok} {l u : Value} {j : Nat} {Q : Value → Shared → Prop} (F : Fr h₀ L s.heap m) (N : News h₀ L s.heap news) (hl : IsPart l (some (j : Int))) (hu : IsPart u none) (hz : b.length ≤ 1000000) (hj : j ≤ b.length)
    (h : ∀ h' t' k, Fr h₀ L h' m → News h₀ L h' news → Q (.bytes (b.drop j).toArray t') { s with heap := h', toks := k })
    (hs : subscripted slice false (.bytes b.toArray t) (.ref s.heap.objs.size) = operate [.ref s.heap.objs.size, .bytes b.toArray t] (getItem (.bytes b.toArray t) (.ref s.heap.objs.size)))
    (ht : ∀ r, letTemporaryGo value (.bytes b.toArray t) r = pure ()) :
    wpAny (model prog w) A (subscriptTail value slice (.bytes b.toArray t) (.ref s.heap.objs.size)) Q E { s with heap := s.heap.push { cls := .type "slice", data := .fields #[l, u, .none] } } :=
  slice_by j b.length F N hl hu hz (clip_in (by omega) (by omega)) rfl (fun h' t' k F' N' => by
    have e : ((b.drop j).take (b.length - j)) = b.drop j := List.take_of_length_le (by rw [List.length_drop]; omega)
    rw [e]
    exact h h' t' k F' N') hs ht
end
theorem step_eq {B : Nat} {c : Int} {W rest : List UInt8} {b e : Bool} {v : UInt8} {part : Nat} : W ++ List.replicate (fillN B W.length) v ++ frag c (kindOf b e) (rest.take part) = stepW B c W rest b v part e := by
  unfold stepW
  rw [List.append_assoc]

/-! Join -/
theorem slot_join : Slot "bytes" "join" "bytes.join" :=
  .of (owner := "bytes") (n := "join") (by rw [typeLookup_type, builtinLookup_eq_fast]; kernel_rfl) (by decide +kernel) (by decide +kernel) (by decide +kernel)
    (by first | exact .inl (by decide +kernel) | exact .inr (by decide +kernel)) (by rw [isSubtype_type]; kernel_rfl)
theorem type_join : typeOf (.builtin "bytes.join") = pure (.type "method_descriptor") := by show builtinType _ = _; rw [builtinType_eq_fast]; kernel_rfl
theorem entry_join : entryFor table "bytes.join" = some Builtin.«bytes.join» := by first | exact entryFor_of_fast (by kernel_rfl) | exact entryFor_of_tree (by kernel_rfl)
theorem args_join (a b : Value) : argsOk "bytes.join" ⟨[a, b], []⟩ := by unfold argsOk; kernel_rfl
section
variable {prog : Program} {w : World} {A : Around} {E : Value → Shared → Prop} {s : Shared}
theorem join_get {M : Model} {b : Array UInt8} {t : Tok} {pl : Sem Bool} {Q : Value × List Value → Shared → Prop} (h : Q (.builtin "bytes.join", [.bytes b t]) s) : wpAny M A (getMethod (.bytes b t) "join" pl) Q E s := by
  with_reducible exact KBd.method_of (.bytes b t) (typeIs_bytes _ _ _) slot_join type_join KBd.noRef h
theorem ifA_yes {α : Type} {M : Model} {c : Bool} {a b : Sem α} {Q : α → Shared → Prop} (hc : c = true) (h : wpAny M A a Q E s) : wpAny M A (if c = true then a else b) Q E s := by
  rw [if_pos hc]; exact h
theorem ifA_no' {α : Type} {M : Model} {c : Bool} {a b : Sem α} {Q : α → Shared → Prop} (hc : c = false) (h : wpAny M A b Q E s) : wpAny M A (if c = true then a else b) Q E s := by
  rw [hc]; exact h
theorem joinLet {M : Model} {keep : List Value} {Q : Unit → Shared → Prop} (h : Q () s) : ∀ (l : List (List UInt8 × Tok)), wpAny M A (Builtin.Bytes.joinLetGo (l.map fun p => (Value.bytes p.1.toArray p.2, none)) keep) Q E s := by
  intro l
  induction l with
  | nil => exact wpAny_pure h
  | cons p r ih =>
    show wpAny _ _ (letGo [_] _ >>= fun _ => Builtin.Bytes.joinLetGo _ keep) _ _ s
    refine wpAny_bind ?_
    unfold letGo
    refine wpAny_bind (wpAny_holding (wpAny_point ?_))
    exact wpAny_pure ih
theorem join_len : ∀ (l : List (List UInt8 × Tok)) (n : Nat), (l.map fun p => p.1.toArray).foldl (fun a b => a + b.size) n = n + (l.map (·.1)).flatten.length := by
  intro l
  induction l with
  | nil => intro n; rfl
  | cons p r ih =>
    intro n
    simp only [List.map_cons, List.foldl_cons, List.flatten_cons, List.length_append]
    rw [ih, List.size_toArray]
    omega
theorem join_flat (l : List (List UInt8 × Tok)) : Builtin.Bytes.joined #[] (l.map fun p => p.1.toArray) = (l.map (·.1)).flatten.toArray := by
  unfold Builtin.Bytes.joined
  have go : ∀ (l : List (List UInt8 × Tok)) (k : Nat) (acc : List UInt8), ((l.map fun p => p.1.toArray).zipIdx k).foldl (fun out (p : Array UInt8 × Nat) => (if p.2 > 0 then out ++ #[] else out) ++ p.1) acc.toArray = (acc ++ (l.map (·.1)).flatten).toArray := by
    intro l
    induction l with
    | nil => intro k acc; simp
    | cons p r ih =>
      intro k acc
      simp only [List.map_cons, List.zipIdx_cons, List.foldl_cons, List.flatten_cons]
      have e : ((if k > 0 then acc.toArray ++ #[] else acc.toArray) ++ p.1.toArray) = (acc ++ p.1).toArray := by
        split <;> simp
      rw [e, ih, List.append_assoc]
  have := go l 0 []
  simpa using this
noncomputable def bsVals (l : List (List UInt8 × Tok)) : List Value := l.map fun p => .bytes p.1.toArray p.2
theorem bytes_join {a : Addr} {l : List (List UInt8 × Tok)} {t : Tok} {Q : Value → Shared → Prop} (hl : s.heap.IsList a (bsVals l).toArray) (hne : l ≠ []) (hz : (l.map (·.1)).flatten.length ≤ 1000000)
    (h : ∀ t' k, Q (.bytes (l.map (·.1)).flatten.toArray t') { s with toks := k }) :
    wpAny (model prog w) A (call (.builtin "bytes.join") [.bytes #[] t, .ref a]) Q E s := by
  refine wpAny_call (codeAny_call_builtin slot_join.plain entry_join (slot_join.check _ _ _ _ _ _ _ _ (typeIs_bytes _ _ _) (args_join _ _) ?_))
  unfold Builtin.«bytes.join» Builtin.Bytes.joinM
  refine wpAny_bind (wpAny_of_eq (a := (.bytes #[] t, .ref a)) rfl ?_)
  dsimp only
  show wpAny _ _ (Builtin.Bytes.joinItems (.ref a) >>= fun q => _) _ _ s
  unfold Builtin.Bytes.joinItems
  refine wpAny_bind (wpAny_bind (wpAny_typeOf hl.typeIs ?_))
  refine ifA_yes rfl (wpAny_pure ?_)
  have seq : ∀ {β : Type} {s₁ : Shared} {f : Option (Array Value) → Sem β} {R : β → Shared → Prop} {E' : Value → Shared → Prop}, s₁.heap = s.heap → wpAny (model prog w) A.in1 (f (some (bsVals l).toArray)) R E' s₁ → wpAny (model prog w) A.in1 (seqItems? (.ref a) >>= f) R E' s₁ := by
    intro β s₁ f R E' e h1
    obtain ⟨o, ho, hc, n, hdata⟩ := hl
    unfold seqItems?
    refine wpAny_bind (wpAny_bind (wpAny_load (by rw [e]; exact ho) ?_))
    rw [hdata]
    exact wpAny_pure h1
  refine seq rfl ?_
  dsimp only
  have fin : ∀ (parts : Array (Array UInt8)) (taken : List (Value × Option Value)) (R : PySem.Fin → Shared → Prop) (E' : Value → Shared → Prop), parts = (l.map fun p => p.1.toArray).toArray → taken = (l.map fun p => (Value.bytes p.1.toArray p.2, none)) →
      (∀ t' k, R (.done (.ret (.bytes (l.map (·.1)).flatten.toArray t'))) { s with toks := k }) →
      wpAny (model prog w) A.in1 (do
        let sep ← Builtin.Bytes.payload (.bytes #[] t)
        if Builtin.Bytes.tooLong (parts.foldl (· + ·.size) (sep.size * (parts.size - 1))) then unsupported (toString (toString Builtin.Bytes.Kind.bytes.name ++ toString ".join") ++ toString ":memory")
        let result ← Builtin.Bytes.Kind.bytes.new (Builtin.Bytes.joined sep parts.toList)
        holding (result :: taken.flatMap fun (y, u) => y :: u.toList) point
        Builtin.Bytes.joinLetGo taken [result]
        ret result) R E' s := by
    rintro parts taken R E' rfl rfl hR
    refine wpAny_bind (m := Builtin.Bytes.payload (.bytes #[] t)) (wpAny_of_eq (a := #[]) rfl ?_)
    refine ifA_no' ?_ ?_
    · have h1 := join_len l 0
      simp only [Builtin.Bytes.tooLong, decide_eq_false_iff_not, sizeLine_eq, List.size_toArray, List.length_nil, Nat.zero_mul, List.foldl_toArray']
      show ¬ _ > _
      rw [show (List.foldl (fun x1 x2 => x1 + x2.size) 0 (List.map (fun p => p.fst.toArray) l)) = _ from h1]
      omega
    refine wpAny_bind (m := mkBytes _) (wpAny_mkBytes ?_ ?_)
    · refine wpAny_bind (wpAny_holding (wpAny_point ?_))
      refine wpAny_bind (joinLet ?_ l)
      refine wpAny_pure ?_
      rw [List.toList_toArray, join_flat]
      exact hR _ _
    · rw [List.toList_toArray, join_flat, List.size_toArray, sizeLine_eq]
      omega
  refine ifA_yes rfl ?_
  rcases hc : l with _ | ⟨p, _ | ⟨q, r⟩⟩
  · exact absurd hc hne
  · subst hc
    show wpAny _ _ (typeOf (.bytes p.1.toArray p.2) >>= fun q => _) _ _ s
    refine wpAny_bind (wpAny_typeOf (typeIs_bytes _ _ _) ?_)
    refine ifA_yes rfl ?_
    refine wpAny_bind (wpAny_rule (wpAny_pure ?_))
    have h1 := h p.2 s.toks
    simp only [List.map_cons, List.map_nil, List.flatten_cons, List.flatten_nil, List.append_nil] at h1
    exact h1
  · show wpAny _ _ (forIn [:(bsVals _).toArray.size] ((#[] : Array (Array UInt8)), ([] : List (Value × Option Value))) _ >>= _) _ _ s
    rw [← hc]
    clear hc
    have hb : (bsVals l).length = l.length := by simp [bsVals]
    have hlen : (bsVals l).toArray.size = l.length := hb
    rw [KPc.range_list]
    refine wpAny_bind (wpAny_forIn_list _ (fun rest b s' => s' = s ∧ ∃ i, rest = List.range' i ((bsVals l).toArray.size - i) 1 ∧ i ≤ (bsVals l).toArray.size ∧ b = (((l.take i).map fun p => p.1.toArray).toArray, (l.take i).map fun p => (Value.bytes p.1.toArray p.2, none))) _ ?turn ?fin _ _ ?start)
    case start => exact ⟨rfl, 0, rfl, Nat.zero_le _, rfl⟩
    case fin =>
      rintro b s' ⟨rfl, i, h2, h3, rfl⟩
      have hi : i = l.length := by
        have := congrArg List.length h2
        rw [hlen] at this h3
        simp only [List.length_nil, List.length_range'] at this
        omega
      subst hi
      rw [List.take_length]
      exact fin _ _ _ _ rfl rfl fun t' k => h t' k
    case turn =>
      rintro x rest b s' ⟨rfl, i, h2, h3, rfl⟩
      have hi : i < l.length := by
        have := congrArg List.length h2
        rw [hlen] at this
        simp only [List.length_cons, List.length_range'] at this
        omega
      rw [hlen, show l.length - i = (l.length - (i + 1)) + 1 by omega, List.range'_succ] at h2
      obtain ⟨rfl, rfl⟩ := List.cons.inj h2
      have hx : (bsVals l).toArray.getD x .none = .bytes l[x].1.toArray l[x].2 := by simp [bsVals, hi]
      refine seq rfl ?_
      dsimp only
      refine ifA_no' ?_ ?_
      · rw [show (Builtin.Bytes.Kind.bytes == Builtin.Bytes.Kind.bytearray) = false from rfl, Bool.false_or, List.any_eq_false]
        intro y hy
        obtain ⟨p, _, rfl⟩ := List.mem_map.mp hy
        simp [Value.onHeap]
      rw [hx]
      refine wpAny_bind (wpAny_holding (wpAny_of_eq ba_take ?_))
      dsimp only
      refine seq rfl ?_
      dsimp only
      refine ifA_no' (by simp) ?_
      refine wpAny_pure ⟨rfl, x + 1, by rw [hlen], by omega, ?_⟩
      rw [List.take_succ_eq_append_getElem hi]
      simp only [List.map_append, List.map_cons, List.map_nil, List.push_toArray]
end

/-! LawH -/
/-- the law ahead of its second loop -/
noncomputable def SinkI (h₀ : Heap) (L : Addr) (s : Shared) (w : World) (B : Nat) (tb : Tok) (ck : Int) (tc : Tok) (ps : List (Str × Value)) (nx : List (Addr × Obj)) (en rc nl : Addr) (s' : Shared) : Prop :=
  ∃ (h : Heap) (tk : Nat) (m : Str → Option Value) (fl x dx mk : Addr) (t0 t1 t2 t3 tl : Tok), s' = { s with heap := h, toks := tk } ∧ Fr h₀ L h m ∧ (∀ p ∈ (Str.ofString "sink", Value.ref fl) :: (Str.ofString "writer", .ref x) :: (Str.ofString "marks", .ref mk) :: ps, m p.1 = some p.2) ∧
    News h₀ L h (wObjs w x dx fl t0 t1 t2 t3 B tb ck tc ((0 : Nat) : Int) tl [] 0 ++ (mk, listOf #[] 0) :: nx) ∧ @Ne Nat x dx ∧ @Ne Nat fl mk ∧ @Ne Nat fl en ∧ @Ne Nat fl rc ∧ @Ne Nat fl nl ∧ @Ne Nat mk en ∧ @Ne Nat mk rc ∧ @Ne Nat mk nl
theorem SinkI.elim {h₀ : Heap} {L : Addr} {s : Shared} {w : World} {B : Nat} {tb : Tok} {ck : Int} {tc : Tok} {ps : List (Str × Value)} {nx : List (Addr × Obj)} {en rc nl : Addr} {s' : Shared} {P : Shared → Prop} (H : SinkI h₀ L s w B tb ck tc ps nx en rc nl s')
    (k : ∀ (h : Heap) (tk : Nat) (m : Str → Option Value) (fl x dx mk : Addr) (t0 t1 t2 t3 tl : Tok), Fr h₀ L h m → (∀ p ∈ (Str.ofString "sink", Value.ref fl) :: (Str.ofString "writer", .ref x) :: (Str.ofString "marks", .ref mk) :: ps, m p.1 = some p.2) → News h₀ L h (wObjs w x dx fl t0 t1 t2 t3 B tb ck tc ((0 : Nat) : Int) tl [] 0 ++ (mk, listOf #[] 0) :: nx) → @Ne Nat x dx → @Ne Nat fl mk → @Ne Nat fl en → @Ne Nat fl rc → @Ne Nat fl nl → @Ne Nat mk en → @Ne Nat mk rc → @Ne Nat mk nl → P { s with heap := h, toks := tk }) : P s' := by
  obtain ⟨h, tk, m, fl, x, dx, mk, t0, t1, t2, t3, tl, rfl, a1, a2, a3, a4, a5, a6, a7, a8, a9, a10, a11⟩ := H
  exact k _ _ _ _ _ _ _ _ _ _ _ _ a1 a2 a3 a4 a5 a6 a7 a8 a9 a10 a11
/-- the law's second loop, at the head of a turn -/
noncomputable def WrJ (w : World) (B : Nat) (tb : Tok) (ck : Int) (tc : Tok) (ps : List (Str × Value)) (nx0 : List (Addr × Obj)) (fl mk : Addr) (recs : List (List UInt8)) (ends : List Int) (W : List UInt8) (i : Nat) (m : Str → Option Value) (nx : List (Addr × Obj)) : Prop :=
  ∃ (x dx : Addr) (t0 t1 t2 t3 tl : Tok) (items : List Value) (n : Nat) (chunks : List (List UInt8)) (V : List UInt8) (ms : List Value) (n3 : Nat) (marks : List Int) (Wk : List UInt8),
    (∀ p ∈ (Str.ofString "sink", Value.ref fl) :: (Str.ofString "writer", .ref x) :: (Str.ofString "marks", .ref mk) :: ps, m p.1 = some p.2) ∧ @Ne Nat x dx ∧
    nx = wObjs w x dx fl t0 t1 t2 t3 B tb ck tc (V.length : Int) tl items n ++ (mk, listOf ms.toArray n3) :: nx0 ∧
    BsAre items chunks ∧ chunks.flatten = V ∧ items.length ≤ V.length ∧ V.length ≤ 896 * i ∧ IntsAre ms marks ∧ marks.length = i ∧ CutP B ck (recs.take i) marks true V ∧ Cut B ck Wk (recs.drop i) (ends.drop i) W ∧ V.length ≤ Wk.length
theorem WrJ.elim {w : World} {B : Nat} {tb : Tok} {ck : Int} {tc : Tok} {ps : List (Str × Value)} {nx0 : List (Addr × Obj)} {fl mk : Addr} {recs : List (List UInt8)} {ends : List Int} {W : List UInt8} {i : Nat} {m : Str → Option Value} {nx : List (Addr × Obj)} {P : List (Addr × Obj) → Prop} (H : WrJ w B tb ck tc ps nx0 fl mk recs ends W i m nx)
    (k : ∀ (x dx : Addr) (t0 t1 t2 t3 tl : Tok) (items : List Value) (n : Nat) (chunks : List (List UInt8)) (V : List UInt8) (ms : List Value) (n3 : Nat) (marks : List Int) (Wk : List UInt8), (∀ p ∈ (Str.ofString "sink", Value.ref fl) :: (Str.ofString "writer", .ref x) :: (Str.ofString "marks", .ref mk) :: ps, m p.1 = some p.2) → @Ne Nat x dx → BsAre items chunks → chunks.flatten = V → items.length ≤ V.length → V.length ≤ 896 * i → IntsAre ms marks → marks.length = i → CutP B ck (recs.take i) marks true V → Cut B ck Wk (recs.drop i) (ends.drop i) W → V.length ≤ Wk.length → P (wObjs w x dx fl t0 t1 t2 t3 B tb ck tc (V.length : Int) tl items n ++ (mk, listOf ms.toArray n3) :: nx0)) : P nx := by
  obtain ⟨x, dx, t0, t1, t2, t3, tl, items, n, chunks, V, ms, n3, marks, Wk, a0, a1, rfl, a3, a4, a5, a6, a7, a8, a9, a10, a11⟩ := H
  exact k _ _ _ _ _ _ _ _ _ _ _ _ _ _ _ a0 a1 a3 a4 a5 a6 a7 a8 a9 a10 a11
theorem inst_it {C d : Addr} {k l : Int} : instObj C d ≠ itObj k l := ne_cls (fun e => by cases e)
theorem dict_it {es : List DictEntry} {c : Nat} {k l : Int} : dictOf es c ≠ itObj k l := ne_cls (ty_ne (by decide))
theorem wrJ_it {w : World} {B : Nat} {tb : Tok} {ck : Int} {tc : Tok} {ps : List (Str × Value)} {nx0 : List (Addr × Obj)} {fl mk : Addr} {recs : List (List UInt8)} {ends : List Int} {W : List UInt8} (h0 : ∀ p ∈ nx0, ∀ k l, p.2 ≠ itObj k l) :
    ∀ i m nx, WrJ w B tb ck tc ps nx0 fl mk recs ends W i m nx → ∀ p ∈ nx, ∀ k l, p.2 ≠ itObj k l := by
  rintro i m nx ⟨x, dx, t0, t1, t2, t3, tl, items, n, chunks, V, ms, n3, marks, Wk, _, _, rfl, _⟩ p hp k l
  simp only [List.mem_append, List.mem_cons, List.not_mem_nil, or_false] at hp
  rcases hp with (rfl | rfl | rfl) | rfl | hp
  · exact inst_it
  · exact dict_it
  · exact list_it
  · exact list_it
  · exact h0 p hp k l
/-- the law behind its second loop -/
noncomputable def WrittenI (h₀ : Heap) (L : Addr) (s : Shared) (w : World) (B : Nat) (tb : Tok) (ck : Int) (tc : Tok) (ps : List (Str × Value)) (nx0 : List (Addr × Obj)) (fl mk : Addr) (recs : List (List UInt8)) (ends : List Int) (W : List UInt8) (c : Nat) (s' : Shared) : Prop :=
  ∃ h tk m nx, s' = { s with heap := h, toks := tk } ∧ Fr h₀ L h m ∧ News h₀ L h nx ∧ WrJ w B tb ck tc ps nx0 fl mk recs ends W c m nx
theorem WrittenI.elim {h₀ : Heap} {L : Addr} {s : Shared} {w : World} {B : Nat} {tb : Tok} {ck : Int} {tc : Tok} {ps : List (Str × Value)} {nx0 : List (Addr × Obj)} {fl mk : Addr} {recs : List (List UInt8)} {ends : List Int} {W : List UInt8} {c : Nat} {s' : Shared} {P : Shared → Prop} (H : WrittenI h₀ L s w B tb ck tc ps nx0 fl mk recs ends W c s')
    (k : ∀ h tk m nx, Fr h₀ L h m → News h₀ L h nx → WrJ w B tb ck tc ps nx0 fl mk recs ends W c m nx → P { s with heap := h, toks := tk }) : P s' := by
  obtain ⟨h, tk, m, nx, rfl, a1, a2, a3⟩ := H
  exact k _ _ _ _ a1 a2 a3
/-- a turn of it: the writer chosen -/
noncomputable def WriterI (h₀ : Heap) (L : Addr) (s : Shared) (w : World) (B : Nat) (tb : Tok) (ck : Int) (tc : Tok) (fl : Addr) (ln : Int) (items : List Value) (n : Nat) (ps : List (Str × Value)) (nx : List (Addr × Obj)) (s' : Shared) : Prop :=
  ∃ (h : Heap) (tk : Nat) (m : Str → Option Value) (x dx : Addr) (t0 t1 t2 t3 tl : Tok), s' = { s with heap := h, toks := tk } ∧ Fr h₀ L h m ∧ (∀ p ∈ (Str.ofString "writer", Value.ref x) :: ps, m p.1 = some p.2) ∧ @Ne Nat x dx ∧
    News h₀ L h (wObjs w x dx fl t0 t1 t2 t3 B tb ck tc ln tl items n ++ nx)
theorem WriterI.elim {h₀ : Heap} {L : Addr} {s : Shared} {w : World} {B : Nat} {tb : Tok} {ck : Int} {tc : Tok} {fl : Addr} {ln : Int} {items : List Value} {n : Nat} {ps : List (Str × Value)} {nx : List (Addr × Obj)} {s' : Shared} {P : Shared → Prop} (H : WriterI h₀ L s w B tb ck tc fl ln items n ps nx s')
    (k : ∀ (h : Heap) (tk : Nat) (m : Str → Option Value) (x dx : Addr) (t0 t1 t2 t3 tl : Tok), Fr h₀ L h m → (∀ p ∈ (Str.ofString "writer", Value.ref x) :: ps, m p.1 = some p.2) → @Ne Nat x dx → News h₀ L h (wObjs w x dx fl t0 t1 t2 t3 B tb ck tc ln tl items n ++ nx) → P { s with heap := h, toks := tk }) : P s' := by
  obtain ⟨h, tk, m, x, dx, t0, t1, t2, t3, tl, rfl, a1, a2, a3, a4⟩ := H
  exact k _ _ _ _ _ _ _ _ _ _ a1 a2 a3 a4
/-- a turn of it: the record written, its end marked -/
noncomputable def MarkI (h₀ : Heap) (L : Addr) (s : Shared) (w : World) (B : Nat) (tb : Tok) (ck : Int) (tc : Tok) (fl mk x dx : Addr) (V r : List UInt8) (ms : List Value) (n3 : Nat) (ps : List (Str × Value)) (nx : List (Addr × Obj)) (s' : Shared) : Prop :=
  ∃ (h : Heap) (tk : Nat) (m : Str → Option Value) (t0 t1 t2 t3 tl tm : Tok) (items : List Value) (n : Nat) (chunks : List (List UInt8)) (V' : List UInt8), s' = { s with heap := h, toks := tk } ∧ Fr h₀ L h m ∧ (∀ p ∈ ps, m p.1 = some p.2) ∧
    News h₀ L h (wObjs w x dx fl t0 t1 t2 t3 B tb ck tc (V'.length : Int) tl items n ++ (mk, listOf (ms ++ [Value.int (V'.length : Int) tm]).toArray (n3 + 1)) :: nx) ∧
    BsAre items chunks ∧ chunks.flatten = V' ∧ items.length ≤ V'.length ∧ V'.length ≤ V.length + 896 ∧ Lay B ck V r false true V'
theorem MarkI.elim {h₀ : Heap} {L : Addr} {s : Shared} {w : World} {B : Nat} {tb : Tok} {ck : Int} {tc : Tok} {fl mk x dx : Addr} {V r : List UInt8} {ms : List Value} {n3 : Nat} {ps : List (Str × Value)} {nx : List (Addr × Obj)} {s' : Shared} {P : Shared → Prop} (H : MarkI h₀ L s w B tb ck tc fl mk x dx V r ms n3 ps nx s')
    (k : ∀ (h : Heap) (tk : Nat) (m : Str → Option Value) (t0 t1 t2 t3 tl tm : Tok) (items : List Value) (n : Nat) (chunks : List (List UInt8)) (V' : List UInt8), Fr h₀ L h m → (∀ p ∈ ps, m p.1 = some p.2) → News h₀ L h (wObjs w x dx fl t0 t1 t2 t3 B tb ck tc (V'.length : Int) tl items n ++ (mk, listOf (ms ++ [Value.int (V'.length : Int) tm]).toArray (n3 + 1)) :: nx) → BsAre items chunks → chunks.flatten = V' → items.length ≤ V'.length → V'.length ≤ V.length + 896 → Lay B ck V r false true V' → P { s with heap := h, toks := tk }) : P s' := by
  obtain ⟨h, tk, m, t0, t1, t2, t3, tl, tm, items, n, chunks, V', rfl, a1, a2, a3, a4, a5, a6, a7, a8⟩ := H
  exact k _ _ _ _ _ _ _ _ _ _ _ _ _ a1 a2 a3 a4 a5 a6 a7 a8
theorem w_off {h₀ : Heap} {L : Addr} {h : Heap} {l rest : List (Addr × Obj)} {w : World} {x dx fl : Addr} {t0 t1 t2 t3 tb tc tl : Tok} {bl ck ln : Int} {items : List Value} {n : Nat} (N : News h₀ L h l) (h1 : ∀ p ∈ wObjs w x dx fl t0 t1 t2 t3 bl tb ck tc ln tl items n, p ∈ l) (h2 : ∀ p ∈ rest, p ∈ l)
    (h3 : ∀ p ∈ rest, (∀ C d, p.2 ≠ instObj C d) ∧ (∀ es c, p.2 ≠ dictOf es c) ∧ @Ne Nat p.1 fl) : ∀ p ∈ rest, p.1 ∉ (wObjs w x dx fl t0 t1 t2 t3 bl tb ck tc ln tl items n).map (·.1) := fun p hp hq => by
  obtain ⟨a, b, c⟩ := h3 p hp
  simp only [List.map_cons, List.map_nil, List.mem_cons, List.not_mem_nil, or_false] at hq
  rcases hq with hq | hq | hq
  · exact news_ne N (h2 p hp) (h1 _ (List.Mem.head _)) (a _ _) hq
  · exact news_ne N (h2 p hp) (h1 _ (List.Mem.tail _ (List.Mem.head _))) (b _ _) hq
  · exact c hq
theorem news_w {h₀ : Heap} {L : Addr} {h : Heap} {rest nx : List (Addr × Obj)} {w : World} {x dx fl : Addr} {t0 t1 t2 t3 tb tc tl : Tok} {bl ck ln : Int} {items : List Value} {n : Nat} (N : News h₀ L h ((x, instObj 184 dx) :: (dx, dictOf (wD w t0 t1 t2 t3 fl bl tb ck tc ln tl) 4) :: rest)) (hs : ∀ p ∈ (fl, listOf items.toArray n) :: nx, p ∈ rest) :
    News h₀ L h (wObjs w x dx fl t0 t1 t2 t3 bl tb ck tc ln tl items n ++ nx) := fun p hp => by
  refine N p ?_
  rcases List.mem_append.mp hp with h1 | h1
  · simp only [List.mem_cons, List.not_mem_nil, or_false] at h1
    rcases h1 with h1 | h1 | h1
    · simp [h1]
    · simp [h1]
    · exact List.Mem.tail _ (List.Mem.tail _ (hs p (h1 ▸ List.Mem.head _)))
  · exact List.Mem.tail _ (List.Mem.tail _ (hs p (List.Mem.tail _ h1)))
theorem news_w2 {h₀ : Heap} {L : Addr} {h : Heap} {a : Addr × Obj} {rest nx : List (Addr × Obj)} {w : World} {x dx fl : Addr} {t0 t1 t2 t3 tb tc tl : Tok} {bl ck ln : Int} {items : List Value} {n : Nat} (N : News h₀ L h (a :: (x, instObj 184 dx) :: (dx, dictOf (wD w t0 t1 t2 t3 fl bl tb ck tc ln tl) 4) :: rest)) (hs : ∀ p ∈ (fl, listOf items.toArray n) :: nx, p ∈ a :: rest) :
    News h₀ L h (wObjs w x dx fl t0 t1 t2 t3 bl tb ck tc ln tl items n ++ nx) :=
  news_w (rest := a :: rest) (fun p hp => N p (by
    simp only [List.mem_cons] at hp ⊢
    rcases hp with h1 | h1 | h1 | h1 <;> simp [h1])) hs
theorem cell_inst {o : Obj} {v : Option Value} {C d : Addr} (h : o.data = .cell v) : o ≠ instObj C d := fun e => by
  rw [e] at h
  cases h
theorem cell_dict {o : Obj} {v : Option Value} {es : List DictEntry} {c : Nat} (h : o.data = .cell v) : o ≠ dictOf es c := fun e => by
  rw [e] at h
  cases h
theorem BsAre.vals {vs : List Value} {bs : List (List UInt8)} (h : BsAre vs bs) : ∃ l : List (List UInt8 × Tok), vs = bsVals l ∧ l.map (·.1) = bs := by
  induction h with
  | nil => exact ⟨[], rfl, rfl⟩
  | @cons b t vs bs _ ih =>
    obtain ⟨l, rfl, rfl⟩ := ih
    exact ⟨(b, t) :: l, rfl, rfl⟩
section
variable {prog : Program} {w : World} {A : Around} {E : Value → Shared → Prop} {s : Shared} {env : Env}
theorem join_led {h₀ : Heap} {L a : Addr} {news : List (Addr × Obj)} {l : List (List UInt8 × Tok)} {n : Nat} {t : Tok} {V : List UInt8} {Q : Value → Shared → Prop} (N : News h₀ L s.heap news) (hm : (a, listOf (bsVals l).toArray n) ∈ news) (hne : l ≠ []) (hV : (l.map (·.1)).flatten = V) (hz : V.length ≤ 1000000)
    (h : ∀ t' k, Q (.bytes V.toArray t') { s with toks := k }) : wpAny (model prog w) A (call (.builtin "bytes.join") [.bytes #[] t, .ref a]) Q E s := by
  subst hV
  exact bytes_join (News.isList N hm) hne hz h
theorem wpB_or_nil {pos : Pos} {whole : Sem Value} {Q : Bool → Shared → Prop} (h : Q false s) : wpB (model prog w) A (isTrue (.BoolOp .Or [] pos) env whole) Q E s := by
  show wpB _ A (pure false) Q E s
  exact wpB_pure h
end
theorem if_f {P Q : Prop} (h : Q) : if (false : Bool) = true then P else Q := by simpa using h
theorem lay_pos {B : Nat} {c : Int} {W r W' : List UInt8} {b p : Bool} (h : Lay B c W r b p W') : 7 ≤ W'.length := by
  cases h with
  | last h =>
    rw [stepW_len (Nat.le_refl _)]
    omega
  | more h t =>
    have h1 := t.pre.length_le
    rw [stepW_len (by omega)] at h1
    omega
theorem cutP_pos {B : Nat} {c : Int} {rs : List (List UInt8)} {es : List Int} {p : Bool} {W : List UInt8} (h : CutP B c rs es p W) (hz : rs ≠ []) : W ≠ [] := by
  cases h with
  | nil => exact absurd rfl hz
  | snoc _ l =>
    intro e
    have := lay_pos l
    rw [e] at this
    exact absurd this (by decide)
/-- the writer's octets joined -/
noncomputable def JoinI (h₀ : Heap) (L : Addr) (s : Shared) (V : List UInt8) (ps : List (Str × Value)) (nx : List (Addr × Obj)) (s' : Shared) : Prop :=
  ∃ h tk m t, s' = { s with heap := h, toks := tk } ∧ Fr h₀ L h m ∧ (∀ p ∈ (Str.ofString "written", Value.bytes V.toArray t) :: ps, m p.1 = some p.2) ∧ News h₀ L h nx
theorem JoinI.elim {h₀ : Heap} {L : Addr} {s : Shared} {V : List UInt8} {ps : List (Str × Value)} {nx : List (Addr × Obj)} {s' : Shared} {P : Shared → Prop} (H : JoinI h₀ L s V ps nx s')
    (k : ∀ h tk m t, Fr h₀ L h m → (∀ p ∈ (Str.ofString "written", Value.bytes V.toArray t) :: ps, m p.1 = some p.2) → News h₀ L h nx → P { s with heap := h, toks := tk }) : P s' := by
  obtain ⟨h, tk, m, t, rfl, a1, a2, a3⟩ := H
  exact k _ _ _ _ a1 a2 a3

/-! Law -/
section
set_option maxHeartbeats 8000000 in
theorem law_holds : PySem.Challenge.rw_nz0363_01.Holds := by
  w_top off
  k_with_none
  k_with "execs cons" => (((try k_fold); (try (conv => arg 6; dsimp only)); refine gen_toks ?_; intro tkκ; refine wpAny_execs_cons ?_))
  k_with "storeName" => ((k_here; (try (conv => arg 6; dsimp only)); k_dflt (first
  | ((with_reducible show wpAny _ _ (storeName _ _ (Value.int _ _)) _ _ _); (refine' store_intL (by k_asm) (by k_asm) ?_ (by rfl) (by rfl); k_whole; intro h'κ t'κ tk'κ m'κ F'κ N'κ; (try k_sweep)))
  | ((with_reducible show wpAny _ _ (storeName _ _ (Value.bytes _ _)) _ _ _); (refine' store_bytesL (by k_asm) (by k_asm) ?_ (by rfl) (by rfl); k_whole; intro h'κ t'κ tk'κ m'κ F'κ N'κ; (try k_sweep)))
  | (refine' store_anyL (by k_asm) (by k_asm) ?_ (by rfl) (by rfl); k_whole; intro h'κ tk'κ m'κ F'κ N'κ; (try k_sweep)))))
  k_with "binaryOp RShift int int" => ((with_reducible refine rshift_int (by decide) ?_))
  k_with "call ref" => ((k_here; (with_reducible show wpAny _ _ (call (Value.ref 244) _) _ _ _); k_dflt (refine' MSpec.keepL (by k_asm) (by k_asm) (by k_asm) (by k_asm) (by k_asm) (by exact rfl) (by first | exact rfl | assumption) (by exact rfl) (by exact Nat.le_of_ble_eq_true rfl) (by exact Nat.le_of_ble_eq_true rfl) (by exact fun _ _ r => r.1) (by exact sub_cons (by k_mem) sub_nil) (draw_int _ _ _ _ _ _ _ (by assumption) (by omega) (by omega) (by assumption) (by assumption) (by assumption)) ?_; rintro v'κ h'κ tk'κ ⟨_, z'κ, t'κ, e1κ, hz'κ⟩ F'κ N'κ; subst e1κ; (try k_sweep))))
  k_with "exec For Name Call cons nil" => (kpr_for)
  k_with "pyIter ref" => ((refine hold ?_))
  k_with "storeName" => ((k_here; k_dflt (refine' storeC_F (by k_asm) (by k_asm) (by rfl) (by k_updF) (by k_asm) ?_ (by rfl) (by rfl); k_whole); intro h'κ o'κ F'κ N'κ d'κ; (try dsimp only at N'κ); (try k_sweep)))
  k_with "binaryOp Mod int int" => ((k_here; (with_reducible show wpAny _ _ (binaryOp Operator.Mod (Value.int _ _) (Value.int (_ - _) _)) _ _ _); k_dflt (refine' mod_new (by omega) ?_; intro k'κ hk'κ)))
  k_with "binaryOp Mod int int" => ((k_here; (with_reducible show wpAny _ _ (binaryOp Operator.Mod (Value.int _ _) (Value.int _ _)) _ _ _); k_dflt (refine' mod_nat (by exact rfl) (by exact rfl) (by omega) ?_; intro hmod'κ)))
  k_with "exec While UnaryOp cons nil" => ((refine hold ?_))
  k_with "binaryOp Add bytes bytes" => ((k_here; (with_reducible show wpAny _ _ (binaryOp Operator.Add (Value.bytes (List.toArray _) _) (Value.bytes (List.toArray _) _)) _ _ _); k_dflt (refine' add_by (by (first | omega | ((try simp only [List.length_append, List.length_cons, List.length_nil, List.length_replicate, List.length_take, List.length_drop, frag_length, le32_length, List.size_toArray]); omega))) ?_; intro t'κ k'κ)))
  k_with "subscriptTail" => ((k_here; (with_reducible show wpAny _ _ (subscriptTail _ _ (Value.ref _) (Value.int _ _)) _ _ _); k_dflt (refine' list_item (by k_asm) (by k_mem) (by assumption) (by omega) (by omega) ?_ (by with_unfolding_all rfl))))
  k_with "subscriptTail" => ((k_here; (with_reducible show wpAny _ _ (subscriptTail _ (Expr.Slice _ _ none _) (Value.bytes (List.toArray _) _) (Value.ref _)) _ _ _); (with_reducible rename Fr _ _ _ _ => F'κ); (with_reducible rename News _ _ _ _ => N'κ); (first
  | (refine slice_take (s := ⟨_, _, _, _, _⟩) F'κ N'κ (by constructor) (by constructor) (by omega) (by omega) ?_ (by with_unfolding_all rfl) (by intro _; with_unfolding_all rfl))
  | (refine slice_drop (s := ⟨_, _, _, _, _⟩) F'κ N'κ (by constructor) (by constructor) (by omega) (by omega) ?_ (by with_unfolding_all rfl) (by intro _; with_unfolding_all rfl))); clear F'κ N'κ; intro h'κ t'κ k'κ F'κ N'κ))
  k_with "call ref" => ((k_here; (with_reducible show wpAny _ _ (call (Value.ref 251) _) _ _ _); k_dflt (refine' MSpec.pureL (by k_asm) (by k_asm) (by k_asm) (by k_asm) (by k_asm) (by exact rfl) (by first | exact rfl | assumption) (by exact rfl) (by exact Nat.le_of_ble_eq_true rfl) (by exact Nat.le_of_ble_eq_true rfl) (piece_spec _ _ _ _ _ _ _ (by assumption) (by (first | omega | ((try simp only [List.length_append, List.length_cons, List.length_nil, List.length_replicate, List.length_take, List.length_drop, frag_length, le32_length, List.size_toArray]); omega))) (by assumption)) ?_; rintro v'κ h'κ tk'κ ⟨nκ, e1κ, tκ, e2κ⟩ F'κ N'κ; subst e2κ; (try k_sweep))))
  k_with "call type:bytes" => ((k_here; (with_reducible show wpAny _ _ (call (Value.type "bytes") [Value.ref _]) _ _ _); k_dflt (refine' bytes_rep (by k_asm) (by k_asm) (by exact List.Mem.head _) (by exact val_bnd _) (by omega) (by exact rfl) ?_; intro h'κ t'κ k'κ F'κ N'κ; (try k_sweep))))
  k_with "execs cons" => (((with_reducible show wpAny _ _ (execs _ _) (WhileStep2 _ _ _ _ _ _) _ _); refine hold ?_))
  k_with "call ref" => ((k_here; (with_reducible show wpAny _ _ (call (Value.ref 184) _) _ _ _); k_dflt (first
  | (refine' CSpec.useL (by k_asm) (by k_asm) (by k_asm) (by k_asm) (by k_asm) (by exact rfl) (by first | exact rfl | assumption) (by exact rfl) (by exact Nat.le_of_ble_eq_true rfl) (by exact Nat.le_of_ble_eq_true rfl) (writer_new _ _ _ _ _ _ _ _ (by assumption) (by assumption) (by assumption)) ?_)
  | (refine' CSpec.useL (by k_asm) (by k_asm) (by k_asm) (by k_asm) (by k_asm) (by exact rfl) (by first | exact rfl | assumption) (by exact rfl) (by exact Nat.le_of_ble_eq_true rfl) (by exact Nat.le_of_ble_eq_true rfl) (writer_new _ _ _ _ _ _ 0 _ (by assumption) (by assumption) (by assumption)) ?_)); rintro v'κ n'κ h'κ tk'κ ⟨x'κ, dx'κ, t0'κ, t1'κ, t2'κ, t3'κ, e1κ, nn1κ, e2κ⟩ F'κ N'κ; subst e1κ; subst e2κ; (dsimp only [List.cons_append, List.nil_append] at N'κ); (try k_sweep)))
  k_with "call ref" => ((k_here; (with_reducible show wpAny _ _ (call (Value.ref 174) _) _ _ _); refine hold ?_))
  k_with "getMethod bytes" => ((k_here; (with_reducible refine join_get ?_)))
  k_with "call builtin:bytes.join" => ((k_here; (with_reducible show wpAny _ _ (call (Value.builtin "bytes.join") [Value.bytes _ _, Value.ref _]) _ _ _); (refine' join_led (by k_asm) (by k_mem) (by assumption) (by assumption) (by omega) ?_); intro t'κ k'κ))
  refine MineTop.hd ?_
  k_fill
  intro w s₀ s₁ mg mb G Y fa o pm cd doc dV kV ho hd hcd hD hmg hg args vals as hpre hlay hrd hwl hlo
  have KX := kIn_of Y
  have X := (Ground.X G).1
  have V := (Ground.X G).2
  refine Ground.open G ?_
  intro T B D TE TW
  try (refine guard_noD D (by decide +kernel) ?_; clear D)
  obtain ⟨_, _, M⟩ := bmod_of_top T
  have TA := at_of_top T
  try (obtain ⟨_, _, he, B0⟩ := based_of_top T rfl hmg ho hd; have he' : cd = _ := he; subst he'; clear he)
  clear hmg
  wrow_args hpre hlay hrd hwl hlo
  refine enter_callB ?_
  refine codeB_mono ?_ (fun _ _ g => GoodW.toG g)
  have K0 := below_caller (Top.heap T)
  have he := Dflts.none hD rfl
  subst he
  have he := Dflts.noKw hD
  subst he
  refine call_cellsB (by decide) ho (fd_plain hd) (Top.nolimit T) hcd rfl (kinds_of (by kinds_ok)) (by decide) fun h₁ tk₁ cells F N0 X0 => ?_
  cells_open X0
  clear hd TA
  k_drop
  refine wpB_cutI 2 (NumsI s₁.heap s₁.heap.objs.size s₁ (s₁.heap.objs.size + 1)) ?_ ?_
  dsimp only [List.take]
  · k_fold
    k_steps
    · (try refine ⟨rfl, ?_⟩)
      rename Fr _ _ _ _ => F7
      rename News _ _ _ _ => N7
      exact ⟨_, [Value.int 5 _], [5], 0, _, by assumption, ⟨_, _, _, rfl, F7, by kst_all, news_one N7 (by k_mem) (news_one N7 (by k_mem) News.nil)⟩, by repeat constructor, by simp, by simp, by simp⟩
    · (try refine ⟨rfl, ?_⟩)
      rename Fr _ _ _ _ => F7
      rename News _ _ _ _ => N7
      rename IntsAre _ _ => hI
      refine ⟨_, _, _, _, _, by assumption, ⟨_, _, _, rfl, F7, by kst_all, news_one N7 (List.Mem.head _) (news_one N7 (by k_mem) News.nil)⟩, hI, nums_ok _, ?_, ?_⟩
      · exact ne_of_len (by assumption)
      · rw [List.length_map, List.length_take]
        omega
  dsimp only [List.drop]
  rintro s' ⟨nl, vs, ns, n, oz, hoz, ⟨h2, tk2, m2, rfl, F2, hm2, N2⟩, hns, hb, hz, hl⟩
  clear F N0 X0
  replace F2 := fr_kst0 _ hm2 F2
  refine (fun (k : let mkκ : Str → Option Value := _; Fr _ _ _ mkκ → _) => k F2) ?_
  clear F2
  intro mkκ F2
  refine wpB_cutI 5 (ParI s₁.heap s₁.heap.objs.size s₁ nl (s₁.heap.objs.size + 1) (listOf vs.toArray n) oz) ?_ ?_
  dsimp only [List.take]
  · k_fold
    k_steps
    all_goals (try refine ⟨rfl, ?_⟩)
    all_goals
      rename Fr _ _ _ _ => F7
      rename News _ _ _ _ => N7
      exact ParI.intro F7 (by kst_all) N7 (fm7 _) (by first | exact .inl rfl | exact .inr rfl) (by first | exact fm3 _ | decide)
  dsimp only [List.drop]
  rintro s' ⟨Bk, tb, ck, tc, c, tn, ⟨h3, tk3, m3, rfl, F3, hm3, N3⟩, hB1, hB2, hck, hfew⟩
  clear F2 N2 hm2
  replace F3 := fr_kst0 _ hm3 F3
  refine (fun (k : let mkκ : Str → Option Value := _; Fr _ _ _ mkκ → _) => k F3) ?_
  clear F3
  intro mkκ F3
  refine wpB_cutI 5 (InitI s₁.heap s₁.heap.objs.size s₁ [(Str.ofString "nums", .ref nl), (Str.ofString "block", .int (Bk : Int) tb), (Str.ofString "check", .int ck tc), (Str.ofString "count", .int (c : Int) tn)] [(nl, listOf vs.toArray n), (s₁.heap.objs.size + 1, oz)] nl) ?_ ?_
  dsimp only [List.take]
  · k_fold
    k_steps
    all_goals (try refine ⟨rfl, ?_⟩)
    rename Fr _ _ _ _ => F7
    rename News _ _ _ _ => N7
    rename _ ∧ _ ∧ _ < _ => l7
    rename _ < _ ∧ _ < _ => l6
    exact ⟨_, _, _, _, _, _, _, rfl, F7, by kst_all, N7, Nat.ne_of_lt l7.1, Nat.ne_of_lt l7.2.1, Nat.ne_of_lt l6.1⟩
  dsimp only [List.drop]
  intro s' Hκ
  refine InitI.elim Hκ ?_
  clear Hκ
  intro h4 tk4 m4 rc en tw4 tt4 F4 hm4 N4 ner1 ner2 ner3
  clear F3 N3 hm3
  replace F4 := fr_kst0 _ hm4 F4
  refine (fun (k : let mkκ : Str → Option Value := _; Fr _ _ _ mkκ → _) => k F4) ?_
  clear F4
  intro mkκ F4
  refine wpB_cutI 1 (CutI s₁.heap s₁.heap.objs.size s₁ Bk tb ck tc c tn nl rc en (s₁.heap.objs.size + 1) vs n) ?_ ?_
  dsimp only [List.take]
  · k_fold
    k_steps
    unfold Hold
    rename IsRange _ _ _ _ _ _ _ _ => rg
    rename Fr _ _ _ _ => F5
    rename News _ _ _ _ => N5
    refine' rangeC (n := c) (CutJ Bk tb ck tc c tn nl rc en (s₁.heap.objs.size + 1) vs n) cutJ_it rfl rg ?small ?size F5 N5 ?h0 ?turn ?done
    case small => exact small_one (by have := hfew.1; omega) (by have := hfew.2; omega) (by omega) (by have := hfew.2; omega)
    case size => exact rangeSize_nat _ _
    case h0 => exact ⟨[], [], 0, 0, [], [], [], _, true, 0, _, oz, _, by kst_all, hoz, rfl, .nil, .nil, by simp, .nil, rfl, Nat.zero_le _, Nat.zero_le _⟩
    case turn =>
      clear rg F5 N5
      intro i t m₁ nx h tk I ik il hi Hκ
      refine CutJ.elim (P := fun nxκ => Fr _ _ h _ → News _ _ h ((I, itObj ik il) :: nxκ) → _) Hκ ?_
      clear Hκ
      intro vs1 es1 n1 n2 recs ends W tw pl tu tt oz1 vz hm1 hoz1 hvs1 hes1 hsm hcut hlen htu hWl F1 N1
      replace F1 := fr_kst _ hm1 F1
      refine (fun (k : let mkκ : Str → Option Value := _; Fr _ _ _ mkκ → _) => k F1) ?_
      clear F1
      intro mkκ F1
      have hi3 : i < 3 := by have := hfew.2; omega
      have hl1 : vs1.length ≤ 10 := by have := hvs1.length; omega
      have hl2 : es1.length ≤ 10 := by have h1 := hes1.length; have h2 := hcut.len; omega
      have ner1' : @Ne Nat en rc := ner1.symm
      have ne1 := news_ne N1 (a := I) (List.Mem.head _) (by k_mem : (_, listOf es1.toArray n2) ∈ _) list_it.symm
      have ne2 := news_ne N1 (a := I) (List.Mem.head _) (by k_mem : (_, listOf vs1.toArray n1) ∈ _) list_it.symm
      have ne3 := news_ne N1 (a := I) (List.Mem.head _) (by k_mem : (_, listOf vs.toArray n) ∈ _) list_it.symm
      have ne4 := news_ne N1 (a := I) (List.Mem.head _) (by k_mem : (_, oz1) ∈ _) (cell_it hoz1).symm
      have ne5 := news_ne N1 (by k_mem : (_, oz1) ∈ _) (by k_mem : (_, listOf es1.toArray n2) ∈ _) (cell_list hoz1)
      have ne6 := news_ne N1 (by k_mem : (_, oz1) ∈ _) (by k_mem : (_, listOf vs1.toArray n1) ∈ _) (cell_list hoz1)
      have ne7 := news_ne N1 (by k_mem : (_, oz1) ∈ _) (by k_mem : (_, listOf vs.toArray n) ∈ _) (cell_list hoz1)
      refine wpA_cutI 2 (RestI s₁.heap s₁.heap.objs.size s₁ [(Str.ofString "k", .int (0 + (i : Nat)) t), (Str.ofString "nums", .ref nl), (Str.ofString "block", .int (Bk : Int) tb), (Str.ofString "check", .int ck tc), (Str.ofString "count", .int (c : Int) tn), (Str.ofString "records", .ref rc), (Str.ofString "ends", .ref en),
        (Str.ofString "out", .bytes W.toArray tw), (Str.ofString "plain", .bool pl), (Str.ofString "turn", .int (tu : Int) tt)] [(I, itObj ik il), (en, listOf es1.toArray n2), (rc, listOf vs1.toArray n1), (nl, listOf vs.toArray n)] (s₁.heap.objs.size + 1)) ?_ ?_
      dsimp only [List.take]
      · k_fold
        k_steps
        all_goals (try refine ⟨rfl, ?_⟩)
        rename Fr _ _ _ _ => F7
        rename News _ _ _ _ => N7
        refine ⟨_, _, _, _, _, _, _, rfl, F7, by kst_all, (fun p hp => N7 p (List.Mem.tail _ hp)), by assumption, ?_⟩
        simp only [List.length_map, rangeKs_length]
        omega
      dsimp only [List.drop]
      clear F1
      intro s' Hκ
      refine RestI.elim Hκ ?_
      clear Hκ
      intro h8 tk8 m8 r8 tr8 oz8 vz8 F8 hm8 N8 hoz8 hr8
      replace F8 := fr_kst0 _ hm8 F8
      refine (fun (k : let mkκ : Str → Option Value := _; Fr _ _ _ mkκ → _) => k F8) ?_
      clear F8
      intro mkκ F8
      dsimp only [List.cons_append, List.nil_append] at N8
      k_steps
      unfold Hold
      rename Fr _ _ _ _ => F9
      rename News _ _ _ _ => N9
      rw [List.push_toArray] at N9
      refine' While_inv2 (LayJ Bk ck W r8 pl tu [(Str.ofString "k", .int (0 + (i : Nat)) t), (Str.ofString "nums", .ref nl), (Str.ofString "block", .int (Bk : Int) tb), (Str.ofString "check", .int ck tc), (Str.ofString "count", .int (c : Int) tn), (Str.ofString "records", .ref rc), (Str.ofString "ends", .ref en)] [(I, itObj ik il), (en, listOf es1.toArray n2), (rc, listOf (vs1 ++ [Value.bytes r8.toArray tr8]).toArray (n1 + 1)), (nl, listOf vs.toArray n), (s₁.heap.objs.size + 1, oz8)]) F9 N9 ?j0 ?wturn
      case j0 => exact ⟨⟨W, tw, r8, tr8, false, false, 4, _, tu, tt, pl⟩, rfl, lay_start hr8, by kst_all, rfl⟩
      case wturn =>
        clear F9 N9
        rintro n0 m1 nx1 h1 tk1 F1 N1 ⟨⟨W1, tw1, rest1, tr1, begun1, ended1, free1, tf1, tu1, tt1, pl1⟩, rfl, hP, hm1, rfl⟩
        dsimp only [layNames, List.cons_append, List.nil_append] at hm1
        replace F1 := fr_kst0 _ hm1 F1
        refine (fun (k : let mkκ : Str → Option Value := _; Fr _ _ _ mkκ → _) => k F1) ?_
        clear F1
        intro mkκ F1
        have hw := hP.wide
        have ht := hP.turns
        have hr1 := hP.rest
        have hf1 := hP.free
        dsimp only at hw ht hr1 hf1
        have hw1 : W1.length ≤ 30000 := by omega
        have ht1 : tu1 ≤ 1000 := by omega
        clear hw ht
        cases ended1
        · k_steps
          unfold Hold
          refine wpA_cutI 4 (FillI s₁.heap s₁.heap.objs.size s₁ Bk W1 tu1 pl1 [(Str.ofString "rest", .bytes rest1.toArray tr1), (Str.ofString "begun", .bool begun1), (Str.ofString "ended", .bool false), (Str.ofString "free", .int (free1 : Int) tf1), (Str.ofString "k", .int (0 + (i : Nat)) t), (Str.ofString "nums", .ref nl), (Str.ofString "block", .int (Bk : Int) tb), (Str.ofString "check", .int ck tc), (Str.ofString "count", .int (c : Int) tn), (Str.ofString "records", .ref rc), (Str.ofString "ends", .ref en)] [(I, itObj ik il), (en, listOf es1.toArray n2), (rc, listOf (vs1 ++ [Value.bytes r8.toArray tr8]).toArray (n1 + 1)), (nl, listOf vs.toArray n), (s₁.heap.objs.size + 1, oz8)]) ?_ ?_
          dsimp only [List.take]
          · k_fold
            k_steps
            all_goals (try refine ⟨rfl, ?_⟩)
            · rename Fr _ _ _ _ => F7
              rename News _ _ _ _ => N7
              rename (_ : Int) < 7 => hlt
              have hq := fill_in hlt
              refine FillI.intro F7 (news_tail2 N7) (by kst_all) _ (congrArg (fun q => W1 ++ List.replicate q _) hq.1.symm) (by rw [hq.2]) ?_
              rw [fill_ok hB1 (val_bnd _) (fill_pos hB1 hlt)]
              by_cases hpl : pl1 = true
              · rw [hpl, Bool.true_and]
              · exact absurd (by assumption) hpl
            · rename Fr _ _ _ _ => F7
              rename News _ _ _ _ => N7
              rename (_ : Int) < 7 => hlt
              have hq := fill_in hlt
              refine FillI.intro F7 (news_tail2 N7) (by kst_all) _ (congrArg (fun q => W1 ++ List.replicate q _) hq.1.symm) (by rw [hq.2]) ?_
              by_cases hpl : pl1 = true
              · first | exact absurd hpl (by assumption) | (have h9 : pl1 = false := (by assumption); rw [h9] at hpl; cases hpl) | (exfalso; simp_all; done)
              · rw [eq_false_of_ne_true hpl, Bool.false_and]
            · rename Fr _ _ _ _ => F7
              rename News _ _ _ _ => N7
              rename ¬ (_ : Int) < 7 => hlt
              have hq := fill_out hB1 hlt
              exact FillI.intro F7 N7 (by kst_all) 0 (by rw [hq.1]; simp) hq.2 (by rw [fillOk_zero, Bool.and_true])
          dsimp only [List.drop]
          intro s' Hκ
          refine FillI.elim Hκ ?_
          clear Hκ
          intro h5 tk5 m5 y5 ty5 v5 tw5 ti5 tt5 rm5 F5 hrm5 hm5 N5
          clear F1 hm1
          replace F5 := fr_kst0 _ hm5 F5
          refine (fun (k : let mkκ : Str → Option Value := _; Fr _ _ _ mkκ → _) => k F5) ?_
          clear F5
          intro mkκ F5
          have hrm1 : 7 ≤ rm5 := hrm5 ▸ roomN_lo hB1
          have hrm2 : rm5 ≤ 14 := Nat.le_trans (hrm5 ▸ roomN_hi hB1) hB2
          refine wpA_cutI 4 (PartI s₁.heap s₁.heap.objs.size s₁ rest1.length rm5 free1 [(Str.ofString "y", .int (y5 : Int) ty5), (Str.ofString "out", .bytes (List.toArray (W1 ++ List.replicate (fillN Bk W1.length) v5)) tw5), (Str.ofString "turn", .int ((tu1 + 1 : Nat) : Int) tt5), (Str.ofString "plain", .bool (pl1 && fillOk Bk W1.length v5)), (Str.ofString "rest", .bytes rest1.toArray tr1), (Str.ofString "begun", .bool begun1), (Str.ofString "k", .int (0 + (i : Nat)) t), (Str.ofString "nums", .ref nl), (Str.ofString "block", .int (Bk : Int) tb), (Str.ofString "check", .int ck tc), (Str.ofString "count", .int (c : Int) tn), (Str.ofString "records", .ref rc), (Str.ofString "ends", .ref en)] [(I, itObj ik il), (en, listOf es1.toArray n2), (rc, listOf (vs1 ++ [Value.bytes r8.toArray tr8]).toArray (n1 + 1)), (nl, listOf vs.toArray n), (s₁.heap.objs.size + 1, oz8)]) ?_ ?_
          dsimp only [List.take]
          · k_fold
            k_steps
            all_goals (try refine ⟨rfl, ?_⟩)
            all_goals
              rename Fr _ _ _ _ => F7
              rename News _ _ _ _ => N7
              have hms := most_eq (b := rest1) hrm1
              first
                | exact PartI.intro F7 N7 (by kst_all) hms (by rw [hms]; have := fmod_pos' (a := (y5 : Int).fdiv 3) (b := ((min rest1.length (rm5 - 7) : Nat) : Int) + 1) (by omega); omega) ⟨by omega, by omega⟩ (fun _ => by assumption) (fun _ => .inr (by omega))
                | exact PartI.intro F7 N7 (by kst_all) hms (by rw [hms]; have := fmod_pos' (a := (y5 : Int).fdiv 3) (b := ((min rest1.length (rm5 - 7) : Nat) : Int) + 1) (by omega); omega) ⟨by omega, by omega⟩ beq_t (fun _ => .inr (by omega))
                | exact PartI.intro F7 N7 (by kst_all) hms (by rw [hms]; omega) ⟨by omega, by omega⟩ beq_t (fun h => .inl ⟨rfl, beq_f h⟩)
          dsimp only [List.drop]
          intro s' Hκ
          refine PartI.elim Hκ ?_
          clear Hκ
          intro h6 tk6 m6 mo6 part6 fr6 e6 tm6 tp6 tf6 F6 hmo6 hp6 hfr6 he6 he6' hm6 N6
          clear F5 hm5
          replace F6 := fr_kst0 _ hm6 F6
          refine (fun (k : let mkκ : Str → Option Value := _; Fr _ _ _ mkκ → _) => k F6) ?_
          clear F6
          intro mkκ F6
          refine wpA_cutI 1 (HeldI s₁.heap s₁.heap.objs.size s₁ [(Str.ofString "plain", .bool (pl1 && fillOk Bk W1.length v5 && (part6 == mo6) && (e6 == (part6 == rest1.length)))), (Str.ofString "part", .int (part6 : Int) tp6), (Str.ofString "ended", .bool e6), (Str.ofString "free", .int (fr6 : Int) tf6), (Str.ofString "out", .bytes (List.toArray (W1 ++ List.replicate (fillN Bk W1.length) v5)) tw5), (Str.ofString "turn", .int ((tu1 + 1 : Nat) : Int) tt5), (Str.ofString "rest", .bytes rest1.toArray tr1), (Str.ofString "begun", .bool begun1), (Str.ofString "k", .int (0 + (i : Nat)) t), (Str.ofString "nums", .ref nl), (Str.ofString "block", .int (Bk : Int) tb), (Str.ofString "check", .int ck tc), (Str.ofString "count", .int (c : Int) tn), (Str.ofString "records", .ref rc), (Str.ofString "ends", .ref en)] [(I, itObj ik il), (en, listOf es1.toArray n2), (rc, listOf (vs1 ++ [Value.bytes r8.toArray tr8]).toArray (n1 + 1)), (nl, listOf vs.toArray n), (s₁.heap.objs.size + 1, oz8)]) ?_ ?_
          dsimp only [List.take]
          · k_fold
            k_steps
            all_goals (try refine ⟨rfl, ?_⟩)
            all_goals
              rename Fr _ _ _ _ => F7
              rename News _ _ _ _ => N7
              first
                | exact HeldI.plain F7 N7 (by kst_all) (pl_a (by assumption) (by assumption))
                | exact HeldI.plain F7 N7 (by kst_all) (pl_b (by assumption) (by assumption))
                | exact HeldI.plain F7 N7 (by kst_all) (pl_c (by assumption))
          dsimp only [List.drop]
          intro s' Hκ
          refine HeldI.elim Hκ ?_
          clear Hκ
          intro h7 tk7 m7 F7 hm7 N7
          clear F6 hm6
          replace F7 := fr_kst0 _ hm7 F7
          refine (fun (k : let mkκ : Str → Option Value := _; Fr _ _ _ mkκ → _) => k F7) ?_
          clear F7
          intro mkκ F7
          refine wpA_cutI 2 (KindI s₁.heap s₁.heap.objs.size s₁ (kindOf begun1 e6) [(Str.ofString "plain", .bool (pl1 && fillOk Bk W1.length v5 && (part6 == mo6) && (e6 == (part6 == rest1.length)))), (Str.ofString "part", .int (part6 : Int) tp6), (Str.ofString "ended", .bool e6), (Str.ofString "free", .int (fr6 : Int) tf6), (Str.ofString "out", .bytes (List.toArray (W1 ++ List.replicate (fillN Bk W1.length) v5)) tw5), (Str.ofString "turn", .int ((tu1 + 1 : Nat) : Int) tt5), (Str.ofString "rest", .bytes rest1.toArray tr1), (Str.ofString "begun", .bool begun1), (Str.ofString "k", .int (0 + (i : Nat)) t), (Str.ofString "nums", .ref nl), (Str.ofString "block", .int (Bk : Int) tb), (Str.ofString "check", .int ck tc), (Str.ofString "count", .int (c : Int) tn), (Str.ofString "records", .ref rc), (Str.ofString "ends", .ref en)] [(I, itObj ik il), (en, listOf es1.toArray n2), (rc, listOf (vs1 ++ [Value.bytes r8.toArray tr8]).toArray (n1 + 1)), (nl, listOf vs.toArray n), (s₁.heap.objs.size + 1, oz8)]) ?_ ?_
          dsimp only [List.take]
          · clear hP hm1 hm7 he6 he6'
            k_fold
            cases begun1 <;> cases e6
            all_goals
              k_steps
              all_goals (try refine ⟨rfl, ?_⟩)
              rename Fr _ _ _ _ => F9
              rename News _ _ _ _ => N9
              exact ⟨_, _, _, _, rfl, F9, by kst_all, N9⟩
          dsimp only [List.drop]
          intro s' Hκ
          refine KindI.elim Hκ ?_
          clear Hκ
          intro h9 tk9 m9 t9 F9 hm9 N9
          clear F7 hm7
          replace F9 := fr_kst0 _ hm9 F9
          refine (fun (k : let mkκ : Str → Option Value := _; Fr _ _ _ mkκ → _) => k F9) ?_
          clear F9
          intro mkκ F9
          have hkl := kindOf_lt begun1 e6
          have hpr : part6 ≤ rest1.length := by omega
          have hfh := fillN_hi (B := Bk) (n := W1.length)
          refine wpA_cutI 3 (TurnI s₁.heap s₁.heap.objs.size s₁ (stepW Bk ck W1 rest1 begun1 v5 part6 e6) (rest1.drop part6) [(Str.ofString "ended", .bool e6), (Str.ofString "free", .int (fr6 : Int) tf6), (Str.ofString "turn", .int ((tu1 + 1 : Nat) : Int) tt5), (Str.ofString "plain", .bool (pl1 && fillOk Bk W1.length v5 && (part6 == mo6) && (e6 == (part6 == rest1.length)))), (Str.ofString "k", .int (0 + (i : Nat)) t), (Str.ofString "nums", .ref nl), (Str.ofString "block", .int (Bk : Int) tb), (Str.ofString "check", .int ck tc), (Str.ofString "count", .int (c : Int) tn), (Str.ofString "records", .ref rc), (Str.ofString "ends", .ref en)] [(I, itObj ik il), (en, listOf es1.toArray n2), (rc, listOf (vs1 ++ [Value.bytes r8.toArray tr8]).toArray (n1 + 1)), (nl, listOf vs.toArray n), (s₁.heap.objs.size + 1, oz8)]) ?_ ?_
          dsimp only [List.take]
          · k_fold
            k_steps
            all_goals (try refine ⟨rfl, ?_⟩)
            rename Fr _ _ _ _ => F11
            rename News _ _ _ _ => N11
            exact TurnI.intro F11 N11 (by kst_all) step_eq rfl
          dsimp only [List.drop]
          intro s' Hκ
          refine TurnI.elim Hκ ?_
          clear Hκ
          intro h10 tk10 m10 tw10 tr10 F10 hm10 N10
          refine wpAny_execs_nil ?_
          obtain ⟨hq1, hq2⟩ := lay_step hP rfl hB1 hB2 (v := v5) (part := part6) (free' := fr6) (e' := e6) (tw' := tw10) (tr' := tr10) (tf' := tf6) (tt' := tt5) (by dsimp only; omega) hfr6 he6 (by dsimp only; rw [← hrm5, ← hmo6]; exact he6') rfl
          dsimp only at hq1 hq2
          unfold WhileStep2
          dsimp only
          refine ⟨h10, tk10, m10, _, _, rfl, F10, N10, hq2, ⟨_, rfl, hq1, ?_, rfl⟩⟩
          dsimp only [layNames, List.cons_append, List.nil_append]
          rw [← hrm5, ← hmo6]
          exact hm10
        · k_steps
          rename Fr _ _ _ _ => F7
          rename News _ _ _ _ => N7
          rw [List.push_toArray] at N7
          obtain ⟨q1, hLq, hpq⟩ := hP.done rfl
          have hw2 := hP.wide
          have ht2 := hP.turns
          dsimp only at hLq hpq hw2 ht2
          refine RngEnd.intro _ F7 N7 (fun p hp => List.Mem.tail _ hp) (fun p hp => (List.mem_singleton.mp hp) ▸ List.Mem.head _) ?_
          refine ⟨_, _, _, _, recs ++ [r8], ends ++ [(W1.length : Int)], W1, tw1, pl1, tu1, tt1, oz8, vz8, by kst_all, hoz8, rfl, hvs1.snoc, hes1.append (.cons _ _ .nil), ?_, hpq ▸ hcut.snoc hLq, by simp [hlen], by omega, by omega⟩
          intro r hr
          rcases List.mem_append.mp hr with h1 | h1
          · exact hsm r h1
          · rw [List.mem_singleton.mp h1]
            exact hr8
    case done =>
      rintro m₁ nx h tk hJ F1 N1
      exact wpAny_execs_nil ⟨rfl, _, _, _, _, rfl, F1, N1, hJ⟩
  dsimp only [List.drop]
  intro s' Hκ
  refine CutI.elim Hκ ?_
  clear Hκ
  intro h5 tk5 m5 nx5 F5 N5 Hκ
  revert N5
  refine CutJ.elim (P := fun nxκ => News _ _ h5 nxκ → _) Hκ ?_
  clear Hκ
  intro vs5 es5 n5 n6 recs ends W tw pl tu tt oz5 vz5 hm5 hoz5 hvs5 hes5 hsm hcut hlen htu hWl N5
  clear F4 hm4 N4
  replace F5 := fr_kst0 _ hm5 F5
  refine (fun (k : let mkκ : Str → Option Value := _; Fr _ _ _ mkκ → _) => k F5) ?_
  clear F5
  intro mkκ F5
  have hz5 : recs ≠ [] := fun e => by
    rw [e] at hlen
    exact absurd hlen.symm (by have := hfew.1; simp; omega)
  have hW5 : W.length ≤ 20000 := by have := hfew.2; omega
  refine wpB_execs_cons ?_
  refine wpB_If ?_
  refine wpB_not ?_
  refine wpB_plain ?_ rfl
  refine wpB_Call_Name ?_
  k_steps
  (try dsimp only)
  refine wpB_callK (K := MineTop.hd.heap_1 w.params) (by k_is) ?_ rfl rfl
  k_steps
  refine BSpec.keep (reads_spec w W tw Bk tb ck tc rc en vs5 es5 n5 n6 recs ends (by omega) hB1 hB2 hck (by have := hfew.2; omega) hvs5 hes5 hsm hcut.cut ner1 hz5) (fun _ _ r => r.2) K0 F5 KX N5 T rfl rfl rfl rfl (Nat.le_of_ble_eq_true rfl) (Nat.le_of_ble_eq_true rfl) ?_ ?_
  · exact (sub_cons (by k_mem) (sub_cons (by k_mem) sub_nil))
  rintro v6 h6 tk6 ⟨rfl, _⟩ F6 N6
  clear F5 N5 hm5
  k_steps
  refine wpB_execs_nil ?_
  dsimp only
  refine wpB_cutI 3 (SinkI s₁.heap s₁.heap.objs.size s₁ w Bk tb ck tc [(Str.ofString "nums", .ref nl), (Str.ofString "block", .int (Bk : Int) tb), (Str.ofString "check", .int ck tc), (Str.ofString "count", .int (c : Int) tn), (Str.ofString "records", .ref rc), (Str.ofString "ends", .ref en), (Str.ofString "out", .bytes W.toArray tw), (Str.ofString "plain", .bool pl)] [(en, listOf es5.toArray n6), (rc, listOf vs5.toArray n5), (nl, listOf vs.toArray n), (s₁.heap.objs.size + 1, oz5)] en rc nl) ?_ ?_
  dsimp only [List.take]
  · k_fold
    k_steps
    rename Fr _ _ _ _ => F7
    rename News _ _ _ _ => N7
    rename _ ∧ _ ∧ _ ∧ _ ∧ _ ∧ _ ∧ _ < _ => l7
    rename _ ∧ _ ∧ _ ∧ _ < _ => l6
    rename @Ne Nat _ _ => n7
    refine ⟨_, _, _, _, _, _, _, _, _, _, _, _, rfl, F7, by kst_all, news_w2 N7 (sub_cons (by k_mem) (sub_cons (by k_mem) (sub_cons (by k_mem) (sub_cons (by k_mem) (sub_cons (by k_mem) (sub_cons (by k_mem) sub_nil)))))), n7, Nat.ne_of_lt l7.2.2.1, Nat.ne_of_gt l6.1, Nat.ne_of_gt l6.2.1, Nat.ne_of_gt l6.2.2.1, Nat.ne_of_gt l7.2.2.2.1, Nat.ne_of_gt l7.2.2.2.2.1, Nat.ne_of_gt l7.2.2.2.2.2.1⟩
  dsimp only [List.drop]
  intro s' Hκ
  refine SinkI.elim Hκ ?_
  clear Hκ
  intro h7 tk7 m7 fl x7 dx7 mk t70 t71 t72 t73 tl7 F7 hm7 N7 nx7 nf1 nf2 nf3 nf4 nk1 nk2 nk3
  replace nk1 := Ne.symm nk1
  replace nk2 := Ne.symm nk2
  replace nk3 := Ne.symm nk3
  clear F6 N6
  replace F7 := fr_kst0 _ hm7 F7
  refine (fun (k : let mkκ : Str → Option Value := _; Fr _ _ _ mkκ → _) => k F7) ?_
  clear F7
  intro mkκ F7
  dsimp only [List.cons_append, List.nil_append] at N7
  have hnx0 : ∀ p ∈ [(en, listOf es5.toArray n6), (rc, listOf vs5.toArray n5), (nl, listOf vs.toArray n), (s₁.heap.objs.size + 1, oz5)], ∀ k l, p.2 ≠ itObj k l := by
    intro p hp k l
    simp only [List.mem_cons, List.not_mem_nil, or_false] at hp
    rcases hp with rfl | rfl | rfl | rfl
    · exact list_it
    · exact list_it
    · exact list_it
    · exact cell_it hoz5
  refine wpB_cutI 1 (WrittenI s₁.heap s₁.heap.objs.size s₁ w Bk tb ck tc [(Str.ofString "nums", .ref nl), (Str.ofString "block", .int (Bk : Int) tb), (Str.ofString "check", .int ck tc), (Str.ofString "count", .int (c : Int) tn), (Str.ofString "records", .ref rc), (Str.ofString "ends", .ref en), (Str.ofString "out", .bytes W.toArray tw), (Str.ofString "plain", .bool pl)] [(en, listOf es5.toArray n6), (rc, listOf vs5.toArray n5), (nl, listOf vs.toArray n), (s₁.heap.objs.size + 1, oz5)] fl mk recs ends W c) ?_ ?_
  dsimp only [List.take]
  · k_fold
    k_steps
    unfold Hold
    rename IsRange _ _ _ _ _ _ _ _ => rg
    rename Fr _ _ _ _ => F8
    rename News _ _ _ _ => N8
    refine' rangeC (n := c) (WrJ w Bk tb ck tc [(Str.ofString "nums", .ref nl), (Str.ofString "block", .int (Bk : Int) tb), (Str.ofString "check", .int ck tc), (Str.ofString "count", .int (c : Int) tn), (Str.ofString "records", .ref rc), (Str.ofString "ends", .ref en), (Str.ofString "out", .bytes W.toArray tw), (Str.ofString "plain", .bool pl)] [(en, listOf es5.toArray n6), (rc, listOf vs5.toArray n5), (nl, listOf vs.toArray n), (s₁.heap.objs.size + 1, oz5)] fl mk recs ends W) (wrJ_it hnx0) rfl rg ?small ?size F8 N8 ?h0 ?turn ?done
    case small => exact small_one (by have := hfew.1; omega) (by have := hfew.2; omega) (by omega) (by have := hfew.2; omega)
    case size => exact rangeSize_nat _ _
    case h0 => exact ⟨x7, dx7, _, _, _, _, _, [], 0, [], [], [], 0, [], [], by kst_all, nx7, rfl, .nil, rfl, Nat.le_refl _, Nat.zero_le _, .nil, rfl, .nil, hcut.cut, Nat.le_refl _⟩
    case turn =>
      clear rg F8 N8
      intro i t m₁ nx h tk I ik il hi Hκ
      refine WrJ.elim (P := fun nxκ => Fr _ _ h _ → News _ _ h ((I, itObj ik il) :: nxκ) → _) Hκ ?_
      clear Hκ
      intro x1 dx1 t10 t11 t12 t13 tl1 items1 n7 chunks1 V1 ms1 n8 marks1 Wk1 hm1 nxd hb1 hf1 hlen1 hV1 hms1 hmk1 hcp1 hct1 hle1 F1 N1
      replace F1 := fr_kst _ hm1 F1
      refine (fun (k : let mkκ : Str → Option Value := _; Fr _ _ _ mkκ → _) => k F1) ?_
      clear F1
      intro mkκ F1
      have hi3 : i < 3 := by have := hfew.2; omega
      obtain ⟨r, W2, p2, hr, he, hL, hC2⟩ := cut_at hct1 (by omega : i < recs.length)
      obtain ⟨tr, hv⟩ := hvs5.get hr
      obtain ⟨te, hev⟩ := hes5.get _ _ he
      have hrl := hsm r (List.mem_of_getElem? hr)
      have hlit : items1.length ≤ 5000 := by omega
      dsimp only [wObjs, List.cons_append, List.nil_append] at N1
      refine wpA_cutI 1 (WriterI s₁.heap s₁.heap.objs.size s₁ w Bk tb ck tc fl (V1.length : Int) items1 n7 ((Str.ofString "k", .int (0 + (i : Nat)) t) :: (Str.ofString "sink", .ref fl) :: (Str.ofString "marks", .ref mk) :: [(Str.ofString "nums", .ref nl), (Str.ofString "block", .int (Bk : Int) tb), (Str.ofString "check", .int ck tc), (Str.ofString "count", .int (c : Int) tn), (Str.ofString "records", .ref rc), (Str.ofString "ends", .ref en), (Str.ofString "out", .bytes W.toArray tw), (Str.ofString "plain", .bool pl)]) ((I, itObj ik il) :: (mk, listOf ms1.toArray n8) :: [(en, listOf es5.toArray n6), (rc, listOf vs5.toArray n5), (nl, listOf vs.toArray n), (s₁.heap.objs.size + 1, oz5)])) ?_ ?_
      dsimp only [List.take]
      · k_fold
        k_steps
        · rename Fr _ _ _ _ => F11
          rename News _ _ _ _ => N11
          rename @Ne Nat _ _ => n11
          refine ⟨_, _, _, _, _, _, _, _, _, _, rfl, F11, by kst_all, n11, news_w N11 (sub_cons (by k_mem) (sub_cons (by k_mem) (sub_cons (by k_mem) (sub_cons (by k_mem) (sub_cons (by k_mem) (sub_cons (by k_mem) (sub_cons (by k_mem) sub_nil)))))))⟩
        · rename Fr _ _ _ _ => F11
          rename News _ _ _ _ => N11
          refine ⟨_, _, _, x1, dx1, t10, t11, t12, t13, tl1, rfl, F11, by kst_all, nxd, fun p hp => N11 p ((sub_cons (by k_mem) (sub_cons (by k_mem) (sub_cons (by k_mem) (sub_cons (by k_mem) (sub_cons (by k_mem) (sub_cons (by k_mem) (sub_cons (by k_mem) (sub_cons (by k_mem) (sub_cons (by k_mem) sub_nil))))))))) p hp)⟩
      dsimp only [List.drop]
      intro s' Hκ
      refine WriterI.elim Hκ ?_
      clear Hκ
      intro h2 tk2 m2 x2 dx2 t20 t21 t22 t23 tl2 F2 hm2 nx2 N2
      clear F1 N1
      replace F2 := fr_kst0 _ hm2 F2
      refine (fun (k : let mkκ : Str → Option Value := _; Fr _ _ _ mkκ → _) => k F2) ?_
      clear F2
      intro mkκ F2
      dsimp only [wObjs, List.cons_append, List.nil_append] at N2
      have ni : @Ne Nat I fl := news_ne N2 (by k_mem : (I, itObj ik il) ∈ _) (by k_mem : (fl, listOf items1.toArray n7) ∈ _) list_it.symm
      have nc : @Ne Nat (s₁.heap.objs.size + 1) fl := news_ne N2 (by k_mem : (_, oz5) ∈ _) (by k_mem : (fl, listOf items1.toArray n7) ∈ _) (cell_list hoz5)
      have nj : @Ne Nat I mk := news_ne N2 (by k_mem : (I, itObj ik il) ∈ _) (by k_mem : (mk, listOf ms1.toArray n8) ∈ _) list_it.symm
      have nd : @Ne Nat (s₁.heap.objs.size + 1) mk := news_ne N2 (by k_mem : (_, oz5) ∈ _) (by k_mem : (mk, listOf ms1.toArray n8) ∈ _) (cell_list hoz5)
      have ng : @Ne Nat x2 mk := (news_ne N2 (by k_mem : (mk, listOf ms1.toArray n8) ∈ _) (List.Mem.head _) list_inst).symm
      have nh : @Ne Nat dx2 mk := (news_ne N2 (by k_mem : (mk, listOf ms1.toArray n8) ∈ _) (List.Mem.tail _ (List.Mem.head _)) list_dict).symm
      have nk : @Ne Nat fl x2 := news_ne N2 (by k_mem : (fl, listOf items1.toArray n7) ∈ _) (List.Mem.head _) list_inst
      have nl2 : @Ne Nat fl dx2 := news_ne N2 (by k_mem : (fl, listOf items1.toArray n7) ∈ _) (List.Mem.tail _ (List.Mem.head _)) list_dict
      refine wpA_cutI 2 (MarkI s₁.heap s₁.heap.objs.size s₁ w Bk tb ck tc fl mk x2 dx2 V1 r ms1 n8 ((Str.ofString "writer", .ref x2) :: (Str.ofString "k", .int (0 + (i : Nat)) t) :: (Str.ofString "sink", .ref fl) :: (Str.ofString "marks", .ref mk) :: [(Str.ofString "nums", .ref nl), (Str.ofString "block", .int (Bk : Int) tb), (Str.ofString "check", .int ck tc), (Str.ofString "count", .int (c : Int) tn), (Str.ofString "records", .ref rc), (Str.ofString "ends", .ref en), (Str.ofString "out", .bytes W.toArray tw), (Str.ofString "plain", .bool pl)]) ((I, itObj ik il) :: [(en, listOf es5.toArray n6), (rc, listOf vs5.toArray n5), (nl, listOf vs.toArray n), (s₁.heap.objs.size + 1, oz5)])) ?_ ?_
      dsimp only [List.take]
      · k_fold
        k_steps
        unfold Hold
        rename Fr _ _ _ _ => F12
        rename News _ _ _ _ => N12
        refine MSpec.foot (add_spec w x2 dx2 fl t20 t21 t22 t23 Bk tb ck tc V1 tl2 items1 n7 r tr hB1 hB2 hck (by omega) hrl hlen1 chunks1 hb1 hf1 nx2 nk.symm nl2.symm) [(I, itObj ik il), (mk, listOf ms1.toArray n8), (en, listOf es5.toArray n6), (rc, listOf vs5.toArray n5), (nl, listOf vs.toArray n), (s₁.heap.objs.size + 1, oz5)] K0 F12 KX N12 T rfl rfl rfl (Nat.le_of_ble_eq_true rfl) (Nat.le_of_ble_eq_true rfl) ?m1 ?m2 ?m3 ?_
        case m1 => exact (sub_cons (by k_mem) (sub_cons (by k_mem) (sub_cons (by k_mem) sub_nil)))
        case m2 => exact (sub_cons (by k_mem) (sub_cons (by k_mem) (sub_cons (by k_mem) (sub_cons (by k_mem) (sub_cons (by k_mem) (sub_cons (by k_mem) sub_nil))))))
        case m3 =>
          refine w_off N12 (sub_cons (by k_mem) (sub_cons (by k_mem) (sub_cons (by k_mem) sub_nil))) (sub_cons (by k_mem) (sub_cons (by k_mem) (sub_cons (by k_mem) (sub_cons (by k_mem) (sub_cons (by k_mem) (sub_cons (by k_mem) sub_nil)))))) ?_
          · intro p hp
            simp only [List.mem_cons, List.not_mem_nil, or_false] at hp
            rcases hp with rfl | rfl | rfl | rfl | rfl | rfl
            · exact ⟨fun _ _ => inst_it.symm, fun _ _ => dict_it.symm, ni⟩
            · exact ⟨fun _ _ => list_inst, fun _ _ => list_dict, nf1.symm⟩
            · exact ⟨fun _ _ => list_inst, fun _ _ => list_dict, nf2.symm⟩
            · exact ⟨fun _ _ => list_inst, fun _ _ => list_dict, nf3.symm⟩
            · exact ⟨fun _ _ => list_inst, fun _ _ => list_dict, nf4.symm⟩
            · exact ⟨fun _ _ => cell_inst hoz5, fun _ _ => cell_dict hoz5, nc⟩
        rintro v' n' h' tk' ⟨rfl, tl9, items9, n9, chunks9, V9, rfl, hb9, hf9, hl9, hV9, hlay9⟩ F13 N13
        clear F12 N12
        dsimp only [wObjs, wD, List.cons_append, List.nil_append] at N13
        k_steps
        (try refine ⟨rfl, ?_⟩)
        rename Fr _ _ _ _ => F14
        rename News _ _ _ _ => N14
        rw [List.push_toArray] at N14
        refine ⟨_, _, _, t20, t21, t22, t23, tl9, tl9, items9, n9, chunks9, V9, rfl, F14, by kst_all, fun p hp => N14 p ((sub_cons (by k_mem) (sub_cons (by k_mem) (sub_cons (by k_mem) (sub_cons (by k_mem) (sub_cons (by k_mem) (sub_cons (by k_mem) (sub_cons (by k_mem) (sub_cons (by k_mem) (sub_cons (by k_mem) sub_nil))))))))) p hp), hb9, hf9, hl9, hV9, hlay9⟩
      dsimp only [List.drop]
      intro s' Hκ
      refine MarkI.elim Hκ ?_
      clear Hκ
      intro h9 tk9 m9 t90 t91 t92 t93 tl9 tm9 items9 n9 chunks9 V9 F9 hm9 N9 hb9 hf9 hl9 hV9 hlay9
      clear F2 N2 hm2
      replace F9 := fr_kst0 _ hm9 F9
      refine (fun (k : let mkκ : Str → Option Value := _; Fr _ _ _ mkκ → _) => k F9) ?_
      clear F9
      intro mkκ F9
      dsimp only [wObjs, List.cons_append, List.nil_append] at N9
      have hleast : V9.length ≤ W2.length := lay_least hB1 hlay9 hL hle1
      have hmg : (marks1 ++ [(V9.length : Int)]).getD (0 + (i : Int)).toNat 0 = (V9.length : Int) := by
        rw [show (0 + (i : Int)).toNat = i by omega, List.getD_eq_getElem?_getD, List.getElem?_append_right (by omega), hmk1, Nat.sub_self]
        rfl
      k_steps
      · rename Fr _ _ _ _ => F15
        rename News _ _ _ _ => N15
        refine RngEnd.intro (wObjs w x2 dx2 fl t90 t91 t92 t93 Bk tb ck tc (V9.length : Int) tl9 items9 n9 ++ (mk, listOf (ms1 ++ [Value.int (V9.length : Int) tm9]).toArray (n8 + 1)) :: [(en, listOf es5.toArray n6), (rc, listOf vs5.toArray n5), (nl, listOf vs.toArray n), (s₁.heap.objs.size + 1, oz5)]) F15 N15 ?hn ?ho ?hj
        case hn => exact (sub_cons (by k_mem) (sub_cons (by k_mem) (sub_cons (by k_mem) (sub_cons (by k_mem) (sub_cons (by k_mem) (sub_cons (by k_mem) (sub_cons (by k_mem) (sub_cons (by k_mem) sub_nil))))))))
        case ho => exact (sub_cons (by k_mem) sub_nil)
        case hj =>
          refine ⟨x2, dx2, t90, t91, t92, t93, tl9, items9, n9, chunks9, V9, _, n8 + 1, marks1 ++ [(V9.length : Int)], W2, by kst_all, nx2, rfl, hb9, hf9, hl9, by omega, hms1.append (.cons _ _ .nil), by rw [List.length_append, hmk1]; rfl, ?_, hC2, hleast⟩
          have h1 := hcp1.snoc hlay9
          have h2 : recs.take (i + 1) = recs.take i ++ [r] := by rw [List.take_add_one, hr]; rfl
          rw [h2]
          exact h1
    case done =>
      rintro m₁ nx h tk hJ F1 N1
      exact wpAny_execs_nil ⟨rfl, _, _, _, _, rfl, F1, N1, hJ⟩
  dsimp only [List.drop]
  intro s' Hκ
  refine WrittenI.elim Hκ ?_
  clear Hκ
  intro h8 tk8 m8 nx8 F8 N8 Hκ
  revert N8
  refine WrJ.elim (P := fun nxκ => News _ _ h8 nxκ → _) Hκ ?_
  clear Hκ
  intro x8 dx8 t80 t81 t82 t83 tl8 items8 n8 chunks8 V8 ms8 n9 marks8 Wk8 hm8 nx8d hb8 hf8 hl8 hV8 hms8 hmk8 hcp8 hct8 hle8 N8
  clear F7 N7 hm7
  replace F8 := fr_kst0 _ hm8 F8
  refine (fun (k : let mkκ : Str → Option Value := _; Fr _ _ _ mkκ → _) => k F8) ?_
  clear F8
  intro mkκ F8
  obtain ⟨lb, rfl, hlb⟩ := hb8.vals
  have hlV : (lb.map (·.1)).flatten = V8 := by rw [hlb, hf8]
  have hV9 : V8.length ≤ 3000 := by have := hfew.2; omega
  have hrt : recs.take c = recs := List.take_of_length_le (by omega)
  rw [hrt] at hcp8
  have hlb0 : lb ≠ [] := fun e => cutP_pos hcp8 hz5 (by rw [← hlV, e]; rfl)
  dsimp only [wObjs, List.cons_append, List.nil_append] at N8
  refine wpB_cutI 1 (JoinI s₁.heap s₁.heap.objs.size s₁ V8 ((Str.ofString "writer", .ref x8) :: (Str.ofString "marks", .ref mk) :: [(Str.ofString "nums", .ref nl), (Str.ofString "block", .int (Bk : Int) tb), (Str.ofString "check", .int ck tc), (Str.ofString "count", .int (c : Int) tn), (Str.ofString "records", .ref rc), (Str.ofString "ends", .ref en), (Str.ofString "out", .bytes W.toArray tw), (Str.ofString "plain", .bool pl)]) ((x8, instObj 184 dx8) :: (dx8, dictOf (wD w t80 t81 t82 t83 fl Bk tb ck tc (V8.length : Int) tl8) 4) :: (mk, listOf ms8.toArray n9) :: [(en, listOf es5.toArray n6), (rc, listOf vs5.toArray n5), (nl, listOf vs.toArray n), (s₁.heap.objs.size + 1, oz5)])) ?_ ?_
  dsimp only [List.take]
  · k_fold
    k_steps
    rename Fr _ _ _ _ => F9
    rename News _ _ _ _ => N9
    refine ⟨_, _, _, _, rfl, F9, by kst_all, fun p hp => N9 p ((sub_cons (by k_mem) (sub_cons (by k_mem) (sub_cons (by k_mem) (sub_cons (by k_mem) (sub_cons (by k_mem) (sub_cons (by k_mem) (sub_cons (by k_mem) sub_nil))))))) p hp)⟩
  dsimp only [List.drop]
  intro s' Hκ
  refine JoinI.elim Hκ ?_
  clear Hκ
  intro h9 tk9 m9 tv9 F9 hm9 N9
  clear F8 N8 hm8
  replace F9 := fr_kst0 _ hm9 F9
  refine (fun (k : let mkκ : Str → Option Value := _; Fr _ _ _ mkκ → _) => k F9) ?_
  clear F9
  intro mkκ F9
  refine wpB_execs_cons ?_
  refine wpB_If ?_
  refine wpB_or ?_
  refine wpB_compare ?_ rfl
  refine wpB_of ?_
  k_steps
  · exact absurd rfl (by assumption)
  refine wpB_or ?_
  refine wpB_not ?_
  refine wpB_plain ?_ rfl
  refine wpB_Call_Name ?_
  k_steps
  (try dsimp only)
  refine wpB_callK (K := MineTop.hd.heap_1 w.params) (by k_is) ?_ rfl rfl
  k_steps
  rename Fr _ _ _ _ => F10
  rename News _ _ _ _ => N10
  refine BSpec.keep (reads_spec w V8 tv9 Bk tb ck tc rc mk vs5 ms8 n5 n9 recs marks8 (by omega) hB1 hB2 hck (by have := hfew.2; omega) hvs5 hms8 hsm hcp8.cut nk2 hz5) (fun _ _ r => r.2) K0 F10 KX N10 T rfl rfl rfl rfl (Nat.le_of_ble_eq_true rfl) (Nat.le_of_ble_eq_true rfl) ?_ ?_
  · exact (sub_cons (by k_mem) (sub_cons (by k_mem) sub_nil))
  rintro v11 h11 tk11 ⟨rfl, _⟩ F11 N11
  clear F10 N10 hm9
  k_steps
  refine wpB_or_nil ?_
  dsimp only
  refine if_f ?_
  refine wpB_execs_nil ?_
  dsimp only
  refine wpB_of ?_
  k_steps
  have hword := cutP_word hcut hsm hcp8
  have hb2 : ((V8.toArray.toList == W.toArray.toList) == pl) = true := by
    show ((V8 == W) == pl) = true
    cases pl with
    | true => simpa using hword
    | false =>
      have : V8 ≠ W := fun e => absurd (hword.mp e) (by decide)
      simpa using this
  rw [hb2]
  show GoodW _ _ _ _ _ (.ok (.ret (.bool true))) _
  refine goodW_bool F11 hg (raisesW_false ?_) ?_
  · wrow_none_raised
  · first | kc_post | wrow_post
end

end Mine
theorem PySem.Challenge.cw_nz0363_01_holds : PySem.Challenge.rw_nz0363_01.Holds :=
  Mine.law_holds
