import PyProof.Rows.All
import Wide.All
import OpenK.AllK
import Wide.FinOn
import PySem.Challenge.RW_nu0002_01
set_option Elab.async false
section
open PySem PySem.W PyProof.Rows PySem.Calls
namespace Mine
open Sem (wp)

/-- a code that, by the model, holds its first argument's bytes while it stands on the stack -/
def holdsB : Code → Bool
  | .builtin id _ => Builtin.Bytes.decodersThatHold.contains id
  | _ => false
/-- none of the stack does -/
def Quiet (l : List (Code × Pos)) : Prop := ∀ x ∈ l, holdsB x.1 = false
theorem Quiet.cons {c : Code} {p : Pos} {l : List (Code × Pos)} (hc : holdsB c = false) (h : Quiet l) : Quiet ((c, p) :: l) := by
  intro x hx
  rcases List.mem_cons.mp hx with rfl | hx
  · exact hc
  · exact h x hx

def RIn (Γ : Ctx) (A : Around) : Prop := Γ.In A ∧ holdsB Γ.code = false ∧ Quiet Γ.below
def RBelow (Γ : Ctx) (A : Around) : Prop := Γ.Below A ∧ Quiet Γ.below

/-- as wpAny, over the contexts that bear no decoder; it never raises -/
def wpR {α : Type} (M : Model) (A : Around) (t : Sem α) (Q : α → Shared → Prop) (s : Shared) : Prop :=
  ∀ Γ p, RIn Γ A → wp M Γ t (fun a _ s' => Q a s') (fun _ _ _ => False) p s
def codeR (M : Model) (A : Around) (c : Code) (R : Flow → Shared → Prop) (s : Shared) : Prop :=
  ∀ Γ p, Γ.code = c → RBelow Γ A → wpCode M Γ (fun r s' => ∃ f, r = .ok f ∧ R f s') p s

section
variable {α β : Type} {M : Model} {A : Around} {s : Shared}

theorem wpR_any {t : Sem α} {Q : α → Shared → Prop} (h : wpAny M A t Q (fun _ _ => False) s) : wpR M A t Q s := fun Γ p hΓ => h Γ p hΓ.1
theorem wpR_pure {a : α} {Q : α → Shared → Prop} (h : Q a s) : wpR M A (pure a) Q s := fun _ _ _ => h
theorem wpR_mono {t : Sem α} {Q Q' : α → Shared → Prop} (h : wpR M A t Q s) (hQ : ∀ a s, Q a s → Q' a s) : wpR M A t Q' s :=
  fun Γ p hΓ => Sem.wp_mono M Γ t (fun a _ s => hQ a s) (fun _ _ _ x => x) p s (h Γ p hΓ)
theorem wpR_bind {m : Sem α} {f : α → Sem β} {Q : β → Shared → Prop} (h : wpR M A m (fun a s' => wpR M A (f a) Q s') s) : wpR M A (m >>= f) Q s := fun Γ p hΓ => by
  rw [Sem.wp_bind']
  exact Sem.wp_mono M Γ m (fun a p' s' h' => h' Γ p' hΓ) (fun _ _ _ h' => h') p s (h Γ p hΓ)
theorem wpR_holding {vs : List Value} {m : Sem α} {Q : α → Shared → Prop} (h : wpR M A m Q s) : wpR M A (holding vs m) Q s :=
  fun Γ p hΓ => by rw [Sem.wp_holding]; exact h Γ p hΓ
theorem wpR_onRaise {m : Sem α} {k : Value → Sem Unit} {Q : α → Shared → Prop} (h : wpR M A m Q s) : wpR M A (m.onRaise k) Q s := fun Γ p hΓ => by
  rw [Sem.wp_onRaise]
  exact Sem.wp_mono M Γ m (fun _ _ _ h' => h') (fun _ _ _ h' => h'.elim) p s (h Γ p hΓ)
theorem wpR_keep {vs : List Value} {m : Sem α} {Q : α → Shared → Prop} (h : wpR M A m Q s) : wpR M A (m.keep vs) Q s :=
  fun Γ p hΓ => by rw [Sem.wp_keep]; exact h Γ p hΓ
theorem wpR_standAt {pos : Pos} {Q : Unit → Shared → Prop} (h : Q () s) : wpR M A (standAt pos) Q s := fun _ _ _ => h
theorem wpR_ite {c : Prop} [Decidable c] {a b : Sem α} {Q : α → Shared → Prop} (h : if c then wpR M A a Q s else wpR M A b Q s) : wpR M A (if c then a else b) Q s := by
  split <;> simp_all
/-- bind whose first part is a leaf -/
theorem wpR_bindA {m : Sem α} {f : α → Sem β} {Q : β → Shared → Prop} (h : wpAny M A m (fun a s' => wpR M A (f a) Q s') (fun _ _ => False) s) : wpR M A (m >>= f) Q s := wpR_bind (wpR_any h)

theorem RIn.enter {Γ : Ctx} {A : Around} (h : RIn Γ A) (c : Code) (hd : Option Value) (p : Pos) (hnb : hd ≠ some byPass) : RBelow (Γ.enter c hd p) (A.mark hd) :=
  ⟨h.1.enter c hd p hnb, Quiet.cons h.2.1 h.2.2⟩
theorem RBelow.in {Γ : Ctx} {A : Around} (h : RBelow Γ A) (hc : holdsB Γ.code = false) : RIn Γ (A.under Γ.code) := ⟨h.1.in, hc, h.2⟩

theorem codeR_mono {c : Code} {R R' : Flow → Shared → Prop} (h : codeR M A c R s) (hR : ∀ f s, R f s → R' f s) : codeR M A c R' s :=
  fun Γ p hc hΓ => wpCode_mono (fun _ _ ⟨f, e, x⟩ => ⟨f, e, hR _ _ x⟩) (h Γ p hc hΓ)
theorem codeR_any {c : Code} {R : Flow → Shared → Prop} (h : codeAny M A c (fun r s' => ∃ f, r = .ok f ∧ R f s') s) : codeR M A c R s := fun Γ p hc hΓ => h Γ p hc hΓ.1

theorem codeR_of_tree {c : Code} {R : Flow → Shared → Prop} (hq : holdsB c = false)
    (h : wpR M (A.under c) (M.den c) (fun fin s' => match fin with | .done f => R f s' | .again c' => c'.quiet = true ∧ codeR M A c' R s') s) : codeR M A c R s := fun Γ p hc hΓ => by
  rw [wpCode_iff_wp, hc]
  refine Sem.wp_mono M Γ _ (fun fin p' s' h' => ?_) (fun _ _ _ h' => h'.elim) p s (h Γ p (hc ▸ hΓ.in (by rw [hc]; exact hq)))
  cases fin with
  | done f => exact ⟨f, rfl, h'⟩
  | again c' => exact ⟨h'.1, h'.2 (Γ.goto c') p' rfl ⟨hΓ.1.goto c', hΓ.2⟩⟩

theorem wpR_run {c : Code} {h : Option Value} {Q : Flow → Shared → Prop} (hc : codeR M (A.mark h) c Q s) (hnb : h ≠ some byPass := by intro x; cases x) : wpR M A (run c h) Q s := fun Γ p hΓ => by
  rw [Sem.wp_run]
  exact wpCode_mono (fun r s' ⟨f, e, x⟩ => by subst e; exact x) (hc _ p rfl (hΓ.enter c h p hnb))
theorem wpR_runOwn {c : Code} {h : Option Value} {env : Env} {Q : Flow → Shared → Prop} (hc : codeR M (A.mark h) c Q s) (hnb : h ≠ some byPass := by intro x; cases x) : wpR M A (runOwn c env h) Q s := by
  unfold runOwn
  exact wpR_onRaise (wpR_run hc hnb)
theorem wpR_call {f : Value} {pos : List Value} {kw : List (PySem.Str × Value)} {Q : Value → Shared → Prop} (hc : codeR M A (.call f ⟨pos, kw⟩) (fun fl s' => ∃ v, fl = .ret v ∧ Q v s') s) : wpR M A (call f pos kw) Q s := fun Γ p hΓ => by
  unfold call
  rw [Sem.wp_runValue]
  refine wpCode_mono (fun r s' ⟨f, e, v, e', x⟩ => ?_) (hc _ p rfl (hΓ.enter (.call f ⟨pos, kw⟩) none p (by intro x; cases x)))
  subst e e'
  exact x
end

section
variable {prog : Program} {w : World} {A : Around} {s : Shared}

theorem codeR_func {body : List Stmt} {env : Env} {R : Flow → Shared → Prop}
    (h : wpR (model prog w) (A.deeper env) (execs body env) (fun f s' => R (.ret (match f with | .ret v => v | _ => .none)) s') s) : codeR (model prog w) A (.func body env) R s := by
  refine codeR_of_tree rfl ?_
  show wpR _ (A.deeper env) (do point; match ← (execs body env).onRaise (leaving env) with | .ret v => ret v | _ => ret .none) _ s
  refine wpR_bindA (wpAny_point (wpR_bind (wpR_onRaise (wpR_mono h fun f s' h' => ?_))))
  cases f <;> exact wpR_pure h'

/-- a call of a plain def -/
theorem codeR_def {R : Flow → Shared → Prop} {a : Addr} {o : Obj} {fd : FuncData} {body : List Stmt} {args : Args} {binds : List (PySem.Str × Value)}
    (hroom : A.depth < recursionLimit) (ho : s.heap.get? a = some o) (hdata : o.data = .func fd) (hlim : s.heap.NoLimit) (hcd : s.heap.CodeRec fd.code fd.qualname)
    (hbody : fd.body = .stmts body) (hbind : BindsTo s fd args binds) (hcell : ∀ x ∈ fd.scope.names, x.2 ≠ .cell) (hloc : ∀ x ∈ binds, fd.scope.names.lookup x.1 = some .local)
    (h : ∀ h₀, h₀.Ns s.heap.objs.size (fun x => binds.reverse.lookup x) → (∀ b o, s.heap.get? b = some o → h₀.get? b = some o) →
      wpR (model prog w) (A.deeper (callEnv fd s.heap.objs.size a)) (execs body (callEnv fd s.heap.objs.size a)) (fun f s' => R (.ret (match f with | .ret v => v | _ => .none)) s') { s with heap := h₀, toks := s.toks + binds.length })
    (hco : fd.scope.isCoroutine = false) (hgen : fd.scope.isGenerator = false) (hk : fd.scope.kind = .function) : codeR (model prog w) A (.call (.ref a) args) R s := by
  refine codeR_of_tree rfl ?_
  show wpR _ A.in1 (callAny (.ref a) args) _ s
  simp only [callAny]
  refine wpR_bindA (wpAny_load ho ?_)
  obtain ⟨c, oc, vs, tq, hc, hoc, hdc, hq⟩ := hcd
  simp only [hdata, callFunction, hco, hgen, hbody, hc]
  refine wpR_bindA (m := field (.ref c) 1) (wpAny_field hoc hdc hq ?_)
  refine wpR_bindA (wpAny_pure ?_)
  refine wpR_bindA (hbind _ _ _ _ ?_)
  refine wpR_bindA (wpAny_newFunctionEnv hcell hloc (fun h₀ hns₀ hsb₀ => ?_) hk)
  refine wpR_bindA (wpAny_enterFrame (hlim.fresh _ hsb₀) hroom ?_)
  refine wpR_pure ⟨rfl, codeR_func ?_⟩
  have := h h₀ hns₀ fun b o e => hsb₀.extBut b o (Nat.ne_of_lt (Heap.lt_size e)) (Heap.get?_push_of_some _ e)
  unfold callEnv at this
  rw [hc] at this
  exact this

theorem codeR_block {stmts : List Stmt} {env : Env} {R : Flow → Shared → Prop} (h : codeAny (model prog w) A (.block stmts env) (fun r s' => ∃ f, r = .ok f ∧ R f s') s) : codeR (model prog w) A (.block stmts env) R s := codeR_any h

/-- a for loop without an else, by a state that says how far it is -/
theorem codeR_for {R : Flow → Shared → Prop} {target : Expr} {it : Value} {body : List Stmt} {env : Env} (I : Nat → Shared → Prop)
    (turn : ∀ n s, I n s → wpAny (model prog w) A (pyNext it) (fun r s₁ => match r with
      | none => R .next s₁
      | some v => wpAny (model prog w) A (letOwnedTupleGo target it v) (fun _ s₁' =>
          wpAny (model prog w) A (assign target env v) (fun _ s₂ => wpR (model prog w) A (execs body env) (fun f s₃ => match f with
            | .next | .cont => ∃ m, m < n ∧ I m s₃
            | .brk => R .next s₃
            | .ret v => R (.ret v) s₃) s₂) (fun _ _ => False) s₁') (fun _ _ => False) s₁) (fun _ _ => False) s)
    (n : Nat) (h : I n s) : codeR (model prog w) A (.forLoop target it body [] env) R s := by
  induction n using Nat.strongRecOn generalizing s with
  | ind n ih =>
    refine codeR_of_tree rfl ?_
    show wpR _ A ((forTurn target it body [] env).onRaise (fun x => do noteFrame x env; theTreesLotGoes x)) _ s
    refine wpR_onRaise ?_
    simp only [forTurn]
    refine wpR_bind (wpR_standAt (wpR_bind (wpR_onRaise (wpR_any (wpAny_mono (turn n s h) (fun r s₁ h₁ => ?_) fun _ _ h' => h')))))
    cases r with
    | none =>
      refine wpR_pure ⟨rfl, codeR_any (codeAny_block (wpAny_execs_nil ?_))⟩
      exact ⟨_, rfl, h₁⟩
    | some v =>
      refine wpR_bindA (wpAny_mono h₁ (fun _ s₁' h₁' => ?_) fun _ _ h' => h')
      refine wpR_bindA (wpAny_mono h₁' (fun _ s₂ h₂ => wpR_bind (wpR_mono h₂ fun f s₃ h₃ => ?_)) fun _ _ h' => h')
      cases f with
      | next => obtain ⟨m, hm, hI⟩ := h₃; exact wpR_pure ⟨rfl, ih m hm hI⟩
      | cont => obtain ⟨m, hm, hI⟩ := h₃; exact wpR_pure ⟨rfl, ih m hm hI⟩
      | brk => exact wpR_pure h₃
      | ret v => exact wpR_pure h₃
end

section
variable {M : Model} {A : Around} {s : Shared} {env : Env}
theorem wpR_For {target iter : Expr} {body : List Stmt} {pos : Pos} {Q : Flow → Shared → Prop}
    (h : wpAny M A (eval iter env) (fun x s₁ => wpAny M A (pyIter x) (fun it s₂ => codeR M A (.forLoop target it body [] env) Q s₂) (fun _ _ => False) s₁) (fun _ _ => False) s)
    (hs : ∀ x, foldedSetIterable iter env x = pure x := by intro _; rfl) : wpR M A (exec (.For target iter body [] pos) env) Q s := by
  rw [exec_For]
  refine wpR_bind (wpR_standAt (wpR_bindA (wpAny_mono h (fun x s₁ h₁ => ?_) fun _ _ h' => h')))
  rw [hs x]
  refine wpR_bind (wpR_pure (wpR_bind (wpR_standAt (wpR_bind (wpR_holding (wpR_any (wpAny_mono h₁ (fun it s₂ h₂ => ?_) fun _ _ h' => h')))))))
  exact wpR_runOwn h₂
theorem wpR_execs_cons {st : Stmt} {rest : List Stmt} {Q : Flow → Shared → Prop}
    (h : wpR M A (exec st env) (fun f s' => match f with | .next => wpR M A (execs rest env) Q s' | f => Q f s') s) : wpR M A (execs (st :: rest) env) Q s := by
  rw [execs_cons]
  refine wpR_bind (wpR_mono h fun f s' h' => ?_)
  cases f <;> first | exact h' | exact wpR_pure h'
/-- the next statement is a leaf -/
theorem wpR_execs_leaf {st : Stmt} {rest : List Stmt} {Q : Flow → Shared → Prop}
    (h : wpAny M A (exec st env) (fun f s' => match f with | .next => wpR M A (execs rest env) Q s' | f => Q f s') (fun _ _ => False) s) : wpR M A (execs (st :: rest) env) Q s := wpR_execs_cons (wpR_any h)
theorem wpR_Expr {e : Expr} {pos : Pos} {Q : Flow → Shared → Prop} (h : wpR M A (eval e env) (fun v s' => match v with | .ref _ => False | _ => Q .next s') s)
    (hi : interactive env = false := by rfl) (hs : swapsWith e none pos.line env = pure false := by rfl) : wpR M A (exec (.Expr e pos) env) Q s := by
  rw [exec_Expr env e pos hi hs]
  refine wpR_bind (wpR_standAt (wpR_bind (wpR_mono h fun v s' h' => ?_)))
  have hv : ∀ a, v ≠ .ref a := fun a hva => by subst hva; exact h'
  rw [dropValue_plain hv]
  refine wpR_pure ?_
  cases v <;> first | exact h' | exact (hv _ rfl).elim
theorem wpR_Assign {x : PySem.Str} {pos' : Pos} {value : Expr} {pos : Pos} {Q : Flow → Shared → Prop}
    (h : wpR M A (eval value env) (fun v s₁ => wpAny M A (storeName env x v) (fun _ => Q .next) (fun _ _ => False) s₁) s)
    (hs : swapsWith value (some (.Name x pos')) pos.line env = pure false := by rfl) : wpR M A (exec (.Assign [.Name x pos'] value pos) env) Q s := by
  rw [exec_Assign_Name env x pos' value pos hs]
  refine wpR_bind (wpR_standAt (wpR_bind (wpR_mono h fun v s₁ h₁ => ?_)))
  exact wpR_bind (wpR_standAt (wpR_bindA (wpAny_bindName (wpAny_mono h₁ (fun _ _ x => wpR_pure x) fun _ _ x => x))))
theorem wpR_If {test : Expr} {body orelse : List Stmt} {pos : Pos} {Q : Flow → Shared → Prop}
    (h : wpR M A (isTrue test env (eval test env)) (fun b s₂ => if b then wpR M A (execs body env) Q s₂ else wpR M A (execs orelse env) Q s₂) s) : wpR M A (exec (.If test body orelse pos) env) Q s := by
  rw [exec_If]
  refine wpR_bind (wpR_standAt (wpR_bind (wpR_mono h fun b s₂ h₂ => ?_)))
  cases b <;> exact h₂
/-- a comparison whose left side is on the spine -/
theorem wpR_isTrue_Compare {l r : Expr} {op : CmpOp} {pos : Pos} {whole : Sem Value} {Q : Bool → Shared → Prop}
    (h : wpR M A (eval l env) (fun a s₁ => wpAny M A (eval r env) (fun b s₂ => wpAny M A (compareOp op a b) (fun c s₃ => wpAny M A (truthy c) Q (fun _ _ => False) s₃) (fun _ _ => False) s₂) (fun _ _ => False) s₁) s)
    (hm : behindInMarks op r = false := by with_unfolding_all rfl) : wpR M A (isTrue (.Compare l [op] [r] pos) env whole) Q s := fun Γ p hΓ => by
  simp only [isTrue_Compare1, markedBehindIn_of_false hm, Sem.wp_bind', Sem.wp_holding, Sem.wp_cmd_standAt, Sem.wp_operate]
  exact Sem.wp_mono M Γ _ (fun a p₁ s₁ h₁ => Sem.wp_mono M Γ _ (fun b _ s₂ h₂ => Sem.wp_mono M Γ _ (fun c p₃ s₃ h₃ => h₃ Γ p₃ hΓ.1)
    (fun _ _ _ h' => h') _ _ (h₂ Γ _ hΓ.1)) (fun _ _ _ h' => h') _ _ (h₁ Γ p₁ hΓ.1)) (fun _ _ _ h' => h') _ _ (h Γ p hΓ)
theorem wpR_Call {func : Expr} {args : List Expr} {pos : Pos} {Q : Value → Shared → Prop}
    (h : wpAny M A (eval func env) (fun f s₁ => wpR M A (callWith pos f [] (backTo pos (starEach args env)) []) Q s₁) (fun _ _ => False) s)
    (he : eval (.Call func args [] pos) env = (do callWith pos (← eval func env) [] (backTo pos (starEach args env)) (backToKw pos (keywordEach [] env))) := by rfl) :
    wpR M A (eval (.Call func args [] pos) env) Q s := by
  rw [he]
  exact wpR_bindA h
theorem wpR_Method {o : Expr} {name : PySem.Str} {apos pos : Pos} {args : List Expr} {pl : Sem Bool} {Q : Value → Shared → Prop}
    (h : wpAny M A (eval o env) (fun ov s₁ => wpAny M A (getMethod ov name pl) (fun fx s₂ => wpR M A (callWith pos fx.1 fx.2 (backTo pos (starEach args env)) []) Q s₂) (fun _ _ => False) s₁) (fun _ _ => False) s)
    (he : eval (.Call (.Attribute o name apos) args [] pos) env = (do
      let ov ← eval o env
      standAt apos.atName
      let (f, first) ← holding [ov] (getMethod ov name pl)
      callWith pos f first (backTo pos (starEach args env)) (backToKw pos (keywordEach [] env))) := by rfl) : wpR M A (eval (.Call (.Attribute o name apos) args [] pos) env) Q s := by
  rw [he]
  refine wpR_bindA (wpAny_mono h (fun ov s₁ h₁ => wpR_bind (wpR_standAt (wpR_bind (wpR_holding (wpR_any (wpAny_mono h₁ (fun fx s₂ h₂ => ?_) fun _ _ x => x)))))) fun _ _ x => x)
  exact h₂
/-- the arguments are leaves, the call is on the spine -/
theorem wpR_callWith {pos : Pos} {f : Value} {first : List Value} {e : Expr} {rest : List Expr} {Q : Value → Shared → Prop} {P : Heap → Prop}
    (hk : ∀ h, P h → ∃ k, (k = Keeper.frame ∨ k = Keeper.machine ∨ k = Keeper.boundFrame) ∧ Looks M h (keeperOf f) k)
    (h : wpAny M A (spliced (backTo pos (starEach (e :: rest) env))) (fun vs s₁ => P s₁.heap ∧ wpR M A (call f (first ++ vs)) Q s₁) (fun _ _ => False) s)
    (he : starEach (e :: rest) env = (false, eval e env) :: starEach rest env := by rfl) (hplain : (backTo pos (starEach rest env)).any (·.1) = false := by rfl) :
    wpR M A (callWith pos f first (backTo pos (starEach (e :: rest) env)) []) Q s := by
  rw [he] at h ⊢
  have ha : wpAny M A (evalArgs f true (backTo pos ((false, eval e env) :: starEach rest env)) []) (fun a s₁ => P s₁.heap ∧ wpR M A (call f (first ++ a.pos) a.kw) Q s₁) (fun _ _ => False) s := evalArgs_plain h
  unfold callWith
  refine wpR_bind (wpR_holding (wpR_any (wpAny_mono ha (fun a s₁ h₁ => ?_) fun _ _ x => x)))
  refine wpR_bind (wpR_standAt ?_)
  obtain ⟨k, hk', L⟩ := hk _ h₁.1
  have hp : ((backTo pos ((false, eval e env) :: starEach rest env)).any (·.1) || ([] : List (Option PySem.Str × Sem Value)).any (·.1.isNone)) = false := by
    show ((false || (backTo pos (starEach rest env)).any (·.1)) || false) = false
    rw [hplain]; rfl
  simp only [hp]
  refine wpR_bindA (L.here ?_)
  have tail : ∀ {t : Sem Value}, wpR M A t Q s₁ → wpR M A (t >>= fun r => holding [r] point >>= fun _ => pure r) Q s₁ :=
    fun ht => wpR_bind (wpR_mono ht fun r s₂ hr => wpR_bindA (wpAny_holding (wpAny_point (wpR_pure hr))))
  have marked (mk : Value) : wpR M A (callMarked mk f (first ++ a.pos) a.kw) Q s₁ := by unfold callMarked; exact wpR_keep h₁.2
  rcases hk' with rfl | rfl | rfl <;> dsimp only <;> first | exact tail h₁.2 | (split <;> first | exact tail h₁.2 | exact tail (marked _))
end
end Mine
namespace Mine
section
variable {M : Model} {A : Around} {s : Shared} {env : Env}
theorem wpR_callWith0 {pos : Pos} {f : Value} {first : List Value} {Q : Value → Shared → Prop} {k : Keeper} (hk' : k = Keeper.frame ∨ k = Keeper.machine ∨ k = Keeper.boundFrame) (L : Looks M s.heap (keeperOf f) k)
    (h : wpR M A (call f (first ++ [])) Q s) : wpR M A (callWith pos f first (backTo pos (starEach [] env)) []) Q s := by
  have ha : wpAny M A (evalArgs f true [] []) (fun a s₁ => s₁ = s ∧ a = ⟨[], []⟩) (fun _ _ => False) s := PySem.evalArgs_none ⟨rfl, rfl⟩
  show wpR M A (callWith pos f first [] []) Q s
  unfold callWith
  refine wpR_bind (wpR_holding (wpR_any (wpAny_mono ha (fun a s₁ h₁ => ?_) fun _ _ x => x)))
  obtain ⟨rfl, rfl⟩ := h₁
  refine wpR_bind (wpR_standAt ?_)
  simp only [List.any_nil, Bool.or_false]
  refine wpR_bindA (L.here ?_)
  have tail : ∀ {t : Sem Value}, wpR M A t Q s₁ → wpR M A (t >>= fun r => holding [r] point >>= fun _ => pure r) Q s₁ :=
    fun ht => wpR_bind (wpR_mono ht fun r s₂ hr => wpR_bindA (wpAny_holding (wpAny_point (wpR_pure hr))))
  have marked (mk : Value) : wpR M A (callMarked mk f (first ++ []) []) Q s₁ := by unfold callMarked; exact wpR_keep h
  rcases hk' with rfl | rfl | rfl <;> dsimp only <;> first | exact tail h | (split <;> first | exact tail h | exact tail (marked _))
end
end Mine

end
section
open PySem PySem.W PyProof.Rows PySem.Calls
namespace MineH
open Mine

theorem caller_quiet : RIn (⟨.builtin "claim.caller" {}, none, none, [], none⟩ : Ctx) callerA := ⟨caller_in, by decide +kernel, fun _ h => nomatch h⟩

/-- the caller's thread, run over the one stack that it has -/
theorem threadR {prog : Program} {w : World} {t : Sem Fin} {s : Shared} {R : Flow → Shared → Prop} (hreg : s.asleep)
    (h : wpR (model prog w) callerA t (fun fin s' => ∃ f, fin = .done f ∧ R f s' ∧ AllBare s'.gens) s) :
    ∃ n f s' s'', runN (denote table) prog w n s ⟨t, .builtin "claim.caller" {}, default, []⟩ = .halted (outcomeOf (.ok f)) s' ∧
      schedN (denote table) prog w n (.single s ⟨t, .builtin "claim.caller" {}, default, []⟩) = .halted (outcomeOf (.ok f)) s' ∧ s'.forget = s''.forget ∧ R f s'' := by
  have hw := h _ default caller_quiet
  obtain ⟨n, r, s₁, s₂, hs, hn, hfo, f, rfl, hR⟩ := wp_halts_full (M := model prog w) (R := fun r s' => ∃ f, r = .ok f ∧ R f s') hreg
    (Sem.wp_mono _ _ _ (fun fin p' s' ⟨f, e, h1, h2⟩ => by subst e; exact ⟨⟨f, rfl, h1⟩, leftWithCleanup_false_of_bare h2⟩) (fun _ _ _ x => x.elim) _ _ hw)
  exact ⟨n, f, s₂, s₁, hn, hs, hfo, hR⟩

theorem callFromR {c : ClaimW} {tree : List Value → Sem Fin} {w : World} {s : Shared} {free : Addr → Prop} {gens : Prop} {kept : Heap → Prop} (hz : s.asleep) (hgens : s.gens = #[])
    (hspec : ∀ args, c.pre args = true → WData.layableAll args = true → ∀ ord : List DictEntry → List DictEntry, (∀ l, (ord l).Perm l) →
      ∃ vs s₁, layAllW c.records (classAt s.heap) w.params ord args s = some (vs, s₁) ∧
        wpR (model c.prog w) callerA (tree vs) (fun fin s' => ∃ f, fin = .done f ∧ (c.Ends s args vs s₁ (.ok f) s' ∧ s'.os = s.os ∧ kept s'.heap) ∧ AllBare s'.gens) s₁) :
    c.CallFrom (fun vs => ⟨tree vs, .builtin "claim.caller" {}, default, []⟩) w free gens kept s := by
  intro args hpre hlay ord hord
  obtain ⟨vs, s₁, hlaid, hcode⟩ := hspec args hpre hlay ord hord
  have hal := layAllW_rest _ _ _ hlaid
  obtain ⟨k, f, s', s'', hrun, hsched, hfo, hcase, hos, hkp⟩ := threadR (prog := c.prog) (w := w) (t := tree vs) (Shared.asleep_of_life hal.2.2.2 hz) hcode
  obtain ⟨eh, _, _, eo, _⟩ := Shared.forget_eq hfo
  have hcase := hcase.congr eh
  have hkp : kept s'.heap := by rw [eh]; exact hkp
  rw [← eo] at hos
  have hlife : s'.heap.life = s.heap.life := (runN_life _ _ _ hrun).trans hal.2.2.2
  refine ⟨vs, s₁, hlaid, k, _, s', hsched, ?_, (fun _ i x hx => by rw [hgens] at hx; simp at hx), hkp, by rw [hlife], Shared.rest_eq hos⟩
  rcases hcase with ⟨v, e, d1, d2, d3, d4, d5⟩ | ⟨e, ob, cls, e', _⟩
  · cases e
    exact .inl ⟨v, rfl, d1, d2, d3, fun b o y _ => d4 b o y, d5⟩
  · cases e'

/-- what is asked of the call, over the quiet stacks alone -/
abbrev WalkR (q : Program) (loose : List PySem.Str) (XP : (PySem.Str → Option Value) → Heap → Prop) (YP : World → Heap → Prop) (r : RowW) (d : DefRec) (kwd : List (PySem.Str × Expr)) : Prop :=
  ∀ (w : World) (s₀ s₁ : Shared) (mg mb : PySem.Str → Option Value), Ground q loose r.records XP w s₀ mg mb s₁.heap → YP w s₁.heap → ∀ (a : Addr) (o : Obj) (pm cd doc dV kV : Value), s₁.heap.get? a = some o →
    o.data = .func { docDef d.name d.params d.body d.scope pm cd doc with defaults := dV, kwdefaults := kV } → s₁.heap.CodeRec cd d.name → Dflts mg s₁.heap d.params kwd dV kV → mg d.name = some (.ref a) → s₁.gens = #[] →
    ∀ (args : List WData) (vals : List Value) (as : List Addr), r.claim.pre args = true → WData.layableAll args = true → ReadsAllW r.records (classAt s₀.heap) s₁.heap vals args as → WellAll w.params s₁.heap vals args → (∀ a ∈ as, (a == sysModules) = false) →
      wpR (model r.prog w) callerA (PySem.call (.ref a) vals) (fun v s' => GoodWG r.claim (classAt s₀.heap) (ExcName.means s₀.heap) args s₁ (.ok (.ret v)) s') s₁

/-- the head, for a walk over the quiet stacks -/
theorem PySem.W.holds_open {r : OpenRow} {q : Program} {loose : List PySem.Str} {Xt : Shared → Bool} {XP : (PySem.Str → Option Value) → Heap → Prop} {α : Type} {Yf : Shared → α} {Ya : World → α} {YP : World → Heap → Prop} {d : DefRec} {kwd : List (PySem.Str × Expr)} {N : Nat}
    (left : LeftO r.prog q loose Xt Yf Ya N) (hY : ∀ w s, Yf s = Ya w → YP w s.heap) (hYk : ∀ w h h', YP w h → (∀ b o, h.get? b = some o → h'.get? b = some o) → YP w h')
    (hX : ∀ s, Xt s = true → XP (s.heap.nsMap mainGlobals) s.heap) (hXk : ∀ mg h h', XP mg h → (∀ b o, h.get? b = some o → h'.get? b = some o) → XP mg h')
    (hdef : defOf q r.name = some (d, kwd)) (hp : r.prog.theDef r.name = some (d.params, d.body, d.scope)) (hk : kwWritten? d.params.kwonlyargs d.params.kw_defaults = some kwd) (hRf : ∀ s, Xt s = true → RecFacts r.records s.heap) (hwr : (!r.writes || r.records.isEmpty) = true)
    (k1 : r.wellSaid = true) (ok : (chainsOk q && opensWell r.prog && (frees r.toRowW && r.within.isEmpty)) = true) (hb : r.prog.bare) (hw : r.toRowW.promised)
    (call : WalkR q loose XP YP r.toRowW d kwd) : r.Holds := by
  obtain ⟨ok, k5⟩ := Bool.and_eq_true_iff.mp ok
  obtain ⟨hch, o1⟩ := Bool.and_eq_true_iff.mp ok
  obtain ⟨k5, k6⟩ := Bool.and_eq_true_iff.mp k5
  obtain ⟨hsame, hu, ha, hap, hm⟩ := frees_parts k5
  have hwi : r.toRowW.claim.within = [] := List.isEmpty_iff.mp k6
  have hi := ident_freeW hu ha hap
  refine ⟨k1, hw, ⟨hb, o1, by show r.makers.map _ = []; rw [hm]; rfl⟩, hw.witness, fun w => ⟨(left.behind hX hch w).1, fun s' hs' => ?_⟩⟩
  obtain ⟨s₀, hf, hg0, s, hT, hz, hgens, hg, G00, y⟩ := (left.behind (XP := fun mg h => XP mg h ∧ RecFacts r.records h) (fun s hs => ⟨hX s hs, hRf s hs⟩) hch w).2 s' hs'
  have G0 : Ground q loose [] XP w s (s.heap.nsMap mainGlobals) (s.heap.nsMap builtinsNs) s.heap := ⟨G00.T, G00.B, G00.D, G00.TE, G00.TD, G00.W, G00.X.1, G00.cls, G00.has, G00.apart, G00.once, G00.K⟩
  have RF := G00.X.2
  have hT' := hT
  refine ⟨s₀, hf, hg0, s, hT, (fun n hn => ?_), RF.1, RF.2.1, ?_⟩
  · obtain rfl : n = r.name := by split at hn <;> simp_all
    exact pinned_of_view hg G0 hdef hp hk
  have hgens : s.gens = #[] := Array.eq_empty_of_size_eq_zero (beq_iff_eq.mp hgens)
  have G : Ground q loose r.records XP w s _ _ s.heap := RF.ground G0
  refine callFromR (c := r.toRowW.claim) (tree := fun vs => do match ← nsGet mainNs r.name with
      | some f => do ret (← PySem.call f vs)
      | none => unsupported "claim.caller:no-such-global") hz hgens fun args hpre hlay ord hord => ?_
  obtain ⟨⟨vs, s₁⟩, hlaid⟩ := Option.isSome_iff_exists.mp (layAllW_isSome (P := w.params) (ord := ord) G.has args r.args s (pre_splitW hpre).1)
  have keeps := layAllW_keeps _ _ _ hlaid
  have hal := layAllW_rest _ _ _ hlaid
  obtain ⟨as, hrd, hin, hold⟩ := reads_layAllW hord _ _ _ hlaid hlay s₁.heap (fun _ _ e => e)
  have L : Laid r.records w s s₁ args vs as := ⟨⟨ord, hord, hlaid⟩, hrd, hin, hold, keeps, hal.1.trans hgens, hal.2.2.1⟩
  have G₁ := G.keeps hXk keeps
  have Y₁ := hYk _ _ _ (hY w s y) keeps
  obtain ⟨a, o, pm, cd, doc, dV, kV, h1, h2, h3, h4, h5⟩ := G₁.fn hdef
  have walk := call w s s₁ _ _ G₁ Y₁ a o pm cd doc dV kV h2 h3 h4 h5 (defOf_name hdef ▸ h1) L.gens args vs as hpre hlay L.reads L.well (L.low G.low)
  refine ⟨vs, s₁, hlaid, wpR_bindA (wpAny_nsGet G₁.T.g ?_)⟩
  rw [h1]
  refine wpR_bind (wpR_mono walk fun v s' g => wpR_pure ⟨_, rfl, ?_⟩)
  have z := g.laid (c := r.toRowW.claim) hsame hwi hi L
  exact ⟨⟨z.1, z.2.1, fun q => ⟨namesKept_of hT' hg r.keeps keeps g.2.1.old, noTable hwr q⟩⟩, z.2.2⟩

set_option maxRecDepth 100000 in
set_option maxHeartbeats 8000000 in
open_top hd for PySem.Challenge.rw_nu0002_01
end MineH

end
section
open PySem PySem.W PyProof.Rows PySem.Calls
set_option maxRecDepth 100000
namespace Mine
open Sem (wp)

abbrev baObj (b : Array UInt8) : Obj := { cls := .type "bytearray", data := .bytearray b }

namespace FB
theorem mro : mroOf (.type "bytearray") = pure [.type "bytearray", .type "object"] := by rw [mroOf_type]; kernel_rfl
theorem lookup_new : typeLookup (.type "bytearray") "__new__" = pure (some (.builtin "bytearray.__new__")) := by rw [typeLookup_type, builtinLookup_eq_fast]; kernel_rfl
theorem sub : isSubtype (.type "bytearray") (.type "bytearray") = pure true := by rw [isSubtype_type]; kernel_rfl
theorem slot_init : Slot "bytearray" "__init__" "bytearray.__init__" :=
  .of (owner := "bytearray") (n := "__init__") (by rw [typeLookup_type, builtinLookup_eq_fast]; kernel_rfl) (by decide +kernel) (by decide +kernel) (by decide +kernel)
    (by first | exact .inl (by decide +kernel) | exact .inr (by decide +kernel)) (by rw [isSubtype_type]; kernel_rfl)
theorem slot_append : Slot "bytearray" "append" "bytearray.append" :=
  .of (owner := "bytearray") (n := "append") (by rw [typeLookup_type, builtinLookup_eq_fast]; kernel_rfl) (by decide +kernel) (by decide +kernel) (by decide +kernel)
    (by first | exact .inl (by decide +kernel) | exact .inr (by decide +kernel)) (by rw [isSubtype_type]; kernel_rfl)
theorem slot_getitem : Slot "bytearray" "__getitem__" "bytearray.__getitem__" :=
  .of (owner := "bytearray") (n := "__getitem__") (by rw [typeLookup_type, builtinLookup_eq_fast]; kernel_rfl) (by decide +kernel) (by decide +kernel) (by decide +kernel)
    (by first | exact .inl (by decide +kernel) | exact .inr (by decide +kernel)) (by rw [isSubtype_type]; kernel_rfl)
theorem called : TypeCalled "bytearray" "bytearray.__new__" "bytearray.__init__" :=
  ⟨by decide +kernel, by decide +kernel, ⟨_, _, mro⟩, madeBy_type mro lookup_new (by decide +kernel), by decide +kernel, sub, slot_init⟩
theorem typeCall : checkTypeCall "bytearray" ⟨[], []⟩ = pure () := by kernel_rfl
theorem newCall : checkBuiltinCall "bytearray.__new__" ⟨[.type "bytearray"], []⟩ = pure () := by kernel_rfl
theorem entry_new : entryFor table "bytearray.__new__" = some Builtin.«list.__new__» :=
  entryFor_alias (id' := "list.__new__") (by kernel_rfl) (by first | rfl | decide +kernel | (unfold String.splitOn; simp +decide [String.splitOnAux])) (by decide +kernel) (by kernel_rfl)
theorem entry_init : entryFor table "bytearray.__init__" = some Builtin.«bytearray.__init__» := by first | exact entryFor_of_fast (by kernel_rfl) | exact entryFor_of_tree (by kernel_rfl)
theorem entry_append : entryFor table "bytearray.append" = some Builtin.«bytearray.append» := by first | exact entryFor_of_fast (by kernel_rfl) | exact entryFor_of_tree (by kernel_rfl)
theorem entry_getitem : entryFor table "bytearray.__getitem__" = some Builtin.«bytearray.__getitem__» := by first | exact entryFor_of_fast (by kernel_rfl) | exact entryFor_of_tree (by kernel_rfl)
theorem plain_new : plainId "bytearray.__new__" = true := by decide +kernel
theorem plain_append : plainId "bytearray.append" = true := by decide +kernel
theorem look_release : typeLookup (.type "bytearray") "__release_buffer__" = pure (some (.builtin "bytearray.__release_buffer__")) := by rw [typeLookup_type, builtinLookup_eq_fast]; kernel_rfl
theorem look_buffer : typeLookup (.type "bytearray") "__buffer__" = pure (some (.builtin "bytearray.__buffer__")) := by rw [typeLookup_type, builtinLookup_eq_fast]; kernel_rfl
theorem noBytes : typeLookup (.type "bytearray") "__bytes__" = pure none := by rw [typeLookup_type, builtinLookup_eq_fast]; kernel_rfl
theorem noIndex : typeLookup (.type "bytearray") "__index__" = pure none := by rw [typeLookup_type, builtinLookup_eq_fast]; kernel_rfl
theorem plainAttrs : PlainAttrs "bytearray" := ⟨⟨"bytearray.__getattribute__", by rw [typeLookup_type, builtinLookup_eq_fast]; kernel_rfl, by decide +kernel⟩, by rw [typeLookup_type, builtinLookup_eq_fast]; kernel_rfl⟩
theorem ends_release : ("bytearray.__release_buffer__".endsWith ("." ++ "__release_buffer__")) = true := by decide +kernel
theorem drop_release : ("bytearray.__release_buffer__".dropRight ("__release_buffer__".length + 1)) = "bytearray" := by decide +kernel
theorem ends_buffer : ("bytearray.__buffer__".endsWith ("." ++ "__buffer__")) = true := by decide +kernel
theorem drop_buffer : ("bytearray.__buffer__".dropRight ("__buffer__".length + 1)) = "bytearray" := by decide +kernel
theorem args_append (a x : Value) : argsOk "bytearray.append" ⟨[a, x], []⟩ := by unfold argsOk; kernel_rfl
theorem args_getitem (a x : Value) : argsOk "bytearray.__getitem__" ⟨[a, x], []⟩ := by unfold argsOk; kernel_rfl
theorem args_init (a : Value) : argsOk "bytearray.__init__" ⟨[a], []⟩ := by unfold argsOk; kernel_rfl
theorem ty_append : typeOf (.builtin "bytearray.append") = pure (.type "method_descriptor") := by kernel_rfl
theorem bind0 : Builtin.Bytes.bindOptional "bytearray.__init__" "bytearray" ["source", "encoding", "errors"] [] [] = pure [none, none, none] := by kernel_rfl
end FB
set_option maxRecDepth 1000000 in
set_option maxHeartbeats 4000000 in
theorem FB.owner_new : ("bytearray.__new__".splitOn ".__new__").headD "" = "bytearray" := by simp +decide [String.splitOn, String.splitOnAux]
end Mine

end
section
open PySem PySem.W PyProof.Rows PySem.Calls
set_option maxRecDepth 100000
namespace Mine
open Sem (wp)
section
variable {prog : Program} {w : World} {A : Around} {E : Value → Shared → Prop} {s : Shared} {q : Addr} {b : Array UInt8}

theorem ba_type (hq : s.heap.get? q = some (baObj b)) : s.TypeIs (.ref q) "bytearray" := ⟨_, hq, rfl⟩

theorem ba_ownRelease {M : Model} {Q : Bool → Shared → Prop} (hq : s.heap.get? q = some (baObj b)) (h : Q false s) : wpAny M A (Builtin.Bytes.ownRelease (.ref q)) Q E s := by
  unfold Builtin.Bytes.ownRelease Builtin.Bytes.slotIsOwn
  refine wpAny_bind (wpAny_bind (wpAny_specialOf (ba_type hq) FB.look_release ?_))
  show wpAny M A (if (!("bytearray.__release_buffer__".endsWith ("." ++ "__release_buffer__"))) = true then _ else _) _ E s
  rw [FB.ends_release]
  show wpAny M A (isInstance (.ref q) (.type ("bytearray.__release_buffer__".dropRight ("__release_buffer__".length + 1)))) _ E s
  rw [FB.drop_release]
  exact wpAny_isInstance (ba_type hq) FB.sub (wpAny_pure h)

theorem ba_payload {M : Model} {Q : Array UInt8 → Shared → Prop} (hq : s.heap.get? q = some (baObj b)) (h : Q b s) : wpAny M A (Builtin.Bytes.payload (.ref q)) Q E s := by
  unfold Builtin.Bytes.payload Builtin.Bytes.payload?
  exact wpAny_bind (wpAny_bind (wpAny_load hq (wpAny_pure (wpAny_pure h))))

/-- nothing on a quiet stack without guards holds the bytes -/
theorem ba_exported {M : Model} {v : Value} {Q : Bool → Shared → Prop} (hg : A.guards = some []) (h : Q false s) : wpR M A (Builtin.Bytes.exported v) Q s := fun Γ p hΓ => by
  unfold Builtin.Bytes.exported
  have hno : guardsOf ((Γ.code, p) :: Γ.below) = [] := by rw [guardsOf_cons]; exact hΓ.1.2.2.2.1 _ hg
  have hq : Quiet ((Γ.code, p) :: Γ.below) := Quiet.cons hΓ.2.1 hΓ.2.2
  generalize hl : (Γ.code, p) :: Γ.below = l at hno hq
  show Q (((Γ.code, p) :: Γ.below).any _) s
  rw [hl]
  have key : ∀ f : Code × Pos → Bool, (∀ x ∈ l, f x = false) → l.any f = false := fun f hf => by
    rw [List.any_eq_false]
    intro x hx
    rw [hf x hx]
    exact Bool.false_ne_true
  rw [key]
  · exact h
  rintro ⟨c, p'⟩ hx
  have hcg : c.isGuard = false := by
    cases e : c.isGuard with
    | false => rfl
    | true =>
      have : c ∈ guardsOf l := List.mem_filter.mpr ⟨List.mem_map.mpr ⟨_, hx, rfl⟩, e⟩
      rw [hno] at this
      cases this
  have hcq : holdsB c = false := hq _ hx
  (try dsimp only)
  have last : ∀ id args v', c = .builtin id args → (Builtin.Bytes.sameRef v' v && Builtin.Bytes.decodersThatHold.contains id) = false := fun id args v' e => by
    subst e
    have : Builtin.Bytes.decodersThatHold.contains id = false := hcq
    rw [this, Bool.and_false]
  have grd : ∀ id args, c = .builtin id args → guardIds.contains id = true → False := fun id args e hg' => by
    subst e
    have : guardIds.contains id = false := hcg
    rw [this] at hg'
    cases hg'
  split <;> first | rfl | (rename_i heq; cases heq; first | exact (grd _ _ rfl (by decide +kernel)).elim | exact last _ _ _ rfl)

theorem ba_checkResize {M : Model} {Q : Unit → Shared → Prop} (hg : A.guards = some []) (hq : s.heap.get? q = some (baObj b)) (h : Q () s) : wpR M A (Builtin.Bytes.checkResize (.ref q)) Q s := by
  unfold Builtin.Bytes.checkResize
  refine wpR_bind ?_
  unfold orM
  refine wpR_bind (ba_exported hg ?_)
  show wpR M A (Builtin.Bytes.exportsOf (.ref q) >>= fun n => pure (decide (n > 0))) _ s
  unfold Builtin.Bytes.exportsOf
  exact wpR_bindA (wpAny_bind (wpAny_load hq (wpAny_pure (wpR_pure (wpR_pure h)))))

theorem ba_write {M : Model} {f : Array UInt8 → Array UInt8} {Q : Unit → Shared → Prop} (hq : s.heap.get? q = some (baObj b)) (hz : (f b).size ≤ sizeLine)
    (h : Q () { s with heap := s.heap.update q (Obj.mapBytearray f) }) : wpAny M A (Builtin.Bytes.write (.ref q) f) Q E s := by
  show wpAny M A (updateBytearray q f) Q E s
  unfold updateBytearray
  refine wpAny_bind (wpAny_load hq ?_)
  refine wpAny_bind (wpAny_update hq ?_)
  have hq₂ : (s.heap.update q (Obj.mapBytearray f)).get? q = some (baObj (f b)) := Heap.get?_update_self (Obj.mapBytearray f) hq rfl
  refine wpAny_lookBehind hq₂ ?_ h
  show (if (f b).size > sizeLine then some "bytearray:memory" else none) = none
  rw [if_neg (Nat.not_lt.mpr hz)]

theorem byte_of {M : Model} {i : Int} {t : Tok} {Q : UInt8 → Shared → Prop} (h0 : 0 ≤ i) (h1 : i < 256) (h : Q i.toNat.toUInt8 s) : wpAny M A (Builtin.Bytes.byteValue (.int i t)) Q E s := by
  unfold Builtin.Bytes.byteValue
  refine wpAny_bind (wpAny_of_eq (rfl : asIndex (.int i t) = pure i) ?_)
  refine bm_if_false (by simp only [Bool.or_eq_false_iff, decide_eq_false_iff_not]; omega) ?_
  exact wpAny_pure h

/-- a call of a built-in function, on a quiet stack -/
theorem codeR_builtin_call {id : String} {args : Args} {bi : Builtin} {R : Flow → Shared → Prop} (hp : plainId id = true) (he : entryFor table id = some bi) (hq : Builtin.Bytes.decodersThatHold.contains id = false)
    (hc : wpAny (model prog w) A.in1 (checkBuiltinCall id args) (fun _ s₁ => wpR (model prog w) A.in1 (bi args) (fun fin s' => ∃ f, fin = .done f ∧ R f s') s₁) (fun _ _ => False) s) :
    codeR (model prog w) A (.call (.builtin id) args) R s := by
  refine codeR_of_tree rfl ?_
  show wpR _ A.in1 (do checkBuiltinCall id args; again (.builtin id args)) _ s
  refine wpR_bindA (wpAny_mono hc (fun _ s₁ h₁ => ?_) fun _ _ x => x)
  refine wpR_pure ⟨plainId_quiet hp _, codeR_of_tree hq ?_⟩
  rw [Around.under_plainId hp _]
  show wpR _ _ (match entryFor table id with | some b => b args | none => unsupported ((withoutEnding? id "#data").getD id)) _ _
  rw [he]
  refine wpR_mono h₁ fun fin s' hf => ?_
  obtain ⟨f, rfl, hf⟩ := hf
  exact hf

/-- found.append(x), on a quiet stack -/
theorem ba_append {i : Int} {t : Tok} {Q : Value → Shared → Prop} (hg : A.guards = some []) (hq : s.heap.get? q = some (baObj b)) (h0 : 0 ≤ i) (h1 : i < 256) (hz : b.size < sizeLine)
    (h : Q .none { s with heap := s.heap.update q (Obj.mapBytearray (·.push i.toNat.toUInt8)) }) : wpR (model prog w) A (call (.builtin "bytearray.append") [.ref q, .int i t]) Q s := by
  refine wpR_call (codeR_builtin_call FB.plain_append FB.entry_append (by decide +kernel) (FB.slot_append.check _ _ _ _ _ _ _ _ (ba_type hq) (FB.args_append _ _) ?_))
  show wpR _ A.in1 (Builtin.Bytes.byteValue (.int i t) >>= fun c => Builtin.Bytes.checkResize (.ref q) >>= fun _ => Builtin.Bytes.write (.ref q) (·.push c) >>= fun _ => ret .none) _ s
  refine wpR_bindA (byte_of h0 h1 ?_)
  refine wpR_bind (ba_checkResize hg hq ?_)
  refine wpR_bindA (ba_write hq (by rw [Array.size_push]; exact hz) ?_)
  exact wpR_pure ⟨_, rfl, _, rfl, h⟩

theorem getMethod_append {M : Model} {pl : Sem Bool} {Q : Value × List Value → Shared → Prop} (hq : s.heap.get? q = some (baObj b)) (h : Q (.builtin "bytearray.append", [.ref q]) s) :
    wpAny M A (getMethod (.ref q) "append" pl) Q E s :=
  getMethod_builtin (ba_type hq) FB.plainAttrs FB.slot_append FB.ty_append (fun a e => by cases e; exact ⟨_, hq, rfl⟩) h

/-- row[k] of a bytearray, in bounds -/
theorem ba_getItem {k : Int} {u : Tok} {c : UInt8} {Q : Value → Shared → Prop} (hq : s.heap.get? q = some (baObj b)) (h0 : 0 ≤ k) (h1 : k < 2 ^ 62) (hx : b[k.toNat]? = some c)
    (h : Q (.int c.toNat s.toks) { s with toks := s.toks + 1 }) : wpAny (model prog w) A (getItem (.ref q) (.int k u)) Q E s := by
  unfold getItem
  try with_reducible refine wpAny_holding ?_
  first | refine wpAny_bind (wpAny_pure ?_) | skip
  refine wpAny_bind (wpAny_sequenceKey (ba_type hq) (by decide) ?_)
  refine wpAny_bind (wpAny_callSpecial?_slot (name := PySem.Str.ofString "__getitem__") (ba_type hq) FB.slot_getitem
    (wpAny_call_entry FB.slot_getitem (ba_type hq) FB.entry_getitem ?_ (FB.args_getitem _ _)))
  show wpAny _ _ (Builtin.Bytes.subscript? (.int k u) >>= _) _ _ s
  refine wpAny_bind ?_
  unfold Builtin.Bytes.subscript?
  refine wpAny_bind (wpAny_specialOf (typeIs_int s k u) F.slot_int_index.lookup ?_)
  show wpAny _ _ (if (!Builtin.Bytes.fitsIndex k) = true then _ else pure (some k)) _ E s
  have hf : Builtin.Bytes.fitsIndex k = true := by simp only [Builtin.Bytes.fitsIndex, Bool.and_eq_true, decide_eq_true_eq]; omega
  rw [hf]
  refine wpAny_pure ?_
  dsimp only
  refine wpAny_bind (ba_payload hq ?_)
  have hlt : k.toNat < b.size := (Array.getElem?_eq_some_iff.mp hx).1
  have hsi : seqIndex? k b.size = some k.toNat := by
    have hn : ¬ k < 0 := by omega
    have : k < (b.size : Int) := by omega
    simp [seqIndex?, hn, h0, this]
  rw [hsi]
  show wpAny _ _ (match b[k.toNat]? with | some x => _ | none => _) _ _ _
  rw [hx]
  exact wpAny_bind (wpAny_mkInt (wpAny_pure ⟨_, rfl, wpAny_pure h⟩))
end
end Mine

end
section
open PySem PySem.W PyProof.Rows PySem.Calls
set_option maxRecDepth 100000
namespace Mine
open Sem (wp)
section
variable {prog : Program} {w : World} {A : Around} {E : Value → Shared → Prop} {s : Shared} {q : Addr} {b : Array UInt8}
theorem wpR_if_false {α : Type} {M : Model} {c : Bool} {x y : Sem α} {Q : α → Shared → Prop} (hc : c = false) (h : wpR M A y Q s) : wpR M A (if c = true then x else y) Q s := by
  subst hc; exact h
theorem wpR_if_true {α : Type} {M : Model} {c : Bool} {x y : Sem α} {Q : α → Shared → Prop} (hc : c = true) (h : wpR M A x Q s) : wpR M A (if c = true then x else y) Q s := by
  subst hc; exact h
theorem wpR_eq {α : Type} {M : Model} {t : Sem α} {a : α} {Q : α → Shared → Prop} (he : t = pure a) (h : Q a s) : wpR M A t Q s := he ▸ wpR_pure h

theorem codeR_builtin {id : String} {args : Args} {bi : Builtin} {R : Flow → Shared → Prop} (he : entryFor table id = some bi) (hq : Builtin.Bytes.decodersThatHold.contains id = false)
    (h : wpR (model prog w) (A.under (.builtin id args)) (bi args) (fun fin s' => match fin with | .done f => R f s' | .again c' => c'.quiet = true ∧ codeR (model prog w) A c' R s') s) :
    codeR (model prog w) A (.builtin id args) R s := by
  refine codeR_of_tree hq ?_
  show wpR _ _ (match entryFor table id with | some b => b args | none => unsupported ((withoutEnding? id "#data").getD id)) _ s
  rw [he]; exact h

theorem code_ba_new {R : Result → Shared → Prop} (h : R (.ok (.ret (.ref s.heap.objs.size))) { s with heap := s.heap.push (baObj #[]) }) :
    codeAny (model prog w) A (.call (.builtin "bytearray.__new__") ⟨[.type "bytearray"], []⟩) R s := by
  refine codeAny_of_tree ?_
  show wpAny _ A.in1 (do checkBuiltinCall "bytearray.__new__" ⟨[.type "bytearray"], []⟩; again (.builtin "bytearray.__new__" ⟨[.type "bytearray"], []⟩)) _ _ s
  refine wpAny_bind (wpAny_of_eq FB.newCall (wpAny_pure ⟨plainId_quiet FB.plain_new _, codeAny_builtin_stack FB.entry_new rfl fun p st => ?_⟩))
  rw [Around.under_plainId FB.plain_new _]
  have hsub := FB.sub
  have hown := FB.owner_new
  obtain ⟨hp, g, d, tk, os⟩ := s
  simp only [hown]
  wp_walk
  exact h

theorem ba_init {Q : Unit → Shared → Prop} (hg : A.guards = some []) (hq : s.heap.get? q = some (baObj #[])) (h : ∀ h', h'.get? q = some (baObj #[]) → (∀ b o, b ≠ q → s.heap.get? b = some o → h'.get? b = some o) → Q () { s with heap := h' }) :
    wpR (model prog w) A (Builtin.«bytearray.__init__» ⟨[.ref q], []⟩) (fun fin s' => fin = .done (.ret .none) ∧ Q () s') s := by
  unfold Builtin.«bytearray.__init__»
  dsimp only
  refine wpR_bindA (ba_ownRelease hq ?_)
  refine wpR_if_false rfl ?_
  refine wpR_bind (wpR_eq FB.bind0 ?_)
  dsimp only
  refine wpR_bind (wpR_eq (a := ()) rfl ?_)
  refine wpR_bind (wpR_eq (a := ()) rfl ?_)
  refine wpR_bind ?_
  unfold orM
  refine wpR_bind (ba_exported hg ?_)
  show wpR _ A (Builtin.Bytes.exportsOf (.ref q) >>= fun n => pure (decide (n > 0))) _ s
  unfold Builtin.Bytes.exportsOf
  refine wpR_bindA (wpAny_bind (wpAny_load hq (wpAny_pure (wpR_pure ?_))))
  refine wpR_if_false rfl ?_
  refine wpR_bindA (ba_write hq (Nat.zero_le _) ?_)
  refine wpR_bind (wpR_eq (a := ()) rfl (wpR_pure ⟨rfl, h _ ?_ ?_⟩))
  · exact Heap.get?_update_self (Obj.mapBytearray fun _ => #[]) hq rfl
  · exact fun b o hb e => (Heap.get?_update_other _ _ (Ne.symm hb)).trans e

/-- bytearray() -/
theorem ba_call {Q : Value → Shared → Prop} (hg : A.guards = some [])
    (h : ∀ h', h'.get? s.heap.objs.size = some (baObj #[]) → (∀ b o, s.heap.get? b = some o → h'.get? b = some o) → Q (.ref s.heap.objs.size) { s with heap := h' }) :
    wpR (model prog w) A (call (.type "bytearray") []) Q s := by
  obtain ⟨c, tl, hmro⟩ := FB.called.mro
  have hmade := FB.called.made
  have hsub := FB.called.sub
  have h1 := FB.called.notType
  have h2 := FB.called.canCreate
  have hct := FB.typeCall
  refine wpR_call (codeR_of_tree rfl ?_)
  show wpR _ A.in1 (callAny (.type "bytearray") _) _ _
  refine wpR_pure ⟨Code.quiet_builtin _ (by decide +kernel), codeR_builtin F.entry_type_call (by decide +kernel) ?_⟩
  rw [Around.under_plain (weight_type_call_type "bytearray" [] []) rfl]
  unfold Builtin.«type.__call__»
  dsimp only
  simp only [h1, h2, hct, hmro, hmade, Bool.false_eq_true, if_false, pure_bind, List.isEmpty_cons]
  have h3 : (baObj #[]).isFreed = false := rfl
  have hq : (s.heap.push (baObj #[])).get? s.heap.objs.size = some (baObj #[]) := Heap.get?_push_size _ h3
  refine wpR_bindA (wpAny_holding (wpAny_call (code_ba_new ?_)))
  refine wpR_bindA (wpAny_isInstance (ba_type (s := { s with heap := s.heap.push (baObj #[]) }) hq) FB.sub ?_)
  refine wpR_if_false rfl ?_
  refine wpR_bind (wpR_holding ?_)
  unfold callSpecial?
  refine wpR_bindA (wpAny_specialOf (ba_type (s := { s with heap := s.heap.push (baObj #[]) }) hq) FB.slot_init.lookup ?_)
  simp only [FB.slot_init.bind]
  refine wpR_holding (wpR_bind (wpR_pure (wpR_bind ?_)))
  refine wpR_call (codeR_builtin_call (id := "bytearray.__init__") FB.slot_init.plain FB.entry_init (by decide +kernel) (FB.slot_init.check _ _ _ _ _ _ _ _ (ba_type (s := { s with heap := s.heap.push (baObj #[]) }) hq) (FB.args_init _) ?_))
  refine wpR_mono (ba_init (A := A.in1.in1) hg hq (Q := fun _ s' => Q (.ref s.heap.objs.size) s') fun h' e1 e2 => ?_) fun fin s' hf => ?_
  · exact h h' e1 fun b o e => e2 b o (Nat.ne_of_lt (Heap.lt_size e)) (Heap.get?_push_of_some _ e)
  · obtain ⟨rfl, hf⟩ := hf
    refine ⟨_, rfl, _, rfl, wpR_pure ?_⟩
    refine wpR_if_false rfl ?_
    exact wpR_pure ⟨_, rfl, hf⟩
end
end Mine

end
section
open PySem PySem.W PyProof.Rows PySem.Calls
set_option maxRecDepth 100000
namespace Mine
open Sem (wp)
section
variable {prog : Program} {w : World} {A : Around} {E : Value → Shared → Prop} {s : Shared} {q : Addr} {b : Array UInt8}
theorem ba_new {Q : Value → Shared → Prop} (hq : s.heap.get? q = some (baObj b)) (hz : b.size ≤ sizeLine) (hQ : ∀ t k, Q (.bytes b t) { s with toks := k }) :
    codeAny (model prog w) A (.call (.builtin "bytes.__new__") ⟨[.type "bytes", .ref q], []⟩) (wants Q E) s := by
  refine codeAny_of_tree ?_
  show wpAny _ A.in1 (do checkBuiltinCall "bytes.__new__" ⟨[.type "bytes", .ref q], []⟩; again (.builtin "bytes.__new__" ⟨[.type "bytes", .ref q], []⟩)) _ _ s
  refine wpAny_bind (wpAny_of_eq (F.bm_newCall _) (wpAny_pure ⟨plainId_quiet F.bm_plain _, codeAny_builtin F.bm_entry ?_⟩))
  rw [Around.under_plainId F.bm_plain _]
  have hT := ba_type hq
  unfold Builtin.«bytes.__new__»
  refine wpAny_bind (wpAny_of_eq (a := true) rfl ?_)
  refine bm_if_false rfl ?_
  refine wpAny_bind (wpAny_of_eq F.bm_sub ?_)
  refine bm_if_false rfl ?_
  refine wpAny_bind (wpAny_of_eq (F.bm_bind _) ?_)
  refine wpAny_bind (wpAny_of_eq (a := ()) rfl ?_)
  refine wpAny_bind (wpAny_of_eq (a := ()) rfl ?_)
  refine bm_if_false rfl ?_
  refine wpAny_bind (wpAny_specialOf hT FB.noBytes ?_)
  refine wpAny_bind (wpAny_bind ?_)
  show wpAny _ _ (load q >>= _) _ _ _
  refine wpAny_bind (wpAny_load hq ?_)
  refine wpAny_pure (wpAny_pure ?_)
  refine bm_if_false rfl ?_
  refine wpAny_bind (wpAny_specialOf hT FB.noIndex ?_)
  refine bm_if_true rfl ?_
  first
    | show wpAny _ _ (Builtin.Bytes.buffer? "bytes.__new__" (.ref q) true >>= _) _ _ _
    | (refine wpAny_bind ?_; show wpAny _ _ (Builtin.Bytes.buffer? "bytes.__new__" (.ref q) true >>= _) _ _ _)
  refine wpAny_bind ?_
  unfold Builtin.Bytes.buffer?
  refine wpAny_bind (wpAny_specialOf hT FB.look_buffer ?_)
  (try dsimp only)
  unfold Builtin.Bytes.slotIsOwn
  refine wpAny_bind (wpAny_bind (wpAny_specialOf hT FB.look_buffer ?_))
  (try dsimp only)
  refine bm_if_false (by first | rfl | decide +kernel) ?_
  show wpAny _ _ (isInstance (.ref q) (.type ("bytearray.__buffer__".dropRight ("__buffer__".length + 1)))) _ _ _
  rw [FB.drop_buffer]
  refine wpAny_isInstance hT FB.sub ?_
  refine bm_if_false rfl ?_
  refine wpAny_bind (wpAny_specialOf hT FB.look_buffer ?_)
  (try dsimp only)
  refine wpAny_bind (ba_ownRelease hq ?_)
  refine bm_if_false rfl ?_
  refine wpAny_bind (ba_payload hq (wpAny_pure ?_))
  refine wpAny_bind (wpAny_rule ?_)
  refine wpAny_bind (wpAny_mkBytes ?_ hz)
  show wpAny _ _ (if (Value.type "bytes" == Value.type "bytes") = true then _ else _) _ _ _
  refine bm_if_true (by decide) ?_
  first
    | exact wpAny_pure (hQ _ _)
    | exact wpAny_bind (wpAny_pure (wpAny_pure (hQ _ _)))

/-- bytes(found) -/
theorem bytes_of_ba {Q : Value → Shared → Prop} (hq : s.heap.get? q = some (baObj b)) (hz : b.size ≤ sizeLine) (hQ : ∀ t k, Q (.bytes b t) { s with toks := k }) :
    wpAny (model prog w) A (call (.type "bytes") [.ref q]) Q E s := by
  refine callType_codes (Q₁ := fun obj s₁ => s₁.TypeIs obj "bytes" ∧ Q obj s₁) F.bm_called (F.bm_typeCall _) F.entry_object_init
    (ba_new hq hz fun t k => ⟨PySem.W.typeIs_bytes _ _ _, hQ t k⟩) fun obj s₁ h₁ => ?_
  exact ⟨h₁.1, F.args_object_init_2 obj _, object_init_meets F.bm_called.init.lookup F.bm_called.made (by decide) prog w A.in1 _ s₁ ⟨h₁.1, rfl, h₁.2⟩⟩
end
end Mine

end
section
open PySem PySem.W PyProof.Rows PySem.Calls
set_option maxRecDepth 100000
namespace Mine
open Sem (wp)
section
variable {prog : Program} {w : World} {A : Around} {E : Value → Shared → Prop} {s : Shared} {b : Array UInt8} {t : Tok}

theorem bi_at {h h' : Heap} {a : Addr} {i : Nat} (y : KBw.IsBytesIter h a b t i) (e : ∀ o, h.get? a = some o → h'.get? a = some o) : KBw.IsBytesIter h' a b t i := let ⟨o, ho, r⟩ := y; ⟨o, e _ ho, r⟩

theorem nextOf_item {it : Addr} {i : Nat} {c : UInt8} {Q : Value → Shared → Prop} (hit : KBw.IsBytesIter s.heap it b t i) (hx : b[i]? = some c)
    (hQ : ∀ h', KBw.IsBytesIter h' it b t (i + 1) → Heap.SameBut it s.heap h' → Q (.int (c.toNat : Int) s.toks) { s with heap := h', toks := s.toks + 1 }) :
    wpAny (model prog w) A (Builtin.SmallTypes.nextOf (.ref it)) Q E s := by
  obtain ⟨o, ho, hc, hd⟩ := id hit
  unfold Builtin.SmallTypes.nextOf
  refine wpAny_bind (wpAny_callSpecial?_slot (name := PySem.Str.ofString "__next__") (KBw.iter_typeIs hit) KBw.slot_next
    (wpAny_call_entry KBw.slot_next (KBw.iter_typeIs hit) KBw.entry_next ?_ (KBw.args_next _)))
  show wpAny _ _ (field (.ref it) 0 >>= _) _ _ s
  refine wpAny_bind (wpAny_field ho hd (x := .bytes b t) rfl ?_)
  show wpAny _ _ (if (Value.bytes b t == Value.none) = true then _ else _) _ _ s
  rw [if_neg (show ¬ ((Value.bytes b t == Value.none) = true) from Bool.false_ne_true)]
  show wpAny _ _ (field (.ref it) 1 >>= _) _ _ s
  refine wpAny_bind (wpAny_field ho hd (x := .int i 0) rfl ?_)
  refine wpAny_bind (wpAny_of_eq (a := b) rfl ?_)
  simp only [Int.toNat_natCast, hx]
  refine wpAny_bind (wpAny_setField ho hd (by simp) (wpAny_bind (wpAny_mkInt (wpAny_pure ⟨_, rfl, wpAny_pure (hQ _ ?_ (Heap.SameBut.update ..))⟩))))
  exact ⟨_, Heap.get?_update_self _ ho (Obj.isFreed_of_fields (Obj.data_mapFields hd _)), (Obj.cls_mapFields ..).trans hc, by
    rw [Obj.data_mapFields hd]; simp [rawInt]⟩

theorem nextOf_end {it : Addr} {i : Nat} {Q : Value → Shared → Prop} (hh : A.handled = none) (hit : KBw.IsBytesIter s.heap it b t i) (hx : b[i]? = none)
    (hE : ∀ h' e, Heap.ExtBut it s.heap h' → (∃ o, h'.get? e = some o ∧ o.cls = .type "StopIteration") → E (.ref e) { s with heap := h' }) :
    wpAny (model prog w) A (Builtin.SmallTypes.nextOf (.ref it)) Q E s := by
  obtain ⟨o, ho, hc, hd⟩ := id hit
  unfold Builtin.SmallTypes.nextOf
  refine wpAny_bind (wpAny_callSpecial?_slot (name := PySem.Str.ofString "__next__") (KBw.iter_typeIs hit) KBw.slot_next
    (wpAny_call_entry KBw.slot_next (KBw.iter_typeIs hit) KBw.entry_next ?_ (KBw.args_next _)))
  show wpAny _ _ (field (.ref it) 0 >>= _) _ _ s
  refine wpAny_bind (wpAny_field ho hd (x := .bytes b t) rfl ?_)
  show wpAny _ _ (if (Value.bytes b t == Value.none) = true then _ else _) _ _ s
  rw [if_neg (show ¬ ((Value.bytes b t == Value.none) = true) from Bool.false_ne_true)]
  show wpAny _ _ (field (.ref it) 1 >>= _) _ _ s
  refine wpAny_bind (wpAny_field ho hd (x := .int i 0) rfl ?_)
  refine wpAny_bind (wpAny_of_eq (a := b) rfl ?_)
  simp only [Int.toNat_natCast, hx]
  refine wpAny_bind (wpAny_rule (wpAny_bind (wpAny_setField ho hd (by simp) ?_)))
  show wpAny _ _ (newExc (.type "StopIteration") [] >>= _) _ _ _
  refine wpAny_bind ?_
  simp only [newExc, newTuple]
  refine wpAny_bind (wpAny_newObj_type ?_ (by size_fits))
  refine wpAny_bind (m := firstArgMember _ _) (wpAny_of_eq (a := Value.none) (by first | rfl | (simp only [firstArgMember]; rfl)) ?_)
  refine wpAny_newObj_type ?_ (by size_fits)
  simp only [raiseNew]
  refine wpAny_bind (wpAny_handled ?_)
  first | rw [show A.in1.handled = none from hh] | rw [hh]
  refine wpAny_bind (wpAny_pure (wpAny_throw ?_))
  exact hE _ _ (((Heap.SameBut.update ..).extBut.push _).push _) ⟨_, Heap.get?_push_size _ rfl, rfl⟩

theorem enum_item {e it : Addr} {i : Nat} {c : UInt8} {old : Value} {Q : Option Value → Shared → Prop}
    (he : IsEnum s.heap e it i old) (hit : KBw.IsBytesIter s.heap it b t i) (hx : b[i]? = some c) (hne : e ≠ it)
    (hQ : ∀ h' T t1 t2 tk, IsEnumOut h' e it ((i : Int) + 1) (.int (c.toNat : Int) t2) T → KBw.IsBytesIter h' it b t (i + 1) → s.heap.objs.size ≤ T →
      h'.get? T = some { cls := .type "tuple", data := .seq #[.int i t1, .int (c.toNat : Int) t2] } →
      (∀ b o, b ≠ e → b ≠ it → s.heap.get? b = some o → h'.get? b = some o) → Q (some (.ref T)) { s with heap := h', toks := tk }) :
    wpAny (model prog w) A (pyNext (.ref e)) Q E s := by
  have hT : s.TypeIs (.ref e) "enumerate" := ⟨_, he, rfl⟩
  have hel : e < s.heap.objs.size := Heap.lt_size he
  unfold pyNext
  refine wpAny_bind (wpAny_attempt (wpAny_callSpecial?_slot (name := PySem.Str.ofString "__next__") hT F.slot_enumerate_next
    (wpAny_call_entry F.slot_enumerate_next hT F.entry_enumerate_next ?_ (F.args_enumerate_next_1 _))))
  show wpAny _ _ (field (.ref e) 2 >>= _) _ _ _
  refine wpAny_bind (wpAny_field he rfl (x := .ref it) rfl ?_)
  refine wpAny_bind (nextOf_item hit hx fun h₁ hit₁ hs₁ => ?_)
  have he₁ : IsEnum h₁ e it i old := (hs₁.2 e hne).trans he
  show wpAny _ _ (field (.ref e) 3 >>= _) _ _ _
  refine wpAny_bind (wpAny_field he₁ rfl (x := rawInt i) rfl ?_)
  show wpAny _ _ (field (.ref e) 4 >>= _) _ _ _
  refine wpAny_bind (wpAny_field he₁ rfl (x := .none) rfl ?_)
  show wpAny _ _ (mkInt i >>= _) _ _ _
  refine wpAny_bind (wpAny_mkInt ?_)
  show wpAny _ _ (setField (.ref e) 3 (rawInt ((i : Int) + 1)) >>= _) _ _ _
  refine wpAny_bind (wpAny_setField_rec he₁ (by simp) fun h₂ he₂ hs₂ => ?_)
  replace hs₂ : Heap.SameBut e h₁ h₂ := hs₂
  replace he₂ : IsEnum h₂ e it ((i : Int) + 1) old := he₂
  show wpAny _ _ (setField (.ref e) 4 .none >>= _) _ _ _
  refine wpAny_bind (wpAny_setField_rec he₂ (by simp) fun h₃ he₃ hs₃ => ?_)
  replace hs₃ : Heap.SameBut e h₂ h₃ := hs₃
  replace he₃ : IsEnum h₃ e it ((i : Int) + 1) old := he₃
  have hsz : h₃.objs.size = s.heap.objs.size := by rw [hs₃.1, hs₂.1, hs₁.1]
  show wpAny _ _ (newTuple [.int i (s.toks + 1), .int (c.toNat : Int) s.toks] >>= _) _ _ _
  refine wpAny_bind (wpAny_newTuple ?_)
  have he₄ := Heap.get?_push_of_some { cls := .type "tuple", data := .seq #[.int i (s.toks + 1), .int (c.toNat : Int) s.toks] } he₃
  have ht₄ : (h₃.push { cls := .type "tuple", data := .seq #[.int i (s.toks + 1), .int (c.toNat : Int) s.toks] }).get? h₃.objs.size = some { cls := .type "tuple", data := .seq #[.int i (s.toks + 1), .int (c.toNat : Int) s.toks] } := Heap.get?_push_size _ rfl
  have keep₄ : ∀ a o, a ≠ e → a ≠ it → s.heap.get? a = some o → (h₃.push { cls := .type "tuple", data := .seq #[.int i (s.toks + 1), .int (c.toNat : Int) s.toks] }).get? a = some o :=
    fun a o ha ha' x => Heap.get?_push_of_some _ (hs₃.extBut a o ha (hs₂.extBut a o ha (hs₁.extBut a o ha' x)))
  have hit₄ : KBw.IsBytesIter (h₃.push { cls := .type "tuple", data := .seq #[.int i (s.toks + 1), .int (c.toNat : Int) s.toks] }) it b t (i + 1) :=
    bi_at hit₁ fun o x => Heap.get?_push_of_some _ (hs₃.extBut it o (Ne.symm hne) (hs₂.extBut it o (Ne.symm hne) x))
  generalize h₃.push { cls := .type "tuple", data := .seq #[.int i (s.toks + 1), .int (c.toNat : Int) s.toks] } = h₄ at he₄ ht₄ keep₄ hit₄
  replace he₄ : IsEnum h₄ e it ((i : Int) + 1) old := he₄
  have hTe : h₃.objs.size ≠ e := by rw [hsz]; exact Nat.ne_of_gt hel
  show wpAny _ _ (Builtin.SmallTypes.ownedTupleIsFree (.ref e) >>= _) _ _ _
  refine wpAny_bind ?_
  unfold Builtin.SmallTypes.ownedTupleIsFree
  refine wpAny_bind (wpAny_field he₄ rfl (x := .none) rfl (wpAny_pure ?_))
  simp only [if_true]
  refine wpAny_bind (wpAny_rule ?_)
  refine wpAny_bind (wpAny_field he₄ rfl (x := old) rfl ?_)
  refine wpAny_bind (wpAny_setField_rec he₄ (by simp) fun h₅ he₅ hs₅ => ?_)
  replace hs₅ : Heap.SameBut e h₄ h₅ := hs₅
  replace he₅ : IsEnum h₅ e it ((i : Int) + 1) (.int (c.toNat : Int) s.toks) := he₅
  show wpAny _ _ (Builtin.SmallTypes.ownedTupleHandOut (.ref e) (.ref h₃.objs.size) >>= _) _ _ _
  refine wpAny_bind ?_
  unfold Builtin.SmallTypes.ownedTupleHandOut
  refine wpAny_bind (wpAny_setField_rec he₅ (by simp) fun h₆ he₆ hs₆ => ?_)
  replace hs₆ : Heap.SameBut e h₅ h₆ := hs₆
  replace he₆ : IsEnumOut h₆ e it ((i : Int) + 1) (.int (c.toNat : Int) s.toks) h₃.objs.size := he₆
  refine wpAny_setField_rec he₆ (by simp) fun h₇ he₇ hs₇ => ?_
  replace hs₇ : Heap.SameBut e h₆ h₇ := hs₇
  replace he₇ : IsEnumOut h₇ e it ((i : Int) + 1) (.int (c.toNat : Int) s.toks) h₃.objs.size := he₇
  refine wpAny_bind (wpAny_letGo (wpAny_pure ⟨_, rfl, wpAny_pure (hQ h₇ h₃.objs.size (s.toks + 1) s.toks _ he₇ ?_ (Nat.le_of_eq hsz.symm) ?_ ?_)⟩))
  · exact bi_at hit₄ fun o x => hs₇.extBut it o (Ne.symm hne) (hs₆.extBut it o (Ne.symm hne) (hs₅.extBut it o (Ne.symm hne) x))
  · exact hs₇.extBut _ _ hTe (hs₆.extBut _ _ hTe (hs₅.extBut _ _ hTe ht₄))
  · exact fun a o ha ha' x => hs₇.extBut a o ha (hs₆.extBut a o ha (hs₅.extBut a o ha (keep₄ a o ha ha' x)))

theorem enum_end {e it : Addr} {i : Nat} {old : Value} {Q : Option Value → Shared → Prop} (hh : A.handled = none)
    (he : IsEnum s.heap e it i old) (hit : KBw.IsBytesIter s.heap it b t i) (hx : b[i]? = none)
    (hQ : ∀ h', Heap.ExtBut it s.heap h' → Q none { s with heap := h' }) : wpAny (model prog w) A (pyNext (.ref e)) Q E s := by
  have hT : s.TypeIs (.ref e) "enumerate" := ⟨_, he, rfl⟩
  unfold pyNext
  refine wpAny_bind (wpAny_attempt (wpAny_callSpecial?_slot (name := PySem.Str.ofString "__next__") hT F.slot_enumerate_next
    (wpAny_call_entry F.slot_enumerate_next hT F.entry_enumerate_next ?_ (F.args_enumerate_next_1 _))))
  show wpAny _ _ (field (.ref e) 2 >>= _) _ _ _
  refine wpAny_bind (wpAny_field he rfl (x := .ref it) rfl ?_)
  refine wpAny_bind (nextOf_end hh hit hx fun h' x he' hx' => ?_)
  obtain ⟨o, ho, hc⟩ := hx'
  refine wpAny_bind (wpAny_isInstance (T := "StopIteration") (b := true) ⟨o, ho, hc⟩ isSubtype_stop ?_)
  exact wpAny_pure (hQ _ he')

theorem walksEnum (hh : A.handled = none) (e it : Addr) (hei : e ≠ it) (b : Array UInt8) (t : Tok) :
    WalksU prog w A e [e, it] [e, it] b.size (fun i vals => ∃ t1 t2 c, b[i]? = some c ∧ vals = #[.int i t1, .int ((c : UInt8).toNat : Int) t2])
      (fun i h => (∃ old, IsEnum h e it i old) ∧ KBw.IsBytesIter h it b t i)
      (fun i T h => (∃ x, IsEnumOut h e it ((i : Int) + 1) x T) ∧ KBw.IsBytesIter h it b t (i + 1) ∧ T ≠ e ∧ T ≠ it) where
  sub := fun _ hb => hb
  frame := fun i h h' hst hk => by
    obtain ⟨⟨old, he⟩, hit⟩ := hst
    exact ⟨⟨old, hk e (by simp) _ he⟩, bi_at hit fun o x => hk it (by simp) o x⟩
  item := fun i s Q E hi hst hQ => by
    obtain ⟨⟨old, he⟩, hit⟩ := hst
    have hx : b[i]? = some b[i] := Array.getElem?_eq_getElem hi
    have helt : e < s.heap.objs.size := Heap.lt_size he
    have hilt : it < s.heap.objs.size := by obtain ⟨_, x, _⟩ := hit; exact Heap.lt_size x
    refine enum_item he hit hx hei fun h' T t1 t2 tk ho hit' hTl hT hk => ?_
    refine hQ T _ h' tk ⟨t1, t2, _, hx, rfl⟩ ⟨_, hT, rfl, _, rfl⟩ ⟨⟨_, ho⟩, hit', ?_, ?_⟩ fun a o ha x => hk a o (fun e' => ha (by simp [e'])) (fun e' => ha (by simp [e'])) x
    · exact Nat.ne_of_gt (Nat.lt_of_lt_of_le helt hTl)
    · exact Nat.ne_of_gt (Nat.lt_of_lt_of_le hilt hTl)
  go := fun elts k pos i T s Q E hm hQ => by
    obtain ⟨⟨x, ho⟩, hit, hTe, hTi⟩ := hm
    refine wpAny_letOwnedTupleGo_enum ho fun h' he' hs' => hQ h' ⟨⟨x, by simpa using he'⟩, bi_at hit fun o y => (hs'.2 it hei.symm).trans y⟩ fun a o ha y => ?_
    exact (hs'.2 a fun e' => ha (by simp [e'])).trans y
  apart := fun i T h hm hT => by
    obtain ⟨_, _, hTe, hTi⟩ := hm
    rcases List.mem_cons.mp hT with rfl | hT
    · exact hTe rfl
    · rcases List.mem_cons.mp hT with rfl | hT
      · exact hTi rfl
      · cases hT
  done := fun s Q E hst hQ => by
    obtain ⟨⟨old, he⟩, hit⟩ := hst
    exact enum_end hh he hit (Array.getElem?_eq_none (Nat.le_refl _)) fun h' hx => hQ h' s.toks fun a o ha y => hx a o (fun e' => ha (by simp [e'])) y
  self := fun i s Q E hst hQ => by
    obtain ⟨⟨old, he⟩, _⟩ := hst
    exact wpAny_pyIter_enum he hQ

set_option maxHeartbeats 1000000 in
theorem meets_enum_new (b : Array UInt8) (t : Tok) :
    Meets (Builtin.«enumerate.__new__» ⟨[.type "enumerate", .bytes b t], []⟩) (fun _ R s =>
      R (.ok (.ret (.ref (s.heap.push { cls := .type "bytes_iterator", data := .fields #[.bytes b t, .int 0 0] }).objs.size)))
        { s with heap := (s.heap.push { cls := .type "bytes_iterator", data := .fields #[.bytes b t, .int 0 0] }).push { cls := .type "enumerate", data := .fields #[.none, .bool false, .ref s.heap.objs.size, rawInt 0, .none, .none] } }) :=
  .of_wp fun prog w A R s h => by
    obtain ⟨hp, g, d, tk, os⟩ := s
    have hsub := sub_enumerate
    wp_walk
    refine wpAny_stack_any fun st => wpAny_pure ?_
    split
    · rename_i c _ _ _ _ _
      cases (c == Value.type "enumerate")
      · wp_walk using KBw.pyIter_bytes
        exact ⟨_, rfl, h⟩
      · wp_walk using KBw.pyIter_bytes
        exact ⟨_, rfl, h⟩
    · wp_walk using KBw.pyIter_bytes
      exact ⟨_, rfl, h⟩

/-- enumerate(row) -/
theorem call_enum {Q : Value → Shared → Prop}
    (h : ∀ h', IsEnum h' (s.heap.objs.size + 1) s.heap.objs.size 0 .none → KBw.IsBytesIter h' s.heap.objs.size b t 0 → h'.objs.size = s.heap.objs.size + 2 →
      (∀ b o, s.heap.get? b = some o → h'.get? b = some o) → Q (.ref (s.heap.objs.size + 1)) { s with heap := h' }) :
    wpAny (model prog w) A (call (.type "enumerate") [.bytes b t]) Q E s := by
  refine callType_new F.called_enumerate (by decide) (F.typeCall_enumerate_1 _) (F.newCall_enumerate_1 _) (fun obj => F.args_object_init_2 obj _) F.entry_enumerate_new
    (meets_enum_new b t) ?_
  have hz : (s.heap.push { cls := .type "bytes_iterator", data := .fields #[.bytes b t, .int 0 0] }).objs.size = s.heap.objs.size + 1 := Heap.size_push ..
  show _ ∧ _
  rw [hz]
  have he : IsEnum ((s.heap.push { cls := .type "bytes_iterator", data := .fields #[.bytes b t, .int 0 0] }).push
      { cls := .type "enumerate", data := .fields #[.none, .bool false, .ref s.heap.objs.size, rawInt 0, .none, .none] }) (s.heap.objs.size + 1) s.heap.objs.size 0 .none := by
    have := Heap.get?_push_size (s.heap.push { cls := .type "bytes_iterator", data := .fields #[.bytes b t, .int 0 0] })
      (o := { cls := .type "enumerate", data := .fields #[.none, .bool false, .ref s.heap.objs.size, rawInt 0, .none, .none] }) rfl
    rw [hz] at this; exact this
  refine ⟨⟨_, he, rfl⟩, h _ he ⟨_, Heap.get?_push_of_some _ (Heap.get?_push_size _ rfl), rfl, rfl⟩ (by rw [Heap.size_push, hz]) fun b o y => Heap.get?_push_of_some _ (Heap.get?_push_of_some _ y)⟩
end
end Mine

end
section
open PySem PySem.W PyProof.Rows PySem.Calls
set_option maxRecDepth 100000
namespace Mine
open Sem (wp)
section
variable {prog : Program} {w : World} {A : Around} {s : Shared} {env : Env} {h₀ : Heap} {target : Expr} {body : List Stmt}

/-- what a turn of a loop on the spine leaves -/
def TurnPost (h₀ : Heap) (L : Addr) (J : (PySem.Str → Option Value) → List (Addr × Obj) → Prop) (own : List (Addr × Obj)) (adr : List Addr) (s₁ : Shared) (R : Flow → Shared → Prop) (f : Flow) (s₂ : Shared) : Prop :=
  match f with
  | .ret v => R (.ret v) s₂
  | .brk => R .next s₂
  | _ => InvEndN h₀ L J own adr s₁ s₂

/-- a loop on the spine, by an invariant over the names and the ledger -/
theorem loopR {R : Flow → Shared → Prop} {I : Addr} {fp wr : List Addr} {n : Nat} {P Md : Nat → Value → Heap → Prop} {St : Nat → Heap → Prop} {m : PySem.Str → Option Value} {news : List (Addr × Obj)}
    (W : KTurns prog w A target I fp wr n P Md St) (hLf : env.locals ∉ fp) (hwr : ∀ b ∈ wr, h₀.get? b = none) (hfp : ∀ q ∈ news, q.1 ∉ fp) (hst : St 0 s.heap) (F : Fr h₀ env.locals s.heap m) (N : News h₀ env.locals s.heap news)
    (J : Nat → (PySem.Str → Option Value) → List (Addr × Obj) → Prop) (h0 : J 0 m news)
    (turn : ∀ i v m₁ news₁ h tk own, i < n → P i v h → news₁.map (·.1) = news.map (·.1) → OwnOff own (news.map (·.1)) → J i m₁ news₁ → Fr h₀ env.locals h m₁ → News h₀ env.locals h (news₁ ++ own) →
      wpAny (model prog w) A (assign target env v) (fun _ s₂ => wpR (model prog w) A (execs body env) (TurnPost h₀ env.locals (J (i + 1)) own (news.map (·.1)) { s with heap := h, toks := tk } R) s₂) (fun _ _ => False) { s with heap := h, toks := tk })
    (done : ∀ m₁ news₁ h tk, J n m₁ news₁ → Fr h₀ env.locals h m₁ → News h₀ env.locals h news₁ → R .next { s with heap := h, toks := tk }) :
    codeR (model prog w) A (.forLoop target (.ref I) body [] env) R s := by
  have hLw : env.locals ∉ wr := fun h => hLf (W.sub _ h)
  have old : ∀ b o, h₀.get? b = some o → b ∉ wr := fun b o e hb => by rw [hwr b hb] at e; cases e
  refine codeR_for
    (fun k s' => ∃ h' tk m' news' i, s' = { s with heap := h', toks := tk } ∧ St i h' ∧ Fr h₀ env.locals h' m' ∧ News h₀ env.locals h' news' ∧ news'.map (·.1) = news.map (·.1) ∧ J i m' news' ∧ i ≤ n ∧ k = n + 1 - i) ?_ (n + 1)
    ⟨s.heap, s.toks, m, news, 0, rfl, hst, F, N, rfl, h0, Nat.zero_le _, rfl⟩
  rintro k s' ⟨h', tk, m', news', i, rfl, hst', F', N', hadr, hJ, hi, rfl⟩
  have offw : ∀ p ∈ news', p.1 ∉ fp := fun p hp hf => by
    have : p.1 ∈ news.map (·.1) := hadr ▸ List.mem_map.mpr ⟨p, hp, rfl⟩
    obtain ⟨q, hq, e⟩ := List.mem_map.mp this
    exact hfp q hq (e ▸ hf)
  have next : ∀ h₁ : Heap, (∀ b o, b ∉ wr → h'.get? b = some o → h₁.get? b = some o) → Fr h₀ env.locals h₁ m' ∧ News h₀ env.locals h₁ news' := fun h₁ hk₁ =>
    ⟨⟨F'.ns.at' fun o e => hk₁ _ o hLw e, fun b o e => hk₁ b o (old b o e) (F'.keep b o e), F'.above⟩, fun p hp => ⟨hk₁ _ _ (fun x => offw p hp (W.sub _ x)) (N' p hp).1, (N' p hp).2⟩⟩
  by_cases hlt : i < n
  · refine W.item i _ _ _ hlt hst' fun v h₁ tk₁ hMd hk₁ => ?_
    refine W.go i v _ _ _ hMd fun h₂ hP hst₂ hk₂ => ?_
    obtain ⟨F₂, N₂⟩ := next h₂ fun b o hb x => hk₂ b o hb (hk₁ b o hb x)
    have Nown : News h₀ env.locals h₂ (PyProof.Rows.ownOf h₀ fp h₂) := news_ownOf hLf
    have hoff : OwnOff (PyProof.Rows.ownOf h₀ fp h₂) (news.map (·.1)) := by
      intro p hp b hb e
      obtain ⟨q, hq, rfl⟩ := List.mem_map.mp hb
      exact hfp q hq (e ▸ ownOf_sub p hp)
    refine wpAny_mono (turn i v m' news' h₂ tk₁ (PyProof.Rows.ownOf h₀ fp h₂) hlt hP hadr hoff hJ F₂ (News.append N₂ Nown)) (fun _ s₂ h₂' => wpR_mono h₂' fun f s₃ h₃ => ?_) fun _ _ e => e
    have fin : InvEndN h₀ env.locals (J (i + 1)) (PyProof.Rows.ownOf h₀ fp h₂) (news.map (·.1)) { s with heap := h₂, toks := tk₁ } s₃ →
        ∃ m, m < n + 1 - i ∧ ∃ h' tk m' news' j, s₃ = { s with heap := h', toks := tk } ∧ St j h' ∧ Fr h₀ env.locals h' m' ∧ News h₀ env.locals h' news' ∧ news'.map (·.1) = news.map (·.1) ∧ J j m' news' ∧ j ≤ n ∧ m = n + 1 - j := by
      rintro ⟨h₃', tk₃, m₂, nn, nx, rfl, F₃, N₃, hn, ho, ha, hJ₃⟩
      refine ⟨n + 1 - (i + 1), by omega, h₃', tk₃, m₂, nx, i + 1, rfl, ?_, F₃, (fun p hp => N₃ p (hn p hp)), ha, hJ₃, hlt, rfl⟩
      refine W.frame _ _ _ hst₂ fun b hb o e => ?_
      cases hn' : h₀.get? b with
      | some o₀ =>
        have : o₀ = o := by have q := F₂.keep b o₀ hn'; rw [e] at q; exact (Option.some.inj q).symm
        exact this ▸ F₃.keep b o₀ hn'
      | none => exact (N₃ _ (ho _ (mem_ownOf hb hn' e))).1
    cases f with
    | ret v => exact h₃
    | brk => exact h₃
    | next => exact fin h₃
    | cont => exact fin h₃
  · have hin : i = n := by omega
    subst hin
    refine W.done _ _ _ hst' fun h₁ tk₁ hk₁ => ?_
    obtain ⟨F₁, N₁⟩ := next h₁ hk₁
    exact done m' news' h₁ tk₁ hJ F₁ N₁
end
end Mine

end
section
open PySem PySem.W PyProof.Rows PySem.Calls
set_option maxRecDepth 100000
namespace Mine
open Sem (wp)
section
variable {prog : Program} {w : World} {A : Around} {s : Shared} {env : Env} {h₀ : Heap} {body : List Stmt}

theorem new_none {L b : Addr} {h : Heap} {m : PySem.Str → Option Value} (F : Fr h₀ L h m) (hb : h.objs.size ≤ b) : h₀.get? b = none := by
  cases e : h₀.get? b with
  | none => rfl
  | some o => exact absurd (Heap.lt_size (F.keep _ _ e)) (Nat.not_lt.mpr hb)

/-- for at, octet in enumerate(row): ..  on the spine -/
theorem enumR {R : Flow → Shared → Prop} {elts : List Expr} {kk : Nat} {pt : Pos} {b : Array UInt8} {t : Tok} {m₀ : PySem.Str → Option Value} {news : List (Addr × Obj)}
    (hh : A.handled = none) (F : Fr h₀ env.locals s.heap m₀) (N : News h₀ env.locals s.heap news)
    (J : Nat → (PySem.Str → Option Value) → List (Addr × Obj) → Prop) (h0 : J 0 m₀ news)
    (turn : ∀ i c T t1 t2 m₁ news₁ h tk own, b[i]? = some c → i < b.size → IsTup h T #[.int i t1, .int ((c : UInt8).toNat : Int) t2] → news₁.map (·.1) = news.map (·.1) → OwnOff own (news.map (·.1)) → J i m₁ news₁ → Fr h₀ env.locals h m₁ → News h₀ env.locals h (news₁ ++ own) →
      wpAny (model prog w) A (assign (.Tuple elts kk pt) env (.ref T)) (fun _ s₂ => wpR (model prog w) A (execs body env) (TurnPost h₀ env.locals (J (i + 1)) own (news.map (·.1)) { s with heap := h, toks := tk } R) s₂) (fun _ _ => False) { s with heap := h, toks := tk })
    (done : ∀ m₁ news₁ h tk, J b.size m₁ news₁ → Fr h₀ env.locals h m₁ → News h₀ env.locals h news₁ → R .next { s with heap := h, toks := tk }) :
    wpAny (model prog w) A (call (.type "enumerate") [.bytes b t]) (fun x s₁ => wpAny (model prog w) A (pyIter x) (fun it s₂ => codeR (model prog w) A (.forLoop (.Tuple elts kk pt) it body [] env) R s₂) (fun _ _ => False) s₁) (fun _ _ => False) s := by
  have hLs : env.locals < s.heap.objs.size := F.ns.lt
  refine call_enum fun h' hE hI hsz hk => ?_
  refine wpAny_pyIter_enum hE ?_
  have hne : s.heap.objs.size + 1 ≠ s.heap.objs.size := Nat.succ_ne_self _
  refine loopR (KTurns.ofWalksU (walksEnum hh (s.heap.objs.size + 1) s.heap.objs.size hne b t)) ?_ ?_ ?_ ⟨⟨.none, hE⟩, hI⟩ (F.keeps hk) (N.grown hk) J h0 ?_ ?_
  · intro hm
    have hb' : env.locals = s.heap.objs.size + 1 ∨ env.locals = s.heap.objs.size := by simpa using hm
    rcases hb' with e | e
    · exact ktu_ne 1 hLs e
    · exact Nat.ne_of_lt hLs e
  · intro b' hb
    have hb' : b' = s.heap.objs.size + 1 ∨ b' = s.heap.objs.size := by simpa using hb
    rcases hb' with rfl | rfl
    · exact new_none F (Nat.le_add_right _ _)
    · exact new_none F (Nat.le_refl _)
  · intro p hp hm
    have hb' : p.1 = s.heap.objs.size + 1 ∨ p.1 = s.heap.objs.size := by simpa using hm
    have hlp := Heap.lt_size (N p hp).1
    rcases hb' with e | e
    · exact ktu_ne 1 hlp e
    · exact Nat.ne_of_lt hlp e
  · rintro i v m₁ news₁ h tk own hi ⟨T, vals, rfl, ⟨t1, t2, c, hc, rfl⟩, hT⟩ ha hoff hJ F₁ N₁
    exact turn i c T t1 t2 m₁ news₁ h tk own hc hi hT ha hoff hJ F₁ N₁
  · exact done
end
end Mine

end
section
open PySem PySem.W PyProof.Rows PySem.Calls
set_option maxRecDepth 100000
namespace Mine
open Sem (wp)
section
variable {prog : Program} {w : World} {A₀ A : Around} {s : Shared} {base h₀ : Heap} {outer : List Env} {L : Addr} {m mg mb : PySem.Str → Option Value} {env : Env} {news : List (Addr × Obj)} {K : Frag}
  {p : Program} {loose : List PySem.Str} {mean : ExcName → Option Value}
  {R : Flow → Shared → Prop} {name qual : PySem.Str} {params : Arguments} {body : List Stmt} {scope : Scope} {dV kV doc pm cdv ct oc : Value} {an od : Option Addr} {osl : Array (Option Value)} {f : Addr} {args : Args} {binds : List (PySem.Str × Value)}

/-- the end of a def's frame on the spine -/
def LeaveR (h₀ : Heap) (L : Addr) (m : PySem.Str → Option Value) (g : Heap) (R : Flow → Shared → Prop) (v : Value) (s' : Shared) : Prop :=
  ∃ L' m' news', Fr g L' s'.heap m' ∧ News g L' s'.heap news' ∧ (Fr h₀ L s'.heap m → News h₀ L s'.heap news' → R (.ret v) s')
theorem LeaveR.intro {h₀ g : Heap} {L L' : Addr} {m m' : PySem.Str → Option Value} {news' : List (Addr × Obj)} {R : Flow → Shared → Prop} {v : Value} {s' : Shared} (F' : Fr g L' s'.heap m') (N' : News g L' s'.heap news')
    (k : Fr h₀ L s'.heap m → News h₀ L s'.heap news' → R (.ret v) s') : LeaveR h₀ L m g R v s' := ⟨L', m', news', F', N', k⟩

/-- a def of the text's, called on the spine -/
theorem codeR_K (B : Below A₀ base outer h₀) (F : Fr h₀ L s.heap m) (X₀ : K.In h₀) (N : News h₀ L s.heap news) (T : Top p loose mean mg mb h₀) (hA : A.frames = some (env :: outer)) (hf : env.frame = some L) (hke : env.scope.kind = .function)
    (ho : K.lookup f = some ⟨oc, od, .func (fnOf name qual params body scope dV kV doc pm an cdv ct), osl⟩) (hcd : codeIn K cdv qual = true) (hroom : A.depth < recursionLimit)
    (hbind : BindsTo s (fnOf name qual params body scope dV kV doc pm an cdv ct) args binds) (hloc : ∀ y ∈ binds, scope.names.lookup y.1 = some .local)
    (h : ∀ g L' h₁, Fr h₀ L g m → Fr g L' h₁ (fun y => binds.reverse.lookup y) → News g L' h₁ news → Below A base (env :: outer) g → K.In g → Top p loose mean mg mb g →
      wpR (model prog w) (A.deeper (envOf qual scope L' f cdv)) (execs body (envOf qual scope L' f cdv)) (fun fl s' => LeaveR h₀ L m g R (match fl with | .ret v => v | _ => .none) s') { s with heap := h₁, toks := s.toks + binds.length })
    (hco : scope.isCoroutine = false) (hgen : scope.isGenerator = false) (hk : scope.kind = .function) (hcell : ∀ x ∈ scope.names, x.2 ≠ .cell) : codeR (model prog w) A (.call (.ref f) args) R s := by
  have X := X₀.keeps F.keep
  obtain ⟨FG, BG, st, lv⟩ := groundX (R := fun r s' => ∃ fl, r = .ok fl ∧ R fl s') B F N hA hf hke
  refine codeR_def (fd := fnOf name qual params body scope dV kV doc pm an cdv ct) hroom (X _ _ ho) rfl (T.nolimit.keeps F.keep) (codeRec_of X hcd) rfl hbind hcell hloc (fun h₁ hns hk₁ => ?_) hco hgen hk
  refine wpR_mono (h _ s.heap.objs.size h₁ FG ⟨hns, fun b o e => hk₁ b o (of_hideAll _ e), Nat.le_of_eq (hideAll_size _ _)⟩
    (fun p hp => ⟨hk₁ _ _ (N p hp).1, Nat.ne_of_lt (Heap.lt_size (N p hp).1), hideAll_none _ (List.mem_map_of_mem hp)⟩) BG (X₀.keeps st) (T.keeps st)) fun fl s' hl => ?_
  have use : ∀ v, LeaveR h₀ L m (hideAll s.heap (news.map (·.1))) R v s' → R (.ret v) s' := by
    rintro v ⟨L', m', news', F', N', k⟩
    obtain ⟨fl', e, r⟩ := lv v s' ⟨L', m', news', F', N', fun a b => ⟨_, rfl, k a b⟩⟩
    cases e
    exact r
  cases fl <;> exact use _ hl

/-- the law itself, entered from the top: a def with captured names -/
theorem codeR_top {a : Addr} {o : Obj} {cd : Value} {args : List Value} (hroom : A.depth < recursionLimit) (ho : s.heap.get? a = some o)
    (hdata : o.data = .func { Calls.docDef name params body scope pm cd doc with defaults := dV, kwdefaults := kV }) (hlim : s.heap.NoLimit) (hcd : s.heap.CodeRec cd name)
    (hbind : BindsTo s { Calls.docDef name params body scope pm cd doc with defaults := dV, kwdefaults := kV } ⟨args, []⟩ binds)
    (hkind : ∀ x ∈ binds, scope.names.lookup x.1 = some .local ∨ (scope.names.lookup x.1 = some .cell ∧ ((cellsFrom (s.heap.objs.size + 1) scope.names []).lookup x.1).isSome = true))
    (hnd : ((cellsFrom 0 scope.names []).map (·.1)).Nodup)
    (h : ∀ h₁ tk cells, Fr s.heap s.heap.objs.size h₁ (bindL (envOfC name scope s.heap.objs.size a cd).kindOf binds fun _ => none) → News s.heap s.heap.objs.size h₁ cells →
      CellsAre (bindC (envOfC name scope s.heap.objs.size a cd).kindOf binds fun _ => none) (cellsFrom (s.heap.objs.size + 1) scope.names []) cells →
      wpR (model prog w) (A.deeper (envOfC name scope s.heap.objs.size a cd)) (execs body (envOfC name scope s.heap.objs.size a cd)) (fun f s' => R (.ret (match f with | .ret v => v | _ => .none)) s') { s with heap := h₁, toks := tk })
    (hco : scope.isCoroutine = false) (hgen : scope.isGenerator = false) (hk : scope.kind = .function) : codeR (model prog w) A (.call (.ref a) ⟨args, []⟩) R s := by
  refine codeR_of_tree rfl ?_
  show wpR _ A.in1 (callAny (.ref a) _) _ s
  simp only [callAny]
  refine wpR_bindA (wpAny_load ho ?_)
  obtain ⟨c, oc, vs, tq, hc, hoc, hdc, hq⟩ := hcd
  simp only [hdata, callFunction, hco, hgen, Calls.docDef, hc]
  refine wpR_bindA (m := field (.ref c) 1) (wpAny_field hoc hdc hq ?_)
  refine wpR_bindA (wpAny_pure ?_)
  subst hc
  refine wpR_bindA (hbind _ _ _ _ ?_)
  refine wpR_bindA (wpAny_newFunctionEnv_cells hk hkind fun env' he s' x => ?_)
  subst he
  obtain ⟨h₁, tk, rfl, _⟩ := x.done
  have hk₁ := x.toInCall.keep
  refine wpR_bindA (wpAny_enterFrame (hlim.keeps hk₁) hroom ?_)
  refine wpR_pure ⟨rfl, codeR_func ?_⟩
  obtain ⟨cells, NC, Y⟩ := Cl.news (h₀ := s.heap) (Nat.le_refl _) fun n c hm => ⟨x.cell n c (lookup_of_mem_nodup (cellsFrom_names scope.names 0 (s.heap.objs.size + 1) [] [] rfl ▸ hnd) hm), x.above n c hm⟩
  exact h h₁ tk cells ⟨x.toInCall.ns, x.toInCall.keep, x.toInCall.fresh⟩ NC Y
end
end Mine

end
section
open PySem PySem.W PyProof.Rows PySem.Calls
namespace Mine

abbrev MP : Program := PySem.Challenge.rw_nu0002_01.row.prog

/-- A contract of a def: from any frame, with the ledger as it stands, it hands back what R says. -/
abbrev Con (w : World) (f : Addr) (vs : List Value) (d : Nat) (news : List (Addr × Obj)) (R : Value → List (Addr × Obj) → Prop) : Prop :=
  ∀ (p : Program) (loose : List PySem.Str) (mean : ExcName → Option Value) (mg mb : PySem.Str → Option Value) (dp un : Nat) (gd : Option (List Code)) (cn : PySem.Str) (cs : Scope) (a : Addr) (ccd : Value) (cl : List (PySem.Str × Addr)) (outer : List Env) (A₀ : Around) (base h₀ : Heap) (L : Addr) (m : PySem.Str → Option Value) (s : Shared) (Q E : Value → Shared → Prop),
    Below A₀ base outer h₀ → Fr h₀ L s.heap m → (MineH.hd.heap_39 w.params).In h₀ → News h₀ L s.heap news → Top p loose mean mg mb h₀ → cs.kind = .function →
    dp + d < recursionLimit → un + 8 * d < cLine →
    (∀ v h' tk' news', R v news' → Fr h₀ L h' m → News h₀ L h' news' → Q v { s with heap := h', toks := tk' }) →
    wpAny (model PySem.Challenge.rw_nu0002_01.row.prog w) (ktrTop dp un gd cn cs L a ccd cl outer) (call (.ref f) vs) Q E s

/-- the same on the spine: over the quiet stacks -/
abbrev ConR (w : World) (f : Addr) (vs : List Value) (d : Nat) (news : List (Addr × Obj)) (R : Value → List (Addr × Obj) → Prop) : Prop :=
  ∀ (p : Program) (loose : List PySem.Str) (mean : ExcName → Option Value) (mg mb : PySem.Str → Option Value) (dp un : Nat) (cn : PySem.Str) (cs : Scope) (a : Addr) (ccd : Value) (cl : List (PySem.Str × Addr)) (outer : List Env) (A₀ : Around) (base h₀ : Heap) (L : Addr) (m : PySem.Str → Option Value) (s : Shared) (Q : Value → Shared → Prop),
    Below A₀ base outer h₀ → Fr h₀ L s.heap m → (MineH.hd.heap_39 w.params).In h₀ → News h₀ L s.heap news → Top p loose mean mg mb h₀ → cs.kind = .function →
    dp + d < recursionLimit → un + 8 * d < cLine →
    (∀ v h' tk' news', R v news' → Fr h₀ L h' m → News h₀ L h' news' → Q v { s with heap := h', toks := tk' }) →
    wpR (model PySem.Challenge.rw_nu0002_01.row.prog w) (ktrTop dp un (some []) cn cs L a ccd cl outer) (call (.ref f) vs) Q s

def absF (x : Int) : Int := if x < 0 then -x else x
def nearestF (l a c : Int) : Int :=
  if absF (l + a - c - c) < absF (l + a - c - (if absF (l + a - c - a) < absF (l + a - c - l) then a else l)) then c else if absF (l + a - c - a) < absF (l + a - c - l) then a else l
def guessF (k l a c : Int) : Int :=
  if k = 0 then 0 else if k = 1 then l else if k = 2 then a else if k = 3 then Int.fdiv (l + a) 2 else nearestF l a c

theorem Con.use {w : World} {f : Addr} {vs : List Value} {d : Nat} {news : List (Addr × Obj)} {R : Value → List (Addr × Obj) → Prop} (C : Con w f vs d news R)
    {p : Program} {loose : List PySem.Str} {mean : ExcName → Option Value} {mg mb : PySem.Str → Option Value} {dp un : Nat} {gd : Option (List Code)} {cn : PySem.Str} {cs : Scope} {a : Addr} {ccd : Value} {cl : List (PySem.Str × Addr)} {outer : List Env} {A₀ : Around} {base h₀ : Heap} {L : Addr} {m : PySem.Str → Option Value} {s : Shared} {Q E : Value → Shared → Prop}
    (B : Below A₀ base outer h₀) (F : Fr h₀ L s.heap m) (X : (MineH.hd.heap_39 w.params).In h₀) (N : News h₀ L s.heap news) (T : Top p loose mean mg mb h₀) (hk : cs.kind = .function)
    (hd : dp + d < recursionLimit) (hu : un + 8 * d < cLine)
    (ret : ∀ v h' tk' news', R v news' → Fr h₀ L h' m → News h₀ L h' news' → Q v { s with heap := h', toks := tk' }) :
    wpAny (model PySem.Challenge.rw_nu0002_01.row.prog w) (ktrTop dp un gd cn cs L a ccd cl outer) (call (.ref f) vs) Q E s :=
  C p loose mean mg mb dp un gd cn cs a ccd cl outer A₀ base h₀ L m s Q E B F X N T hk hd hu ret
end Mine

end
section
open PySem PySem.W PyProof.Rows PySem.Calls
namespace Mine
set_option maxRecDepth 100000 in
set_option maxHeartbeats 4000000 in
theorem nearest_c (w : World) (news : List (Addr × Obj)) (l a c : Int) (tl ta tc : Tok) : Con w 57 [.int l tl, .int a ta, .int c tc] 1 news (fun v n => (∃ t, v = .int (nearestF l a c) t) ∧ n = news) := by
  unfold Con
  k_fill
  intro p loose mean mg mb dp un gd cn cs aa ccd cl outer A₀ base h₀ L m s Q E B F X N T hk hd hu hret
  refine wpAny_call ?_
  k_dflt cell_enter
  k_steps
  all_goals (refine hret _ _ _ _ ⟨⟨_, congrArg (Value.int · _) (?_ : _ = nearestF l a c)⟩, rfl⟩ (by assumption) (by assumption); clear hret; unfold nearestF absF; omega)
local macro_rules | `(tactic| walk_at "eval Call Name") => `(tactic| (k_here; (with_reducible show wpAny _ _ (eval (Expr.Call (Expr.Name (PySem.Str.ofString "nearest") _) _ _ _) _) _ _ _); refine Call_ ?_))
local macro_rules | `(tactic| ktr_call $x:term 0) => `(tactic| (refine' Con.use $x ?k1 ?k2 ?k3 ?k4 ?k5 ?kK ?kd ?ku ?_; (case k1 => k_asm); (case k2 => k_asm); (case k3 => k_asm); (case k4 => k_asm); (case k5 => k_asm); (case kK => first | exact rfl | assumption); (case kd => ktr_room); (case ku => ktr_units); rintro v9 h9 tk9 n9 ⟨⟨t9, e9⟩, en9⟩ F9 N9; subst e9; subst en9; (try dsimp only); (try k_sweep); (try k_fold)))
local macro_rules | `(tactic| walk_at "call ref") => `(tactic| (k_here; (with_reducible show wpAny _ _ (call (Value.ref 57) _) _ _ _); k_dflt (ktr_call (nearest_c _ _ _ _ _ _ _ _) 0)))
set_option maxRecDepth 100000 in
set_option maxHeartbeats 4000000 in
theorem guess_c (w : World) (news : List (Addr × Obj)) (k l a c : Int) (tk tl ta tc : Tok) (h0 : 0 ≤ k) (h4 : k < 5) : Con w 64 [.int k tk, .int l tl, .int a ta, .int c tc] 2 news (fun v n => (∃ t, v = .int (guessF k l a c) t) ∧ n = news) := by
  unfold Con
  k_fill
  intro p loose mean mg mb dp un gd cn cs aa ccd cl outer A₀ base h₀ L m s Q E B F X N T hk hd hu hret
  have hk5 : k = 0 ∨ k = 1 ∨ k = 2 ∨ k = 3 ∨ k = 4 := by omega
  rcases hk5 with rfl | rfl | rfl | rfl | rfl
  all_goals (
    refine wpAny_call ?_
    k_dflt cell_enter
    k_steps)
  all_goals (refine hret _ _ _ _ ⟨⟨_, congrArg (Value.int · _) (?_ : _ = guessF _ l a c)⟩, rfl⟩ (by assumption) (by assumption); first | exact rfl | (clear hret; simp [guessF]; done))
end Mine

end
section
open PySem PySem.W PyProof.Rows PySem.Calls
namespace Mine
/-- the octet at i, nought ahead of the row -/
def nb (b : Array UInt8) (i : Int) : Int := if 0 ≤ i then ((b.getD i.toNat 0).toNat : Int) else 0
def gAt (k : Int) (row above : Array UInt8) (st : Int) (i : Nat) : Int := guessF k (nb row (i - st)) (nb above i) (nb above (i - st))
def filtOct (k : Int) (row above : Array UInt8) (st : Int) (i : Nat) : Int := (nb row i - gAt k row above st i) % 256
def filtArr (k : Int) (row above : Array UInt8) (st : Int) (n : Nat) : Array UInt8 := ((List.range n).map fun j => (filtOct k row above st j).toNat.toUInt8).toArray
theorem filtArr_succ {k row above st n} : filtArr k row above st (n + 1) = (filtArr k row above st n).push (filtOct k row above st n).toNat.toUInt8 := by
  simp [filtArr, List.range_succ]
theorem filtArr_size {k row above st n} : (filtArr k row above st n).size = n := by simp [filtArr]

section
variable {prog : Program} {w : World} {A : Around} {E : Value → Shared → Prop} {s : Shared}
theorem nb_in {b : Array UInt8} {k : Int} (_h0 : 0 ≤ k) : 0 ≤ nb b k ∧ nb b k < 256 := by
  unfold nb
  have := (b.getD k.toNat 0).toNat_lt
  split <;> omega
theorem sub_bytes {value slice : Expr} {b : Array UInt8} {t : Tok} {k : Int} {u : Tok} {Q : Value → Shared → Prop} (hz : b.size ≤ 1000) (h0 : 0 ≤ k) (h1 : k < b.size)
    (h : Q (.int (nb b k) s.toks) { s with toks := s.toks + 1 })
    (hs : subscripted slice false (.bytes b t) (.int k u) = operate [.bytes b t, .int k u] (getItem (.bytes b t) (.int k u)) := by with_unfolding_all rfl) :
    wpAny (model prog w) A (subscriptTail value slice (.bytes b t) (.int k u)) Q E s := by
  refine tail_any (typeIs_bytes s b t) PySem.W.FB.slot_bytes_getitem.lookup ?_ hs
  have e : nb b k = ((b.toList.getD k.toNat 0).toNat : Int) := by
    unfold nb
    rw [if_pos h0]
    congr 2
    simp [Array.getD_eq_getD_getElem?, List.getD_eq_getElem?_getD]
  have := getItem_bytes (prog := prog) (w := w) (A := A) (E := E) (s := s) (t := t) (u := u) (l := b.toList) (i := k) (Q := Q) (by simp; omega) h0 (by simpa using h1) (by rw [← e]; exact h)
  simpa using this
end

theorem over_store {stored : List PySem.Str} {M m₀ : PySem.Str → Option Value} (h : ∀ y, stored.contains y = false → M y = m₀ y) : ∃ u : PySem.Str → Option Value, M = fun y => if stored.contains y then u y else m₀ y :=
  ⟨M, funext fun y => by
    cases e : stored.contains y with
    | true => simp
    | false => simp [h y e]⟩

local macro_rules | `(tactic| walk_at "getMethod ref") => `(tactic| (k_here; (with_reducible show wpAny _ _ (getMethod (Value.ref _) (PySem.Str.ofString "append") _) _ _ _); k_dflt (refine' getMethod_append ?hq ?_; (case hq => exact News.get (by k_asm) (by k_mem)))))
local macro_rules | `(tactic| walk_at "eval Call Name") => `(tactic| (k_here; (with_reducible show wpAny _ _ (eval (Expr.Call (Expr.Name (PySem.Str.ofString "guess") _) _ _ _) _) _ _ _); refine Call_ ?_))
local macro_rules | `(tactic| walk_at "subscriptTail") => `(tactic| (k_here; (with_reducible show wpAny _ _ (subscriptTail _ _ (Value.bytes _ _) (Value.int _ _)) _ _ _); k_dflt (refine' sub_bytes ?z ?k0 ?k1 ?_ ?hs; (case hs => with_unfolding_all rfl); (case z => omega); (case k0 => omega); (case k1 => omega); k_whole)))
local macro_rules | `(tactic| ktr_call $x:term 0) => `(tactic| (refine' Con.use $x ?k1 ?k2 ?k3 ?k4 ?k5 ?kK ?kd ?ku ?_; (case k1 => k_asm); (case k2 => k_asm); (case k3 => k_asm); (case k4 => k_asm); (case k5 => k_asm); (case kK => first | exact rfl | assumption); (case kd => ktr_room); (case ku => ktr_units); rintro v9 h9 tk9 n9 ⟨⟨t9, e9⟩, en9⟩ F9 N9; subst e9; subst en9; (try dsimp only); (try k_sweep); (try k_fold)))
local macro_rules | `(tactic| walk_at "call ref") => `(tactic| (k_here; (with_reducible show wpAny _ _ (call (Value.ref 64) _) _ _ _); k_dflt (ktr_call (guess_c _ _ _ _ _ _ _ _ _ _ (by assumption) (by assumption)) 0)))

set_option maxRecDepth 100000 in
set_option maxHeartbeats 4000000 in
theorem filtered_c (w : World) (news : List (Addr × Obj)) (k st : Int) (row above : Array UInt8) (tk tr ta ts : Tok) (h0 : 0 ≤ k) (h4 : k < 5) (hs : 1 ≤ st) (hs2 : st < 1000) (hz : row.size = above.size) (hz6 : row.size < 1000) :
    ConR w 71 [.int k tk, .bytes row tr, .bytes above ta, .int st ts] 3 news (fun v n => (∃ t, v = .bytes (filtArr k row above st row.size) t) ∧ n = news) := by
  unfold ConR
  k_fill
  intro p loose mean mg mb dp un cn cs aa ccd cl outer A₀ base h₀ L m s Q B F X N T hk hd hu hret
  refine wpR_call ?_
  k_dflt (refine' codeR_K ?k1 ?k2 ?k3 ?k4 ?k5 ?kA ?kF ?kK ?k6 ?k7 ?k8 ?k9 ?kB ?_ ?c2 ?c3 ?c4 ?c5; (case kA => exact rfl); (case kF => exact rfl); (case kK => assumption); (case k1 => k_asm); (case k2 => k_asm); (case k3 => k_asm); (case k4 => k_asm); (case k5 => k_asm); (case k6 => k_is); (case k7 => k_is); (case k8 => ktr_room); (case k9 => exact BindsTo.of_eq rfl); (case c5 => decide); (case kB => exact locs rfl); (case c2 => exact rfl); (case c3 => exact rfl); (case c4 => exact rfl); k_whole)
  intro g' L' h' FG' F' N' B' X' T'
  replace F' : Fr g' L' h' (fun y => List.lookup y [(PySem.Str.ofString "step", .int st ts), (PySem.Str.ofString "above", .bytes above ta), (PySem.Str.ofString "row", .bytes row tr), (PySem.Str.ofString "kind", .int k tk)]) := F'
  (try dsimp only); (try k_lift B')
  refine wpR_execs_cons (wpR_Assign (wpR_Call ?_))
  k_fold
  k_steps
  (rename Fr _ _ _ _ => F1); (rename News _ _ _ _ => N1)
  refine wpR_callWith0 (.inr (.inl rfl)) (Looks.of_pure rfl) (ba_call rfl fun h1 hq1 hk1 => ?_)
  have F2 := F1.keeps hk1
  have N2 : News g' L' h1 ((h'.objs.size, baObj #[]) :: news) := fun q hq => by
    rcases List.mem_cons.mp hq with rfl | hq
    · exact ⟨hq1, Nat.ne_of_gt F1.ns.lt, new_none F1 (Nat.le_refl _)⟩
    · exact (N1.grown hk1) q hq
  have hnq : ∀ p ∈ news, p.1 ≠ h'.objs.size := fun q hq => Nat.ne_of_lt (Heap.lt_size (N1 q hq).1)
  clear F1 N1
  dsimp only
  generalize h'.objs.size = q at *
  clear hk1 hq1
  k_steps
  clear qk ek
  (rename Fr _ _ _ _ => F3); (rename News _ _ _ _ => N3)
  refine wpR_execs_cons (wpR_For ?_)
  k_steps
  (rename Fr _ _ _ _ => F3); (rename News _ _ _ _ => N3)
  refine enumR (by rfl) F3 N3 (fun i mm nx => (∃ u : PySem.Str → Option Value, mm = fun y => if ([PySem.Str.ofString "at", PySem.Str.ofString "octet", PySem.Str.ofString "left", PySem.Str.ofString "corner"] : List PySem.Str).contains y then u y else if y = PySem.Str.ofString "found" then some (.ref q) else
      List.lookup y [(PySem.Str.ofString "step", .int st ts), (PySem.Str.ofString "above", .bytes above ta), (PySem.Str.ofString "row", .bytes row tr), (PySem.Str.ofString "kind", .int k tk)]) ∧ nx = (q, baObj (filtArr k row above st i)) :: news) ?_ ?_ ?_
  all_goals clear F3 N3
  · refine ⟨over_store fun y _ => rfl, ?_⟩
    simp [filtArr]
  · rintro i c T1 t1 t2 m₁ news₁ h tk own hc hi hT ha hoff ⟨⟨u, rfl⟩, rfl⟩ F₁ N₁
    simp only [List.cons_append] at N₁
    k_fold
    k_steps
    clear qk ek
    refine wpR_execs_leaf ?_
    k_fold
    k_steps
    all_goals (
      clear qk ek
      refine wpR_execs_leaf ?_
      k_fold
      k_steps)
    all_goals (
      clear qk ek
      refine wpR_execs_cons (wpR_Expr (wpR_Method ?_))
      k_steps
      refine wpR_callWith (P := fun _ => True) (fun _ _ => ⟨_, .inr (.inl rfl), Looks.of_pure rfl⟩) ?_
      k_fold
      k_steps)
    all_goals (try (exact True.intro))
    all_goals (
      clear qk ek
      (rename Fr _ _ _ _ => F5); (rename News _ _ _ _ => N5)
      have hoff' : ∀ p ∈ news ++ own, p.1 ≠ q := fun p hp => by
        rcases List.mem_append.mp hp with hp | hp
        · exact hnq p hp
        · exact hoff p hp q (List.mem_cons_self ..)
      have up := news_upd (pre := []) (post := news ++ own) (d := q) (f := Obj.mapBytearray (·.push (filtOct k row above st i).toNat.toUInt8)) (o' := baObj (filtArr k row above st (i + 1))) F5 N5 (fun _ h => nomatch h) hoff' (by rw [filtArr_succ]; rfl) rfl
      have hoct : ∀ x : Int, Builtin.bitAnd x 255 = x % 256 := bitAnd_m8
      have hnb : nb row i = (c.toNat : Int) := by simp [nb, Array.getD_eq_getD_getElem?, hc]
      rw [hoct])
    · refine ba_append (i := ((c.toNat : Int) - guessF k (nb row (i - st)) (nb above i) (nb above (i - st))) % 256) rfl (N5 _ (List.mem_cons_self ..)).1 (by omega) (by omega) (by rw [filtArr_size, sizeLine_eq]; omega) ?_
      have e : ((c.toNat : Int) - guessF k (nb row (i - st)) (nb above i) (nb above (i - st))) % 256 = filtOct k row above st i := by rw [← hnb]; rfl
      rw [e]
      refine wpR_any (wpAny_execs_nil (InvEndN.intro up.1 up.2 ⟨over_store fun y hy => ?_, rfl⟩ (by simp) (fun p hp => ?_) fun p hp => List.mem_cons_of_mem _ (List.mem_append_right _ hp)))
      · simp only [List.contains_cons, List.contains_nil, Bool.or_false, Bool.or_eq_false_iff, beq_eq_false_iff_ne, ne_eq] at hy
        simp [hy]
      · rcases List.mem_cons.mp hp with rfl | hp
        · exact List.mem_cons_self ..
        · exact List.mem_cons_of_mem _ (List.mem_append_left _ hp)
    · have hl : ∀ b : Array UInt8, nb b (i - st) = 0 := fun b => by unfold nb; rw [if_neg (by omega)]
      refine ba_append (i := ((c.toNat : Int) - guessF k 0 (nb above i) 0) % 256) rfl (N5 _ (List.mem_cons_self ..)).1 (by omega) (by omega) (by rw [filtArr_size, sizeLine_eq]; omega) ?_
      have e : ((c.toNat : Int) - guessF k 0 (nb above i) 0) % 256 = filtOct k row above st i := by unfold filtOct gAt; rw [hl, hl, hnb]
      rw [e]
      refine wpR_any (wpAny_execs_nil (InvEndN.intro up.1 up.2 ⟨over_store fun y hy => ?_, rfl⟩ (by simp) (fun p hp => ?_) fun p hp => List.mem_cons_of_mem _ (List.mem_append_right _ hp)))
      · simp only [List.contains_cons, List.contains_nil, Bool.or_false, Bool.or_eq_false_iff, beq_eq_false_iff_ne, ne_eq] at hy
        simp [hy]
      · rcases List.mem_cons.mp hp with rfl | hp
        · exact List.mem_cons_self ..
        · exact List.mem_cons_of_mem _ (List.mem_append_left _ hp)
  · rintro m₁ news₁ h tk ⟨⟨u, rfl⟩, rfl⟩ F₁ N₁
    dsimp only
    refine wpR_execs_leaf ?_
    k_fold
    k_steps
    (rename Fr _ _ _ _ => F5); (rename News _ _ _ _ => N5)
    refine bytes_of_ba (N5 _ (List.mem_cons_self ..)).1 (by rw [filtArr_size, sizeLine_eq]; omega) fun t9 tk9 => ?_
    k_unfold
    dsimp only
    exact LeaveR.intro F5 (fun p hp => N5 p (List.mem_cons_of_mem _ hp)) fun kF kN => ⟨_, rfl, hret _ _ _ _ ⟨⟨_, rfl⟩, rfl⟩ kF kN⟩
end Mine

end
section
open PySem PySem.W PyProof.Rows PySem.Calls
namespace Mine
/-- the row that a filter's telling leads back to -/
def unfArr (k : Int) (told above : Array UInt8) (st : Int) : Nat → Array UInt8
  | 0 => #[]
  | n + 1 => (unfArr k told above st n).push ((nb told n + guessF k (nb (unfArr k told above st n) (n - st)) (nb above n) (nb above (n - st))) % 256).toNat.toUInt8
def unfOct (k : Int) (told above : Array UInt8) (st : Int) (n : Nat) : Int := (nb told n + guessF k (nb (unfArr k told above st n) (n - st)) (nb above n) (nb above (n - st))) % 256
theorem unfArr_succ {k told above st n} : unfArr k told above st (n + 1) = (unfArr k told above st n).push (unfOct k told above st n).toNat.toUInt8 := rfl
theorem unfArr_size {k told above st} : ∀ {n}, (unfArr k told above st n).size = n
  | 0 => rfl
  | n + 1 => by rw [unfArr, Array.size_push, unfArr_size]
section
variable {prog : Program} {w : World} {A : Around} {E : Value → Shared → Prop} {s : Shared}
theorem sub_ba {value slice : Expr} {q : Addr} {b : Array UInt8} {k : Int} {u : Tok} {Q : Value → Shared → Prop} (hq : s.heap.get? q = some (baObj b)) (hz : b.size ≤ 1000) (h0 : 0 ≤ k) (h1 : k < b.size)
    (h : Q (.int (nb b k) s.toks) { s with toks := s.toks + 1 })
    (hs : subscripted slice false (.ref q) (.int k u) = operate [.ref q, .int k u] (getItem (.ref q) (.int k u)) := by with_unfolding_all rfl) :
    wpAny (model prog w) A (subscriptTail value slice (.ref q) (.int k u)) Q E s := by
  refine tail_any (ba_type hq) FB.slot_getitem.lookup ?_ hs
  have hlt : k.toNat < b.size := by omega
  refine ba_getItem (c := b[k.toNat]) hq h0 (by omega) (by simp [hlt]) ?_
  have e : nb b k = (b[k.toNat].toNat : Int) := by
    unfold nb
    rw [if_pos h0]
    simp [Array.getD_eq_getD_getElem?, hlt]
  rw [← e]
  exact h
end

local macro_rules | `(tactic| walk_at "getMethod ref") => `(tactic| (k_here; (with_reducible show wpAny _ _ (getMethod (Value.ref _) (PySem.Str.ofString "append") _) _ _ _); k_dflt (refine' getMethod_append ?hq ?_; (case hq => exact News.get (by k_asm) (by k_mem)))))
local macro_rules | `(tactic| walk_at "eval Call Name") => `(tactic| (k_here; (with_reducible show wpAny _ _ (eval (Expr.Call (Expr.Name (PySem.Str.ofString "guess") _) _ _ _) _) _ _ _); refine Call_ ?_))
local macro_rules | `(tactic| walk_at "subscriptTail") => `(tactic| (k_here; (with_reducible show wpAny _ _ (subscriptTail _ _ (Value.bytes _ _) (Value.int _ _)) _ _ _); k_dflt (refine' sub_bytes ?z ?k0 ?k1 ?_ ?hs; (case hs => with_unfolding_all rfl); (case z => omega); (case k0 => omega); (case k1 => omega); k_whole)))
local macro_rules | `(tactic| ktr_call $x:term 0) => `(tactic| (refine' Con.use $x ?k1 ?k2 ?k3 ?k4 ?k5 ?kK ?kd ?ku ?_; (case k1 => k_asm); (case k2 => k_asm); (case k3 => k_asm); (case k4 => k_asm); (case k5 => k_asm); (case kK => first | exact rfl | assumption); (case kd => ktr_room); (case ku => ktr_units); rintro v9 h9 tk9 n9 ⟨⟨t9, e9⟩, en9⟩ F9 N9; subst e9; subst en9; (try dsimp only); (try k_sweep); (try k_fold)))
local macro_rules | `(tactic| walk_at "call ref") => `(tactic| (k_here; (with_reducible show wpAny _ _ (call (Value.ref 64) _) _ _ _); k_dflt (ktr_call (guess_c _ _ _ _ _ _ _ _ _ _ (by assumption) (by assumption)) 0)))

local macro_rules | `(tactic| walk_at "subscriptTail") => `(tactic| (k_here; (with_reducible show wpAny _ _ (subscriptTail _ _ (Value.ref _) (Value.int _ _)) _ _ _); k_dflt (refine' sub_ba ?hq ?z ?k0 ?k1 ?_ ?hs; (case hq => exact News.get (by k_asm) (by k_mem)); (case hs => with_unfolding_all rfl); (case z => (rw [unfArr_size]; omega)); (case k0 => omega); (case k1 => (rw [unfArr_size]; omega)); k_whole)))
set_option maxRecDepth 100000 in
set_option maxHeartbeats 4000000 in
theorem unfiltered_c (w : World) (news : List (Addr × Obj)) (k st : Int) (told above : Array UInt8) (tk tr ta ts : Tok) (h0 : 0 ≤ k) (h4 : k < 5) (hs : 1 ≤ st) (hs2 : st < 1000) (hz : told.size = above.size) (hz6 : told.size < 1000) :
    ConR w 78 [.int k tk, .bytes told tr, .bytes above ta, .int st ts] 3 news (fun v n => (∃ t, v = .bytes (unfArr k told above st told.size) t) ∧ n = news) := by
  unfold ConR
  k_fill
  intro p loose mean mg mb dp un cn cs aa ccd cl outer A₀ base h₀ L m s Q B F X N T hk hd hu hret
  refine wpR_call ?_
  k_dflt (refine' codeR_K ?k1 ?k2 ?k3 ?k4 ?k5 ?kA ?kF ?kK ?k6 ?k7 ?k8 ?k9 ?kB ?_ ?c2 ?c3 ?c4 ?c5; (case kA => exact rfl); (case kF => exact rfl); (case kK => assumption); (case k1 => k_asm); (case k2 => k_asm); (case k3 => k_asm); (case k4 => k_asm); (case k5 => k_asm); (case k6 => k_is); (case k7 => k_is); (case k8 => ktr_room); (case k9 => exact BindsTo.of_eq rfl); (case c5 => decide); (case kB => exact locs rfl); (case c2 => exact rfl); (case c3 => exact rfl); (case c4 => exact rfl); k_whole)
  intro g' L' h' FG' F' N' B' X' T'
  replace F' : Fr g' L' h' (fun y => List.lookup y [(PySem.Str.ofString "step", .int st ts), (PySem.Str.ofString "above", .bytes above ta), (PySem.Str.ofString "told", .bytes told tr), (PySem.Str.ofString "kind", .int k tk)]) := F'
  (try dsimp only); (try k_lift B')
  refine wpR_execs_cons (wpR_Assign (wpR_Call ?_))
  k_fold
  k_steps
  (rename Fr _ _ _ _ => F1); (rename News _ _ _ _ => N1)
  refine wpR_callWith0 (.inr (.inl rfl)) (Looks.of_pure rfl) (ba_call rfl fun h1 hq1 hk1 => ?_)
  have F2 := F1.keeps hk1
  have N2 : News g' L' h1 ((h'.objs.size, baObj #[]) :: news) := fun q hq => by
    rcases List.mem_cons.mp hq with rfl | hq
    · exact ⟨hq1, Nat.ne_of_gt F1.ns.lt, new_none F1 (Nat.le_refl _)⟩
    · exact (N1.grown hk1) q hq
  have hnq : ∀ p ∈ news, p.1 ≠ h'.objs.size := fun q hq => Nat.ne_of_lt (Heap.lt_size (N1 q hq).1)
  clear F1 N1
  dsimp only
  generalize h'.objs.size = q at *
  clear hk1 hq1
  k_steps
  clear qk ek
  (rename Fr _ _ _ _ => F3); (rename News _ _ _ _ => N3)
  refine wpR_execs_cons (wpR_For ?_)
  k_steps
  (rename Fr _ _ _ _ => F3); (rename News _ _ _ _ => N3)
  refine enumR (by rfl) F3 N3 (fun i mm nx => (∃ u : PySem.Str → Option Value, mm = fun y => if ([PySem.Str.ofString "at", PySem.Str.ofString "octet", PySem.Str.ofString "left", PySem.Str.ofString "corner"] : List PySem.Str).contains y then u y else if y = PySem.Str.ofString "row" then some (.ref q) else
      List.lookup y [(PySem.Str.ofString "step", .int st ts), (PySem.Str.ofString "above", .bytes above ta), (PySem.Str.ofString "told", .bytes told tr), (PySem.Str.ofString "kind", .int k tk)]) ∧ nx = (q, baObj (unfArr k told above st i)) :: news) ?_ ?_ ?_
  all_goals clear F3 N3
  · refine ⟨over_store fun y _ => rfl, ?_⟩
    simp [unfArr]
  · rintro i c T1 t1 t2 m₁ news₁ h tk own hc hi hT ha hoff ⟨⟨u, rfl⟩, rfl⟩ F₁ N₁
    simp only [List.cons_append] at N₁
    k_fold
    k_steps
    clear qk ek
    refine wpR_execs_leaf ?_
    k_fold
    k_steps
    all_goals (
      clear qk ek
      refine wpR_execs_leaf ?_
      k_fold
      k_steps)
    all_goals (
      clear qk ek
      refine wpR_execs_cons (wpR_Expr (wpR_Method ?_))
      k_steps
      refine wpR_callWith (P := fun _ => True) (fun _ _ => ⟨_, .inr (.inl rfl), Looks.of_pure rfl⟩) ?_
      k_fold
      k_steps)
    all_goals (try (exact True.intro))
    all_goals (
      clear qk ek
      (rename Fr _ _ _ _ => F5); (rename News _ _ _ _ => N5)
      have hoff' : ∀ p ∈ news ++ own, p.1 ≠ q := fun p hp => by
        rcases List.mem_append.mp hp with hp | hp
        · exact hnq p hp
        · exact hoff p hp q (List.mem_cons_self ..)
      have up := news_upd (pre := []) (post := news ++ own) (d := q) (f := Obj.mapBytearray (·.push (unfOct k told above st i).toNat.toUInt8)) (o' := baObj (unfArr k told above st (i + 1))) F5 N5 (fun _ h => nomatch h) hoff' (by rw [unfArr_succ]; rfl) rfl
      have hoct : ∀ x : Int, Builtin.bitAnd x 255 = x % 256 := bitAnd_m8
      have hnb : nb told i = (c.toNat : Int) := by simp [nb, Array.getD_eq_getD_getElem?, hc]
      rw [hoct])
    · refine ba_append (i := ((c.toNat : Int) + guessF k (nb (unfArr k told above st i) (i - st)) (nb above i) (nb above (i - st))) % 256) rfl (N5 _ (List.mem_cons_self ..)).1 (by omega) (by omega) (by rw [unfArr_size, sizeLine_eq]; omega) ?_
      have e : ((c.toNat : Int) + guessF k (nb (unfArr k told above st i) (i - st)) (nb above i) (nb above (i - st))) % 256 = unfOct k told above st i := by rw [← hnb]; rfl
      rw [e]
      refine wpR_any (wpAny_execs_nil (InvEndN.intro up.1 up.2 ⟨over_store fun y hy => ?_, rfl⟩ (by simp) (fun p hp => ?_) fun p hp => List.mem_cons_of_mem _ (List.mem_append_right _ hp)))
      · simp only [List.contains_cons, List.contains_nil, Bool.or_false, Bool.or_eq_false_iff, beq_eq_false_iff_ne, ne_eq] at hy
        simp [hy]
      · rcases List.mem_cons.mp hp with rfl | hp
        · exact List.mem_cons_self ..
        · exact List.mem_cons_of_mem _ (List.mem_append_left _ hp)
    · have hl : ∀ b : Array UInt8, nb b (i - st) = 0 := fun b => by unfold nb; rw [if_neg (by omega)]
      refine ba_append (i := ((c.toNat : Int) + guessF k 0 (nb above i) 0) % 256) rfl (N5 _ (List.mem_cons_self ..)).1 (by omega) (by omega) (by rw [unfArr_size, sizeLine_eq]; omega) ?_
      have e : ((c.toNat : Int) + guessF k 0 (nb above i) 0) % 256 = unfOct k told above st i := by unfold unfOct; rw [hl, hl, hnb]
      rw [e]
      refine wpR_any (wpAny_execs_nil (InvEndN.intro up.1 up.2 ⟨over_store fun y hy => ?_, rfl⟩ (by simp) (fun p hp => ?_) fun p hp => List.mem_cons_of_mem _ (List.mem_append_right _ hp)))
      · simp only [List.contains_cons, List.contains_nil, Bool.or_false, Bool.or_eq_false_iff, beq_eq_false_iff_ne, ne_eq] at hy
        simp [hy]
      · rcases List.mem_cons.mp hp with rfl | hp
        · exact List.mem_cons_self ..
        · exact List.mem_cons_of_mem _ (List.mem_append_left _ hp)
  · rintro m₁ news₁ h tk ⟨⟨u, rfl⟩, rfl⟩ F₁ N₁
    dsimp only
    refine wpR_execs_leaf ?_
    k_fold
    k_steps
    (rename Fr _ _ _ _ => F5); (rename News _ _ _ _ => N5)
    refine bytes_of_ba (N5 _ (List.mem_cons_self ..)).1 (by rw [unfArr_size, sizeLine_eq]; omega) fun t9 tk9 => ?_
    k_unfold
    dsimp only
    exact LeaveR.intro F5 (fun p hp => N5 p (List.mem_cons_of_mem _ hp)) fun kF kN => ⟨_, rfl, hret _ _ _ _ ⟨⟨_, rfl⟩, rfl⟩ kF kN⟩
end Mine

end
section
open PySem PySem.W PyProof.Rows PySem.Calls
set_option maxRecDepth 100000
namespace Mine
/-- ints one by one out of a paired list -/
theorem ints_of_paired {α : Type} {F : α → Value → Prop} {f : α → Int} : ∀ {vs : List α} {ys : List Value}, Paired F vs ys → (∀ v y, v ∈ vs → F v y → ∃ t, y = .int (f v) t) → IntsAre ys (vs.map f)
  | _, _, .nil, _ => .nil
  | _, _, .cons h r, k => by
    obtain ⟨t, e⟩ := k _ _ (List.mem_cons_self ..) h
    subst e
    exact .cons _ _ (ints_of_paired r fun v y hv hf => k v y (List.mem_cons_of_mem _ hv) hf)
section
variable {prog : Program} {w : World} {A : Around} {E : Value → Shared → Prop} {s : Shared}
/-- sum of a list of small ints -/
theorem sum_small {l : Addr} {vs : List Value} {ns : List Int} {Q : Value → Shared → Prop} (hh : A.handled = none) (hl : s.heap.IsList l vs.toArray) (hi : IntsAre vs ns) (hb : ∀ n ∈ ns, 0 ≤ n ∧ n ≤ 1000) (hn : ns.length ≤ 1000)
    (h : ∀ h' tk t', (∀ b o, s.heap.get? b = some o → h'.get? b = some o) → Q (.int ns.sum t') { s with heap := h', toks := tk }) :
    wpAny (model prog w) A (call (.builtin "sum") [.ref l]) Q E s := by
  obtain ⟨ol, hol, _⟩ := id hl
  have hne : l ≠ s.heap.objs.size := Nat.ne_of_lt (Heap.lt_size hol)
  refine call_sum_walk (wpAny_pyIter_list hl ?_)
  have hlen : vs.toArray.size = ns.length := by simp [hi.length]
  have bound : ∀ k : Nat, k ≤ ns.length → 0 ≤ (ns.take k).sum ∧ (ns.take k).sum ≤ 1000 * k := by
    intro k
    induction k with
    | zero => intro _; simp
    | succ k ih =>
      intro hk
      have hk' : k < ns.length := hk
      have e : ns[k]? = some ns[k] := List.getElem?_eq_getElem hk'
      have hm := hb ns[k] (List.getElem_mem hk')
      have i := ih (Nat.le_of_lt hk')
      rw [List.take_add_one, List.sum_append, e]
      simp only [Option.toList, List.sum_cons, List.sum_nil]
      omega
  refine ⟨s.heap.objs.size, _, _, _, _, _, fun j => ns.getD j 0, rfl, Walks.list (A := A.in1) hh s.heap.objs.size l hne vs.toArray, ⟨⟨_, Heap.get?_push_size _ rfl, rfl, rfl⟩, hl.at fun o e => Heap.get?_push_of_some _ e⟩, ?_, ?_, ?_, ?_⟩
  · intro a ha
    rcases List.mem_cons.mp ha with rfl | ha
    · exact Heap.lt_size (Heap.get?_push_size (o := { cls := .type "list_iterator", data := .fields #[.ref l, .int 0 0] }) _ rfl)
    · rw [List.mem_singleton.mp ha]
      exact Heap.lt_size (Heap.get?_push_of_some _ hol)
  · intro i v hv
    have hv' : vs[i]? = some v := by simpa using hv
    obtain ⟨n, t, rfl, hn'⟩ := IntsAre.at hi i v hv'
    exact ⟨t, by simp [List.getD_eq_getElem?_getD, hn']⟩
  · intro j hj
    rw [hlen] at hj
    have h1 : ns.getD j 0 = ns[j] := by simp [List.getD_eq_getElem?_getD, hj]
    have hm := hb ns[j] (List.getElem_mem hj)
    have h2 := KBmo.pre_take ns (j + 1) hj
    have h3 := bound (j + 1) hj
    unfold InLong
    rw [h2]
    dsimp only
    rw [h1]
    refine ⟨⟨?_, ?_⟩, ?_, ?_⟩ <;> omega
  · intro h' tk t' hk
    rw [hlen, KBmo.pre_take ns _ (Nat.le_refl _), List.take_length]
    refine h h' tk t' fun b o e => hk b o (fun hb' => ?_) (Heap.get?_push_of_some _ e)
    rw [List.mem_singleton.mp hb'] at e
    exact Nat.lt_irrefl _ (Heap.lt_size e)
end
end Mine

end
section
open PySem PySem.W PyProof.Rows PySem.Calls
namespace Mine
/-- an octet as a number with a sign, without it -/
def signF (o : Int) : Int := if o < 128 then o else 256 - o
def weightF (b : Array UInt8) : Int := ((KBw.bInts b).map signF).sum
def SgnOf (v y : Value) : Prop := ∀ n t, v = .int n t → ∃ t', y = .int (signF n) t'
def sgnV (v : Value) : Int := match v with | .int n _ => signF n | _ => 0
theorem map_sgn {b : Array UInt8} {vs : List Value} (hlen : vs.length = b.size) (hP : ∀ (j : Nat) (v : Value), vs[j]? = some v → ∃ c u, b[j]? = some c ∧ v = Value.int ((c : UInt8).toNat : Int) u) : vs.map sgnV = (KBw.bInts b).map signF := by
  refine List.ext_getElem? fun j => ?_
  rw [List.getElem?_map, List.getElem?_map]
  cases h : vs[j]? with
  | none =>
    have : (KBw.bInts b)[j]? = none := by
      rw [List.getElem?_eq_none_iff] at h ⊢
      rw [KBw.ints_length]; omega
    rw [this]; rfl
  | some v =>
    obtain ⟨c, u, hc, rfl⟩ := hP j v h
    rw [KBw.ints_get hc]
    rfl
theorem sign_bound {b : Array UInt8} : ∀ n ∈ (KBw.bInts b).map signF, 0 ≤ n ∧ n ≤ 1000 := by
  intro n hn
  obtain ⟨k, hk, rfl⟩ := List.mem_map.mp hn
  have := KBw.ints_in hk
  unfold signF
  split <;> omega
set_option maxRecDepth 100000 in
set_option maxHeartbeats 4000000 in
theorem weight_c (w : World) (news : List (Addr × Obj)) (b : Array UInt8) (tb : Tok) (hz : b.size < 1000) : Con w 83 [.bytes b tb] 1 news (fun v n => (∃ t, v = .int (weightF b) t) ∧ n = news) := by
  unfold Con
  k_fill
  intro p loose mean mg mb dp un gd cn cs aa ccd cl outer A₀ base h₀ L m s Q E B F X N T hk hd hu hret
  refine wpAny_call ?_
  k_dflt cell_enter
  k_steps
  (rename Heap => hp1); (rename Fr _ _ _ _ => F1); (rename News _ _ _ _ => N1)
  refine KBw.pyIter_bytes ?_
  refine ⟨fun _ => true, SgnOf, _, [_], [_], b.size, _, _, rfl, KBw.walks (by rfl) _ b tb, by rw [sizeLine_eq]; omega, ⟨_, Heap.get?_push_size _ rfl, rfl, rfl⟩, ?_, ⟨?_, ?_⟩, ?_⟩
  · intro a ha
    rw [List.mem_singleton.mp ha]
    exact Heap.lt_size (Heap.get?_push_size (o := { cls := .type "bytes_iterator", data := .fields #[.bytes b tb, .int 0 0] }) _ rfl)
  · intro C i v s₃ m₃ E' _ _ _ _ _
    exact wpAny_pure ⟨rfl, _, _, rfl, fun _ _ e => e⟩
  · rintro C i v s₃ m₃ E' ⟨c, u, hc, rfl⟩ - hn hm - -
    k_steps
    · intro n t e
      cases e
      exact ⟨_, by unfold signF; rw [if_pos (by assumption)]⟩
    · exact ⟨_, _, rfl, fun _ _ e => e⟩
    · intro n t e
      cases e
      exact ⟨_, by unfold signF; rw [if_neg (by assumption)]⟩
    · exact ⟨_, _, rfl, fun _ _ e => e⟩
  · intro D h2 tk2 ys vs hD hl hpl hlen hP hF hk2
    have hi : IntsAre ys.toList ((KBw.bInts b).map signF) := by
      have hvs : vs.filter (fun _ => true) = vs := by simp
      rw [hvs] at hF
      rw [← map_sgn hlen hP]
      refine ints_of_paired hF fun v y hv hy => ?_
      obtain ⟨j, hj⟩ := List.getElem?_of_mem hv
      obtain ⟨c, u, hc, rfl⟩ := hP j v hj
      exact hy _ _ rfl
    have keep : ∀ a o, hp1.get? a = some o → h2.get? a = some o := fun a o e => hk2 a o (fun hm => by
      rw [List.mem_singleton.mp hm] at e
      exact Nat.lt_irrefl _ (Heap.lt_size e)) (Heap.get?_push_of_some _ e)
    have F2 := F1.keeps keep
    have N2 := N1.grown keep
    clear F1 N1
    k_steps
    exact hret _ _ _ _ ⟨⟨_, rfl⟩, rfl⟩ (by assumption) (by assumption)
end Mine

end
section
open PySem PySem.W PyProof.Rows PySem.Calls
set_option maxRecDepth 100000
namespace Mine
open Sem (wp)
section
variable {prog : Program} {w : World} {A : Around} {s : Shared} {env : Env} {h₀ : Heap} {target : Expr} {body : List Stmt}

/-- a turn's end, the ledger as the turn leaves it -/
def InvEndG (h₀ : Heap) (L : Addr) (J : (PySem.Str → Option Value) → List (Addr × Obj) → Prop) (own : List (Addr × Obj)) (s₁ s₂ : Shared) : Prop :=
  ∃ h' tk m' nn nx, s₂ = { s₁ with heap := h', toks := tk } ∧ Fr h₀ L h' m' ∧ News h₀ L h' nn ∧ (∀ p ∈ nx, p ∈ nn) ∧ (∀ p ∈ own, p ∈ nn) ∧ OwnOff own (nx.map (·.1)) ∧ J m' nx
theorem InvEndG.intro {L : Addr} {J : (PySem.Str → Option Value) → List (Addr × Obj) → Prop} {own nn nx : List (Addr × Obj)} {s₁ : Shared} {h' : Heap} {tk : Nat} {m' : PySem.Str → Option Value}
    (F : Fr h₀ L h' m') (N : News h₀ L h' nn) (hn : ∀ p ∈ nx, p ∈ nn) (ho : ∀ p ∈ own, p ∈ nn) (off : OwnOff own (nx.map (·.1))) (j : J m' nx) : InvEndG h₀ L J own s₁ { s₁ with heap := h', toks := tk } :=
  ⟨h', tk, m', nn, nx, rfl, F, N, hn, ho, off, j⟩
def TurnPostG (h₀ : Heap) (L : Addr) (J : (PySem.Str → Option Value) → List (Addr × Obj) → Prop) (own : List (Addr × Obj)) (s₁ : Shared) (R : Flow → Shared → Prop) (f : Flow) (s₂ : Shared) : Prop :=
  match f with
  | .ret v => R (.ret v) s₂
  | .brk => R .next s₂
  | _ => InvEndG h₀ L J own s₁ s₂

/-- a loop on the spine, by an invariant over the names and the ledger, which may grow and change -/
theorem loopG {R : Flow → Shared → Prop} {I : Addr} {fp wr : List Addr} {n : Nat} {P Md : Nat → Value → Heap → Prop} {St : Nat → Heap → Prop} {m : PySem.Str → Option Value} {news : List (Addr × Obj)}
    (W : KTurns prog w A target I fp wr n P Md St) (hal : ∀ i h, St i h → ∀ b ∈ fp, ∃ o, h.get? b = some o) (hLf : env.locals ∉ fp) (hwr : ∀ b ∈ wr, h₀.get? b = none) (hfp : ∀ q ∈ news, q.1 ∉ fp) (hst : St 0 s.heap) (F : Fr h₀ env.locals s.heap m) (N : News h₀ env.locals s.heap news)
    (J : Nat → (PySem.Str → Option Value) → List (Addr × Obj) → Prop) (h0 : J 0 m news)
    (turn : ∀ i v m₁ news₁ h tk own, i < n → P i v h → OwnOff own (news₁.map (·.1)) → J i m₁ news₁ → Fr h₀ env.locals h m₁ → News h₀ env.locals h (news₁ ++ own) →
      wpAny (model prog w) A (assign target env v) (fun _ s₂ => wpR (model prog w) A (execs body env) (TurnPostG h₀ env.locals (J (i + 1)) own { s with heap := h, toks := tk } R) s₂) (fun _ _ => False) { s with heap := h, toks := tk })
    (done : ∀ m₁ news₁ h tk, J n m₁ news₁ → Fr h₀ env.locals h m₁ → News h₀ env.locals h news₁ → R .next { s with heap := h, toks := tk }) :
    codeR (model prog w) A (.forLoop target (.ref I) body [] env) R s := by
  have hLw : env.locals ∉ wr := fun h => hLf (W.sub _ h)
  have old : ∀ b o, h₀.get? b = some o → b ∉ wr := fun b o e hb => by rw [hwr b hb] at e; cases e
  refine codeR_for
    (fun k s' => ∃ h' tk m' news' i, s' = { s with heap := h', toks := tk } ∧ St i h' ∧ Fr h₀ env.locals h' m' ∧ News h₀ env.locals h' news' ∧ (∀ q ∈ news', q.1 ∉ fp) ∧ J i m' news' ∧ i ≤ n ∧ k = n + 1 - i) ?_ (n + 1)
    ⟨s.heap, s.toks, m, news, 0, rfl, hst, F, N, hfp, h0, Nat.zero_le _, rfl⟩
  rintro k s' ⟨h', tk, m', news', i, rfl, hst', F', N', offw, hJ, hi, rfl⟩
  have next : ∀ h₁ : Heap, (∀ b o, b ∉ wr → h'.get? b = some o → h₁.get? b = some o) → Fr h₀ env.locals h₁ m' ∧ News h₀ env.locals h₁ news' := fun h₁ hk₁ =>
    ⟨⟨F'.ns.at' fun o e => hk₁ _ o hLw e, fun b o e => hk₁ b o (old b o e) (F'.keep b o e), F'.above⟩, fun p hp => ⟨hk₁ _ _ (fun x => offw p hp (W.sub _ x)) (N' p hp).1, (N' p hp).2⟩⟩
  by_cases hlt : i < n
  · refine W.item i _ _ _ hlt hst' fun v h₁ tk₁ hMd hk₁ => ?_
    refine W.go i v _ _ _ hMd fun h₂ hP hst₂ hk₂ => ?_
    obtain ⟨F₂, N₂⟩ := next h₂ fun b o hb x => hk₂ b o hb (hk₁ b o hb x)
    have Nown : News h₀ env.locals h₂ (PyProof.Rows.ownOf h₀ fp h₂) := news_ownOf hLf
    have hoff : OwnOff (PyProof.Rows.ownOf h₀ fp h₂) (news'.map (·.1)) := by
      intro p hp b hb e
      obtain ⟨q, hq, rfl⟩ := List.mem_map.mp hb
      exact offw q hq (e ▸ ownOf_sub p hp)
    refine wpAny_mono (turn i v m' news' h₂ tk₁ (PyProof.Rows.ownOf h₀ fp h₂) hlt hP hoff hJ F₂ (News.append N₂ Nown)) (fun _ s₂ h₂' => wpR_mono h₂' fun f s₃ h₃ => ?_) fun _ _ e => e
    have fin : InvEndG h₀ env.locals (J (i + 1)) (PyProof.Rows.ownOf h₀ fp h₂) { s with heap := h₂, toks := tk₁ } s₃ →
        ∃ m, m < n + 1 - i ∧ ∃ h' tk m' news' j, s₃ = { s with heap := h', toks := tk } ∧ St j h' ∧ Fr h₀ env.locals h' m' ∧ News h₀ env.locals h' news' ∧ (∀ q ∈ news', q.1 ∉ fp) ∧ J j m' news' ∧ j ≤ n ∧ m = n + 1 - j := by
      rintro ⟨h₃', tk₃, m₂, nn, nx, rfl, F₃, N₃, hn, ho, hoo, hJ₃⟩
      refine ⟨n + 1 - (i + 1), by omega, h₃', tk₃, m₂, nx, i + 1, rfl, ?_, F₃, (fun p hp => N₃ p (hn p hp)), ?_, hJ₃, hlt, rfl⟩
      · refine W.frame _ _ _ hst₂ fun b hb o e => ?_
        cases hn' : h₀.get? b with
        | some o₀ =>
          have : o₀ = o := by have q := F₂.keep b o₀ hn'; rw [e] at q; exact (Option.some.inj q).symm
          exact this ▸ F₃.keep b o₀ hn'
        | none => exact (N₃ _ (ho _ (mem_ownOf hb hn' e))).1
      · intro q hq hqf
        obtain ⟨o, e⟩ := hal _ _ hst₂ _ hqf
        exact hoo _ (mem_ownOf hqf (N₃ q (hn q hq)).2.2 e) _ (List.mem_map.mpr ⟨q, hq, rfl⟩) rfl
    cases f with
    | ret v => exact h₃
    | brk => exact h₃
    | next => exact fin h₃
    | cont => exact fin h₃
  · have hin : i = n := by omega
    subst hin
    refine W.done _ _ _ hst' fun h₁ tk₁ hk₁ => ?_
    obtain ⟨F₁, N₁⟩ := next h₁ hk₁
    exact done m' news' h₁ tk₁ hJ F₁ N₁

/-- for x in range(n): ..  on the spine -/
theorem rangeR {R : Flow → Shared → Prop} {x : PySem.Str} {px : Pos} {n : Nat} {r : Addr} {t u v : Tok} {m₀ : PySem.Str → Option Value} {news : List (Addr × Obj)}
    (hh : A.handled = none) (hr : IsRange s.heap r 0 n 1 t u v) (hn : n ≤ 1000) (F : Fr h₀ env.locals s.heap m₀) (N : News h₀ env.locals s.heap news)
    (J : Nat → (PySem.Str → Option Value) → List (Addr × Obj) → Prop) (h0 : J 0 m₀ news)
    (turn : ∀ i t m₁ news₁ h tk own, i < n → OwnOff own (news₁.map (·.1)) → J i m₁ news₁ → Fr h₀ env.locals h m₁ → News h₀ env.locals h (news₁ ++ own) →
      wpAny (model prog w) A (assign (.Name x px) env (.int (i : Nat) t)) (fun _ s₂ => wpR (model prog w) A (execs body env) (TurnPostG h₀ env.locals (J (i + 1)) own { s with heap := h, toks := tk } R) s₂) (fun _ _ => False) { s with heap := h, toks := tk })
    (done : ∀ m₁ news₁ h tk, J n m₁ news₁ → Fr h₀ env.locals h m₁ → News h₀ env.locals h news₁ → R .next { s with heap := h, toks := tk }) :
    wpAny (model prog w) A (pyIter (.ref r)) (fun it s₂ => codeR (model prog w) A (.forLoop (.Name x px) it body [] env) R s₂) (fun _ _ => False) s := by
  have hsz : Builtin.Range.rangeSize 0 n 1 = (n : Int) := by unfold Builtin.Range.rangeSize; simp; omega
  have hsm : Builtin.Range.small 0 n 1 = true := small_one (by decide) (by decide) (by omega) (by omega)
  refine wpAny_pyIter_range hr hsm ?_
  rw [hsz]
  have hi := KTurns.ofWalks (target := .Name x px) (Walks.range (prog := prog) (w := w) hh s.heap.objs.size 0 1 n) (fun i v s Q E st q => by first | exact letGo_name q | exact wpAny_pure q | (unfold letOwnedTupleGo; exact wpAny_pure q))
  refine loopG hi ?_ ?_ ?_ ?_ ?_ (F.push _) (fun p hp => ⟨Heap.get?_push_of_some _ (N p hp).1, (N p hp).2⟩) J h0 ?_ done
  · intro i h hst b hb
    rw [List.mem_singleton.mp hb]
    exact ⟨_, hst⟩
  · intro hm
    exact Nat.ne_of_lt F.ns.lt (List.mem_singleton.mp hm)
  · intro b hb
    rw [List.mem_singleton.mp hb]
    cases e : h₀.get? s.heap.objs.size with
    | none => rfl
    | some o => exact absurd (Heap.lt_size (F.keep _ _ e)) (Nat.lt_irrefl _)
  · intro q hq hm
    exact Nat.ne_of_lt (Heap.lt_size (N q hq).1) (List.mem_singleton.mp hm)
  · have : IsRangeIter (s.heap.push { cls := .type "range_iterator", data := .fields #[rawInt 0, rawInt n, rawInt 1] }) s.heap.objs.size (0 + ((0 : Nat) : Int) * 1) ((n : Int) - ((0 : Nat) : Int)) 1 := by
      simp only [Int.natCast_zero, Int.zero_mul, Int.add_zero, Int.sub_zero]
      exact Heap.get?_push_size _ rfl
    exact this
  · rintro i v m₁ news₁ h tk own hi ⟨t', rfl⟩ hoff hJ F₁ N₁
    have := turn i t' m₁ news₁ h tk own hi hoff hJ F₁ N₁
    simpa using this

/-- for x in (..): ..  on the spine -/
theorem tupR {R : Flow → Shared → Prop} {x : PySem.Str} {px : Pos} {r : Addr} {items : Array Value} {m₀ : PySem.Str → Option Value} {news : List (Addr × Obj)}
    (hh : A.handled = none) (hr : s.heap.IsTuple r items) (hrn : ∀ q ∈ news, q.1 ≠ r) (hrL : env.locals ≠ r) (F : Fr h₀ env.locals s.heap m₀) (N : News h₀ env.locals s.heap news)
    (J : Nat → (PySem.Str → Option Value) → List (Addr × Obj) → Prop) (h0 : J 0 m₀ news)
    (turn : ∀ i v m₁ news₁ h tk own, i < items.size → items[i]? = some v → OwnOff own (news₁.map (·.1)) → J i m₁ news₁ → Fr h₀ env.locals h m₁ → News h₀ env.locals h (news₁ ++ own) →
      wpAny (model prog w) A (assign (.Name x px) env v) (fun _ s₂ => wpR (model prog w) A (execs body env) (TurnPostG h₀ env.locals (J (i + 1)) own { s with heap := h, toks := tk } R) s₂) (fun _ _ => False) { s with heap := h, toks := tk })
    (done : ∀ m₁ news₁ h tk, J items.size m₁ news₁ → Fr h₀ env.locals h m₁ → News h₀ env.locals h news₁ → R .next { s with heap := h, toks := tk }) :
    wpAny (model prog w) A (pyIter (.ref r)) (fun it s₂ => codeR (model prog w) A (.forLoop (.Name x px) it body [] env) R s₂) (fun _ _ => False) s := by
  have hrs : r ≠ s.heap.objs.size := by obtain ⟨o, e, _⟩ := hr; exact Nat.ne_of_lt (Heap.lt_size e)
  refine wpAny_pyIter_tuple hr ?_
  have hi := KTurns.ofWalks (target := .Name x px) (Walks.tuple (prog := prog) (w := w) hh s.heap.objs.size r hrs items) (fun i v s Q E st q => letGo_tupleiter st.1 q)
  refine loopG hi ?_ ?_ ?_ ?_ ?_ (F.push _) (fun p hp => ⟨Heap.get?_push_of_some _ (N p hp).1, (N p hp).2⟩) J h0 ?_ done
  · intro i h hst b hb
    rcases List.mem_cons.mp hb with rfl | hb
    · obtain ⟨⟨o, e, _⟩, _⟩ := hst; exact ⟨o, e⟩
    · rw [List.mem_singleton.mp hb]
      obtain ⟨_, ⟨o, e, _⟩⟩ := hst; exact ⟨o, e⟩
  · intro hm
    rcases List.mem_cons.mp hm with e | hm
    · exact Nat.ne_of_lt F.ns.lt e
    · exact hrL (List.mem_singleton.mp hm)
  · intro b hb
    rw [List.mem_singleton.mp hb]
    cases e : h₀.get? s.heap.objs.size with
    | none => rfl
    | some o => exact absurd (Heap.lt_size (F.keep _ _ e)) (Nat.lt_irrefl _)
  · intro q hq hm
    rcases List.mem_cons.mp hm with e | hm
    · exact Nat.ne_of_lt (Heap.lt_size (N q hq).1) e
    · exact hrn q hq (List.mem_singleton.mp hm)
  · exact ⟨⟨_, Heap.get?_push_size _ rfl, rfl, rfl⟩, hr.at fun o e => Heap.get?_push_of_some _ e⟩
  · rintro i v m₁ news₁ h tk own hi hv hoff hJ F₁ N₁
    exact turn i v m₁ news₁ h tk own hi hv hoff hJ F₁ N₁
end
end Mine

end
section
open PySem PySem.W PyProof.Rows PySem.Calls
set_option maxRecDepth 100000
namespace Mine
open Sem (wp)
section
variable {M : Model} {A : Around} {s : Shared} {env : Env}
theorem spliced_consR {x : Sem Value} {rest : List (Bool × Sem Value)} {Q : List Value → Shared → Prop}
    (h : wpR M A x (fun v s₁ => wpR M A (spliced rest) (fun vs s₂ => Q (v :: vs) s₂) s₁) s) : wpR M A (spliced ((false, x) :: rest)) Q s := by
  rw [spliced]
  refine wpR_bind (wpR_mono h fun v s₁ h₁ => ?_)
  simp only [Bool.false_eq_true, if_false]
  exact wpR_bind (wpR_pure (wpR_bind (wpR_holding (wpR_mono h₁ fun vs s₂ h₂ => wpR_pure h₂))))
theorem spliced_nilR {Q : List Value → Shared → Prop} (h : Q [] s) : wpR M A (spliced []) Q s := by
  rw [spliced]
  exact wpR_pure h
/-- (a, b), b on the spine -/
theorem wpR_Tuple2 {a b : Expr} {k : Nat} {pos : Pos} {Q : Value → Shared → Prop}
    (h : wpAny M A (eval a env) (fun v s₁ => wpR M A (eval b env) (fun u s₂ => wpAny M A (newTuple [v, u]) Q (fun _ _ => False) s₂) s₁) (fun _ _ => False) s)
    (he : starEach [a, b] env = [(false, eval a env), (false, eval b env)] := by rfl) : wpR M A (eval (.Tuple [a, b] k pos) env) Q s := by
  rw [arm_eval_Tuple, he]
  show wpR M A (do standAt pos; newTuple (← spliced [(false, eval a env), (false, eval b env)])) Q s
  refine wpR_bind (wpR_standAt (wpR_bind (spliced_consR (wpR_any (wpAny_mono h (fun v s₁ h₁ => ?_) fun _ _ x => x)))))
  exact spliced_consR (wpR_mono h₁ fun u s₂ h₂ => spliced_nilR (wpR_any h₂))
/-- a call of a built-in or a type, its one argument on the spine -/
theorem wpR_callWith1 {pos : Pos} {f : Value} {e : Expr} {Q : Value → Shared → Prop} {P : Heap → Prop}
    (hk : ∀ h, P h → ∃ k, (k = Keeper.frame ∨ k = Keeper.machine ∨ k = Keeper.boundFrame) ∧ Looks M h (keeperOf f) k)
    (h : wpR M A (eval e env) (fun v s₁ => P s₁.heap ∧ wpR M A (call f [v]) Q s₁) s)
    (he : starEach [e] env = [(false, eval e env)] := by rfl) :
    wpR M A (callWith pos f [] (backTo pos (starEach [e] env)) []) Q s := by
  rw [he]
  have ha : wpR M A (evalArgs f true [(false, eval e env)] []) (fun a s₁ => P s₁.heap ∧ wpR M A (call f ([] ++ a.pos) a.kw) Q s₁) s := by
    unfold evalArgs
    show wpR M A (spliced [(false, eval e env)] >>= _) _ s
    refine wpR_bind (spliced_consR (wpR_mono h fun v s₁ h₁ => spliced_nilR ?_))
    refine wpR_holding ?_
    exact wpR_bind (wpR_pure (wpR_bind (wpR_pure (wpR_pure h₁))))
  show wpR M A (callWith pos f [] [(false, eval e env)] []) Q s
  unfold callWith
  refine wpR_bind (wpR_holding (wpR_mono ha fun a s₁ h₁ => ?_))
  refine wpR_bind (wpR_standAt ?_)
  obtain ⟨k, hk', L⟩ := hk _ h₁.1
  have hp : (([(false, eval e env)] : List (Bool × Sem Value)).any (·.1) || ([] : List (Option PySem.Str × Sem Value)).any (·.1.isNone)) = false := rfl
  simp only [hp]
  refine wpR_bindA (L.here ?_)
  have tail : ∀ {t : Sem Value}, wpR M A t Q s₁ → wpR M A (t >>= fun r => holding [r] point >>= fun _ => pure r) Q s₁ :=
    fun ht => wpR_bind (wpR_mono ht fun r s₂ hr => wpR_bindA (wpAny_holding (wpAny_point (wpR_pure hr))))
  have marked (mk : Value) : wpR M A (callMarked mk f ([] ++ a.pos) a.kw) Q s₁ := by unfold callMarked; exact wpR_keep h₁.2
  rcases hk' with rfl | rfl | rfl <;> dsimp only <;> first | exact tail h₁.2 | (split <;> first | exact tail h₁.2 | exact tail (marked _))
/-- a comparison, both sides on the spine -/
theorem wpR_isTrue_CompareRR {l r : Expr} {op : CmpOp} {pos : Pos} {whole : Sem Value} {Q : Bool → Shared → Prop}
    (h : wpR M A (eval l env) (fun a s₁ => wpR M A (eval r env) (fun b s₂ => wpAny M A (compareOp op a b) (fun c s₃ => wpAny M A (truthy c) Q (fun _ _ => False) s₃) (fun _ _ => False) s₂) s₁) s)
    (hm : behindInMarks op r = false := by with_unfolding_all rfl) : wpR M A (isTrue (.Compare l [op] [r] pos) env whole) Q s := fun Γ p hΓ => by
  simp only [isTrue_Compare1, markedBehindIn_of_false hm, Sem.wp_bind', Sem.wp_holding, Sem.wp_cmd_standAt, Sem.wp_operate]
  exact Sem.wp_mono M Γ _ (fun a p₁ s₁ h₁ => Sem.wp_mono M Γ _ (fun b _ s₂ h₂ => Sem.wp_mono M Γ _ (fun c p₃ s₃ h₃ => h₃ Γ p₃ hΓ.1)
    (fun _ _ _ h' => h') _ _ (h₂ Γ _ hΓ.1)) (fun _ _ _ h' => h') _ _ (h₁ Γ p₁ hΓ)) (fun _ _ _ h' => h') _ _ (h Γ p hΓ)
/-- a or b, b on the spine -/
theorem wpR_isTrue_Or2 {a b : Expr} {pos : Pos} {whole : Sem Value} {Q : Bool → Shared → Prop}
    (h : wpAny M A (isTrue a env (eval a env)) (fun x s₁ => if x then Q true s₁ else wpR M A (isTrue b env (eval b env)) Q s₁) (fun _ _ => False) s) :
    wpR M A (isTrue (.BoolOp .Or [a, b] pos) env whole) Q s := by
  rw [arm_isTrue_BoolOp]
  show wpR M A (do match BoolOp.Or, ← isTrue a env (eval a env) with | .And, false => pure false | .Or, true => pure true | _, _ => allTrue .Or [b] env) Q s
  refine wpR_bindA (wpAny_mono h (fun x s₁ h₁ => ?_) fun _ _ e => e)
  cases x with
  | true => exact wpR_pure h₁
  | false =>
    rw [if_neg Bool.false_ne_true] at h₁
    show wpR M A (do match BoolOp.Or, ← isTrue b env (eval b env) with | .And, false => pure false | .Or, true => pure true | _, _ => allTrue .Or [] env) Q s₁
    refine wpR_bind (wpR_mono h₁ fun y s₂ h₂ => ?_)
    cases y <;> exact wpR_pure h₂
end

/-- as wpR, with what it raises -/
def wpX {α : Type} (M : Model) (A : Around) (t : Sem α) (Q : α → Shared → Prop) (E : Value → Shared → Prop) (s : Shared) : Prop :=
  ∀ Γ p, RIn Γ A → wp M Γ t (fun a _ s' => Q a s') (fun e _ s' => E e s') p s
def codeX (M : Model) (A : Around) (c : Code) (R : Result → Shared → Prop) (s : Shared) : Prop :=
  ∀ Γ p, Γ.code = c → RBelow Γ A → wpCode M Γ R p s
section
variable {α β : Type} {M : Model} {A : Around} {s : Shared} {E : Value → Shared → Prop}
theorem wpX_any {t : Sem α} {Q : α → Shared → Prop} (h : wpAny M A t Q E s) : wpX M A t Q E s := fun Γ p hΓ => h Γ p hΓ.1
theorem wpX_R {t : Sem α} {Q : α → Shared → Prop} (h : wpR M A t Q s) : wpX M A t Q E s := fun Γ p hΓ => Sem.wp_mono M Γ t (fun _ _ _ x => x) (fun _ _ _ x => x.elim) p s (h Γ p hΓ)
theorem wpX_mono {t : Sem α} {Q Q' : α → Shared → Prop} {E' : Value → Shared → Prop} (h : wpX M A t Q E s) (hQ : ∀ a s, Q a s → Q' a s) (hE : ∀ e s, E e s → E' e s) : wpX M A t Q' E' s :=
  fun Γ p hΓ => Sem.wp_mono M Γ t (fun a _ s => hQ a s) (fun e _ s => hE e s) p s (h Γ p hΓ)
/-- it never returns normally to what would raise: back to wpR -/
theorem wpR_X {t : Sem α} {Q : α → Shared → Prop} (h : wpX M A t Q (fun _ _ => False) s) : wpR M A t Q s := h
theorem wpX_pure {a : α} {Q : α → Shared → Prop} (h : Q a s) : wpX M A (pure a) Q E s := fun _ _ _ => h
theorem wpX_bind {m : Sem α} {f : α → Sem β} {Q : β → Shared → Prop} (h : wpX M A m (fun a s' => wpX M A (f a) Q E s') E s) : wpX M A (m >>= f) Q E s := fun Γ p hΓ => by
  rw [Sem.wp_bind']
  exact Sem.wp_mono M Γ m (fun a p' s' h' => h' Γ p' hΓ) (fun _ _ _ h' => h') p s (h Γ p hΓ)
theorem wpX_bindA {m : Sem α} {f : α → Sem β} {Q : β → Shared → Prop} (h : wpAny M A m (fun a s' => wpX M A (f a) Q E s') E s) : wpX M A (m >>= f) Q E s := wpX_bind (wpX_any h)
theorem wpX_holding {vs : List Value} {m : Sem α} {Q : α → Shared → Prop} (h : wpX M A m Q E s) : wpX M A (holding vs m) Q E s :=
  fun Γ p hΓ => by rw [Sem.wp_holding]; exact h Γ p hΓ
theorem wpX_keep {vs : List Value} {m : Sem α} {Q : α → Shared → Prop} (h : wpX M A m Q E s) : wpX M A (m.keep vs) Q E s :=
  fun Γ p hΓ => by rw [Sem.wp_keep]; exact h Γ p hΓ
theorem wpX_standAt {pos : Pos} {Q : Unit → Shared → Prop} (h : Q () s) : wpX M A (standAt pos) Q E s := fun _ _ _ => h
theorem wpX_onRaise {m : Sem α} {k : Value → Sem Unit} {Q : α → Shared → Prop} (h : wpX M A m Q (fun e s' => wpAny M A (k e) (fun _ s'' => E e s'') (fun e' s'' => E e' s'') s') s) : wpX M A (m.onRaise k) Q E s := fun Γ p hΓ => by
  rw [Sem.wp_onRaise]
  exact Sem.wp_mono M Γ m (fun _ _ _ h' => h') (fun e p' s' h' => h' Γ p' hΓ.1) p s (h Γ p hΓ)
theorem wpX_tryCatch {m : Sem α} {k : Value → Sem α} {Q : α → Shared → Prop} (h : wpX M A m Q (fun e s' => wpX M A (k e) Q E s') s) : wpX M A (m.tryCatch k) Q E s := fun Γ p hΓ => by
  rw [Sem.wp_tryCatch]
  exact Sem.wp_mono M Γ m (fun _ _ _ h' => h') (fun e p' s' h' => h' Γ p' hΓ) p s (h Γ p hΓ)
end
end Mine

end
section
open PySem PySem.W PyProof.Rows PySem.Calls
namespace Mine
theorem ConR.use {w : World} {f : Addr} {vs : List Value} {d : Nat} {news : List (Addr × Obj)} {R : Value → List (Addr × Obj) → Prop} (C : ConR w f vs d news R)
    {p : Program} {loose : List PySem.Str} {mean : ExcName → Option Value} {mg mb : PySem.Str → Option Value} {dp un : Nat} {cn : PySem.Str} {cs : Scope} {a : Addr} {ccd : Value} {cl : List (PySem.Str × Addr)} {outer : List Env} {A₀ : Around} {base h₀ : Heap} {L : Addr} {m : PySem.Str → Option Value} {s : Shared} {Q : Value → Shared → Prop}
    (B : Below A₀ base outer h₀) (F : Fr h₀ L s.heap m) (X : (MineH.hd.heap_39 w.params).In h₀) (N : News h₀ L s.heap news) (T : Top p loose mean mg mb h₀) (hk : cs.kind = .function)
    (hd : dp + d < recursionLimit) (hu : un + 8 * d < cLine)
    (ret : ∀ v h' tk' news', R v news' → Fr h₀ L h' m → News h₀ L h' news' → Q v { s with heap := h', toks := tk' }) :
    wpR (model PySem.Challenge.rw_nu0002_01.row.prog w) (ktrTop dp un (some []) cn cs L a ccd cl outer) (call (.ref f) vs) Q s :=
  C p loose mean mg mb dp un cn cs a ccd cl outer A₀ base h₀ L m s Q B F X N T hk hd hu ret
/-- of the kinds below n, the first that weighs least -/
def bestK (row above : Array UInt8) (st : Int) : Nat → Nat
  | 0 => 0
  | n + 1 => if weightF (filtArr ((n + 1 : Nat) : Int) row above st row.size) < weightF (filtArr ((bestK row above st n : Nat) : Int) row above st row.size) then n + 1 else bestK row above st n
theorem bestK_le {row above st} : ∀ {n}, bestK row above st n ≤ n
  | 0 => Nat.le_refl _
  | n + 1 => by
    have := @bestK_le row above st n
    unfold bestK
    split <;> omega
theorem lt4 {i : Nat} (h : i < 4) : i = 0 ∨ i = 1 ∨ i = 2 ∨ i = 3 := by omega
theorem allLt_mem {D : Addr} : ∀ {l : List (Addr × Obj)}, AllLt D l → ∀ {p}, p ∈ l → p.1 < D
  | [], _, _, h => nomatch h
  | _ :: _, x, p, h => by
    rcases List.mem_cons.mp h with rfl | h
    · exact x.1
    · exact allLt_mem x.2 h
theorem ne_of_allLt {D1 D : Addr} {o : Obj} {news : List (Addr × Obj)} {p : Addr × Obj} (h : D1 < D ∧ AllLt D news) (hp : p ∈ (D1, o) :: news) : p.1 ≠ D := by
  rcases List.mem_cons.mp hp with rfl | hp
  · exact Nat.ne_of_lt h.1
  · exact Nat.ne_of_lt (allLt_mem h.2 hp)
abbrev tupOf (its : Array Value) : Obj := { cls := .type "tuple", data := .seq its }
local macro_rules | `(tactic| walk_at "eval Call Name") => `(tactic| (k_here; (with_reducible show wpAny _ _ (eval (Expr.Call (Expr.Name (PySem.Str.ofString "weight") _) _ _ _) _) _ _ _); refine Call_ ?_))
local macro_rules | `(tactic| ktr_call $x:term 0) => `(tactic| (refine' Con.use $x ?k1 ?k2 ?k3 ?k4 ?k5 ?kK ?kd ?ku ?_; (case k1 => k_asm); (case k2 => k_asm); (case k3 => k_asm); (case k4 => k_asm); (case k5 => k_asm); (case kK => first | exact rfl | assumption); (case kd => ktr_room); (case ku => ktr_units); rintro v9 h9 tk9 n9 ⟨⟨t9, e9⟩, en9⟩ F9 N9; subst e9; subst en9; (try dsimp only); (try k_sweep); (try k_fold)))
local macro_rules | `(tactic| walk_at "call ref") => `(tactic| (k_here; (with_reducible show wpAny _ _ (call (Value.ref 83) _) _ _ _); k_dflt (ktr_call (weight_c _ _ _ _ (by rw [filtArr_size]; omega)) 0)))
local macro_rules | `(tactic| k_all) => `(tactic| assumption)
set_option pp.maxSteps 400
set_option maxRecDepth 100000 in
set_option maxHeartbeats 4000000 in
theorem best_filter_c (w : World) (news : List (Addr × Obj)) (st : Int) (row above : Array UInt8) (tr ta ts : Tok) (hs : 1 ≤ st) (hs2 : st < 1000) (hz : row.size = above.size) (hz6 : row.size < 1000) :
    ConR w 90 [.bytes row tr, .bytes above ta, .int st ts] 4 news (fun v n => ∃ T t1 t2, v = .ref T ∧ n = (T, tupOf #[.int (bestK row above st 4 : Nat) t1, .bytes (filtArr (bestK row above st 4 : Nat) row above st row.size) t2]) :: news ∧ ∀ p ∈ news, p.1 ≠ T) := by
  unfold ConR
  k_fill
  intro p loose mean mg mb dp un cn cs aa ccd cl outer A₀ base h₀ L m s Q B F X N T hk hd hu hret
  refine wpR_call ?_
  k_dflt (refine' codeR_K ?k1 ?k2 ?k3 ?k4 ?k5 ?kA ?kF ?kK ?k6 ?k7 ?k8 ?k9 ?kB ?_ ?c2 ?c3 ?c4 ?c5; (case kA => exact rfl); (case kF => exact rfl); (case kK => assumption); (case k1 => k_asm); (case k2 => k_asm); (case k3 => k_asm); (case k4 => k_asm); (case k5 => k_asm); (case k6 => k_is); (case k7 => k_is); (case k8 => ktr_room); (case k9 => exact BindsTo.of_eq rfl); (case c5 => decide); (case kB => exact locs rfl); (case c2 => exact rfl); (case c3 => exact rfl); (case c4 => exact rfl); k_whole)
  intro g' L' h' FG' F' N' B' X' T'
  replace F' : Fr g' L' h' (fun y => List.lookup y [(PySem.Str.ofString "step", .int st ts), (PySem.Str.ofString "above", .bytes above ta), (PySem.Str.ofString "row", .bytes row tr)]) := F'
  (try dsimp only); (try k_lift B')
  refine wpR_execs_cons (wpR_Assign (wpR_Tuple2 ?_))
  k_fold
  k_steps
  refine wpR_Call ?_
  k_fold
  k_steps
  refine wpR_callWith (keeps_K (K := MineH.hd.heap_39 w.params) (by k_is)) ?_
  k_fold
  k_steps
  refine ConR.use (filtered_c _ _ _ _ _ _ _ _ _ _ (by decide) (by decide) hs hs2 hz hz6) B' (by assumption) X' (by assumption) T' rfl (by ktr_room) (by ktr_units) ?_
  rintro v9 h9 tk9 n9 ⟨⟨t9, e9⟩, en9⟩ F9 N9
  subst e9
  obtain rfl := en9.symm
  k_steps
  rename_i D1 _ hlt1 _ F3 N3
  have hD1 : ∀ p ∈ news, p.1 ≠ D1 := fun p hp => Nat.ne_of_lt (hlt1 p hp)
  refine wpR_execs_cons (wpR_For ?_)
  k_steps
  (rename Fr _ _ _ _ => F4); (rename News _ _ _ _ => N4)
  rename_i T2 _ hlt2
  have hT2 := N4 _ (.head _)
  refine tupR (by rfl) (items := #[.int 1 237, .int 2 238, .int 3 239, .int 4 240]) ⟨_, hT2.1, rfl, _, rfl⟩ (fun p hp => ?_) hT2.2.1.symm F4 (news := (D1, tupOf #[.int 0 236, .bytes (filtArr 0 row above st row.size) t9]) :: news) (fun p hp => N4 p (.tail _ hp))
    (fun i mm nx => ∃ (T : Addr) (t1 t2 : Tok), (∃ u : PySem.Str → Option Value, mm = fun y => if ([PySem.Str.ofString "kind", PySem.Str.ofString "told"] : List PySem.Str).contains y then u y else if y = PySem.Str.ofString "best" then some (.ref T) else
      List.lookup y [(PySem.Str.ofString "step", .int st ts), (PySem.Str.ofString "above", .bytes above ta), (PySem.Str.ofString "row", .bytes row tr)]) ∧
      nx = (T, tupOf #[.int (bestK row above st i : Nat) t1, .bytes (filtArr (bestK row above st i : Nat) row above st row.size) t2]) :: news ∧ ∀ p ∈ news, p.1 ≠ T) ?_ ?_ ?_
  · exact ne_of_allLt hlt2 hp
  all_goals clear F4 N4 hT2 hlt2
  · exact ⟨D1, 236, t9, over_store fun y _ => rfl, rfl, hD1⟩
  · rintro i v m₁ news₁ h tk1 own hi hv hoff ⟨T, t1, t2, ⟨u, rfl⟩, rfl, hT⟩ F₁ N₁
    simp only [List.cons_append] at N₁
    replace hi : i < 4 := hi
    obtain ⟨t3, rfl⟩ : ∃ t, v = .int ((i + 1 : Nat) : Int) t := by
      rcases lt4 hi with rfl | rfl | rfl | rfl <;> exact ⟨_, (Option.some.inj hv).symm⟩
    have hno : ∀ p ∈ news ++ own, p.1 ≠ T := fun p hp => by
      rcases List.mem_append.mp hp with hp | hp
      · exact hT p hp
      · exact hoff p hp T (List.mem_cons_self ..)
    have hb := @bestK_le row above st i
    show wpAny _ _ _ _ _ _
    k_fold
    k_steps
    clear qk ek
    refine wpR_execs_cons (wpR_Assign (wpR_Call ?_))
    k_fold
    k_steps
    refine wpR_callWith (keeps_K (K := MineH.hd.heap_39 w.params) (by k_is)) ?_
    k_fold
    k_steps
    refine ConR.use (filtered_c _ _ _ _ _ _ _ _ _ _ (by omega) (by omega) hs hs2 hz hz6) B' (by assumption) X' (by assumption) T' rfl (by ktr_room) (by ktr_units) ?_
    rintro v9 h9 tk9 n9 ⟨⟨t9, e9⟩, en9⟩ F9 N9
    subst e9
    obtain rfl := en9
    k_steps
    refine wpR_execs_leaf ?_
    k_fold
    k_steps
    all_goals ((rename Fr _ _ _ _ => F5); (rename News _ _ _ _ => N5))
    · rename_i hw D2 _ hl2 _
      have e : bestK row above st (i + 1) = i + 1 := by
        rw [bestK, if_pos (by simpa using hw)]
      refine wpR_any (wpAny_execs_nil (InvEndG.intro F5 N5 (nx := (D2, tupOf #[.int ((i + 1 : Nat) : Int) t3, .bytes (filtArr ((i + 1 : Nat) : Int) row above st row.size) t9]) :: news) ?_ (fun p hp => .tail _ (.tail _ (List.mem_append_right _ hp))) ?_ ⟨D2, t3, t9, over_store ?_, by rw [e], fun p hp => Nat.ne_of_lt (allLt_mem hl2.2 (List.mem_append_left _ hp))⟩))
      · intro p hp
        rcases List.mem_cons.mp hp with rfl | hp
        · exact .head _
        · exact .tail _ (.tail _ (List.mem_append_left _ hp))
      · intro p hp b hb
        rcases List.mem_cons.mp hb with rfl | hb
        · exact Nat.ne_of_lt (allLt_mem hl2.2 (List.mem_append_right _ hp))
        · exact hoff p hp b (List.mem_cons_of_mem _ hb)
      · intro y hy
        simp only [List.contains_cons, List.contains_nil, Bool.or_false, Bool.or_eq_false_iff, beq_eq_false_iff_ne, ne_eq] at hy
        by_cases e2 : y = PySem.Str.ofString "best" <;> simp [hy, e2]
    · rename_i hw
      have e : bestK row above st (i + 1) = bestK row above st i := by
        rw [bestK, if_neg (by simpa using hw)]
      refine wpR_any (wpAny_execs_nil (InvEndG.intro F5 N5 (nx := (T, tupOf #[.int (bestK row above st i : Nat) t1, .bytes (filtArr (bestK row above st i : Nat) row above st row.size) t2]) :: news) ?_ (fun p hp => .tail _ (List.mem_append_right _ hp)) (fun p hp b hb => hoff p hp b (by simpa using hb)) ⟨T, t1, t2, over_store ?_, by rw [e], hT⟩))
      · intro p hp
        rcases List.mem_cons.mp hp with rfl | hp
        · exact .head _
        · exact .tail _ (List.mem_append_left _ hp)
      · intro y hy
        simp only [List.contains_cons, List.contains_nil, Bool.or_false, Bool.or_eq_false_iff, beq_eq_false_iff_ne, ne_eq] at hy
        simp [hy]
  · rintro m₁ news₁ h tk ⟨T, t1, t2, ⟨u, rfl⟩, rfl, hT⟩ F₁ N₁
    dsimp only
    refine wpR_execs_leaf ?_
    k_fold
    k_steps
    (rename Fr _ _ _ _ => F5); (rename News _ _ _ _ => N5)
    exact LeaveR.intro F5 N5 fun kF kN => ⟨_, rfl, hret _ _ _ _ ⟨T, t1, t2, rfl, rfl, hT⟩ kF kN⟩
end Mine

end
section
open PySem PySem.W PyProof.Rows PySem.Calls
namespace Mine
abbrev srcOf (a b : Int) (ta tb : Tok) (n : Nat) : Obj := listOf #[.int a ta, .int b tb] n
theorem mapSeq_set {its : Array Value} {n j : Nat} {v : Value} : Obj.mapSeq (·.setIfInBounds j v) (listOf its n) = listOf (its.setIfInBounds j v) n := by simp [Obj.mapSeq]
theorem setItem_own {prog : Program} {w : World} {A : Around} {E : Value → Shared → Prop} {s : Shared} {l : Addr} {items : Array Value} {nn : Nat} {k : Int} {t : Tok} {v : Value} {Q : Unit → Shared → Prop}
    (ho : s.heap.get? l = some (listOf items nn)) (h0 : 0 ≤ k) (hfit : k < 2 ^ 63) (hn : k < items.size)
    (hQ : ∀ h', h'.get? l = some (listOf (items.setIfInBounds k.toNat v) nn) → Heap.SameBut l s.heap h' → Q () { s with heap := h' }) :
    wpAny (model prog w) A (setItem (.ref l) (.int k t) v) Q E s := by
  have hl : s.heap.IsList l items := ⟨_, ho, rfl, nn, rfl⟩
  unfold setItem
  try with_reducible refine wpAny_holding ?_
  first | refine wpAny_bind (wpAny_pure ?_) | skip
  refine wpAny_bind (wpAny_sequenceKey hl.typeIs (by decide) ?_)
  refine wpAny_bind (wpAny_callSpecial?_slot (name := PySem.Str.ofString "__setitem__") hl.typeIs slot_list_setitem
    (wpAny_call_entry slot_list_setitem hl.typeIs entry_list_setitem ?_ (args_list_setitem _ _ _)))
  show wpAny _ _ (Builtin.List.listSubscript? (.int k t) >>= _) _ _ s
  refine wpAny_bind (wpAny_listSubscript_int (fitsIndex_of h0 hfit) ?_)
  clear hfit
  obtain ⟨j, rfl⟩ := Int.eq_ofNat_of_zero_le h0
  have hj : j < items.size := by omega
  have hx' : items[j]? = some items[j] := Array.getElem?_eq_getElem hj
  show wpAny _ _ ((seqItemAt l j >>= fun r => pure (r.map (j, ·))) >>= _) _ _ s
  refine wpAny_bind (wpAny_bind (wpAny_seqItemAt ho rfl (wpAny_pure ?_)))
  rw [hx']
  show wpAny _ _ (setSeqItemAt l j v >>= _) _ _ s
  have hfin : (s.heap.update l (Obj.mapSeq (·.setIfInBounds j v))).get? l = some (listOf (items.setIfInBounds j v) nn) := by
    rw [← mapSeq_set]
    exact Heap.get?_update_self _ ho rfl
  refine wpAny_bind (wpAny_setSeqItemAt ho rfl ?_)
  first
    | exact wpAny_bind (wpAny_pure (wpAny_pure ⟨.none, rfl, wpAny_pure (hQ _ hfin (Heap.SameBut.update ..))⟩))
    | exact wpAny_pure ⟨.none, rfl, wpAny_pure (hQ _ hfin (Heap.SameBut.update ..))⟩
theorem setItem_src {prog : Program} {w : World} {A : Around} {E : Value → Shared → Prop} {s : Shared} {h₀ : Heap} {L q : Addr} {m : PySem.Str → Option Value} {post : List (Addr × Obj)} {its : Array Value} {nn : Nat} {k : Int} {t : Tok} {v : Value} {Q : Unit → Shared → Prop}
    (F : Fr h₀ L s.heap m) (N : News h₀ L s.heap ((q, listOf its nn) :: post)) (hq : ∀ p ∈ post, p.1 ≠ q) (h0 : 0 ≤ k) (hfit : k < 2 ^ 63) (hn : k < its.size)
    (h : ∀ h', Fr h₀ L h' m → News h₀ L h' ((q, listOf (its.setIfInBounds k.toNat v) nn) :: post) → Q () { s with heap := h' }) :
    wpAny (model prog w) A (setItem (.ref q) (.int k t) v) Q E s := by
  have z := N (q, listOf its nn) (.head _)
  refine setItem_own z.1 h0 hfit hn fun h' ho hs => ?_
  exact h h' (F.change hs z.2.1 z.2.2) (news_set (pre := []) N (fun _ x => nomatch x) hq hs ho)
local macro_rules | `(tactic| walk_at "setItem ref int") => `(tactic| (k_here; k_dflt (refine' setItem_src ?F ?N ?q ?k0 ?k1 ?k2 ?_; (case F => k_asm); (case N => k_asm); (case q => assumption); (case k0 => decide); (case k1 => decide); (case k2 => (simp)); intro h9 F9 N9; (try dsimp only at N9))))
theorem fmod_in {x y : Int} (h : 1 ≤ y) : 0 ≤ x.fmod y ∧ x.fmod y < y := by
  rw [Int.fmod_eq_emod_of_nonneg x (by omega)]
  exact ⟨Int.emod_nonneg _ (by omega), Int.emod_lt_of_pos _ (by omega)⟩
set_option maxRecDepth 100000 in
set_option maxHeartbeats 4000000 in
theorem take_c (w : World) (q : Addr) (post : List (Addr × Obj)) (a b top : Int) (ta tb tt : Tok) (nn : Nat) (h0 : 0 ≤ a) (h1 : 0 ≤ b) (ht : 1 ≤ top) (ht2 : top ≤ 256) (hq : ∀ p ∈ post, p.1 ≠ q) :
    Con w 104 [.ref q, .int top tt] 2 ((q, srcOf a b ta tb nn) :: post) (fun v n => ∃ d t a' b' ta' tb', v = .int d t ∧ 0 ≤ d ∧ d < top ∧ 0 ≤ a' ∧ 0 ≤ b' ∧ n = (q, srcOf a' b' ta' tb' nn) :: post) := by
  unfold Con
  k_fill
  intro p loose mean mg mb dp un gd cn cs aa ccd cl outer A₀ base h₀ L m s Q E B F X N T hk hd hu hret
  refine wpAny_call ?_
  k_dflt cell_enter
  k_steps
  all_goals ((rename Fr _ _ _ _ => kF); (rename News _ _ _ _ => kN))
  · refine hret _ _ _ _ ⟨_, _, _, _, _, _, rfl, (fmod_in ht).1, (fmod_in ht).2, ?_, ?_, rfl⟩ kF kN
    · exact Int.fdiv_nonneg h0 (by omega)
    · exact h1
  · refine hret _ _ _ _ ⟨_, _, _, _, _, _, rfl, (fmod_in ht).1, (fmod_in ht).2, ?_, ?_, rfl⟩ kF kN
    · exact h0
    · exact (fmod_in (by decide)).1
end Mine

end
section
open PySem PySem.W PyProof.Rows PySem.Calls
namespace Mine
set_option maxRecDepth 100000 in
set_option maxHeartbeats 4000000 in
theorem pool_c (w : World) (q : Addr) (vs : List Value) (ns : List Int) (news : List (Addr × Obj)) (hi : IntsAre vs ns) :
    ∀ p loose mean mg mb dp un gd cn cs a ccd cl outer A₀ base h₀ L m s Q E,
    Below A₀ base outer h₀ → Fr h₀ L s.heap m → (MineH.hd.heap_39 w.params).In h₀ → News h₀ L s.heap news → Top p loose mean mg mb h₀ → cs.kind = .function →
    dp + 1 < recursionLimit → un + 8 * 1 < cLine → base.IsList q vs.toArray → PyData.layable0 (.list (ns.map .int)) = true →
    (∀ v h' tk' news', (∃ l a b ta tb nn, v = .ref l ∧ 0 ≤ a ∧ 0 ≤ b ∧ (∀ p ∈ news, p.1 ≠ l) ∧ news' = (l, listOf #[.int a ta, .int b tb] nn) :: news) → Fr h₀ L h' m → News h₀ L h' news' → Q v { s with heap := h', toks := tk' }) →
    wpAny (model PySem.Challenge.rw_nu0002_01.row.prog w) (ktrTop dp un gd cn cs L a ccd cl outer) (call (.ref 97) [.ref q]) Q E s := by
  k_fill
  intro p loose mean mg mb dp un gd cn cs aa ccd cl outer A₀ base h₀ L m s Q E B F X N T hk hd hu hl hz hret
  refine wpAny_call ?_
  k_dflt cell_enter
  k_steps
  all_goals (
    refine hret _ _ _ _ ⟨_, _, _, _, _, _, rfl, ?_, ?_, fun p hp => Nat.ne_of_lt (by apply_assumption; exact hp), rfl⟩ (by assumption) (by assumption)
    · refine Int.mul_nonneg ?_ ?_ <;> split <;> omega
    · exact (fmod_in (by decide)).1)
theorem pool_use {w : World} {q : Addr} {vs : List Value} {ns : List Int} {news : List (Addr × Obj)}
    {p : Program} {loose : List PySem.Str} {mean : ExcName → Option Value} {mg mb : PySem.Str → Option Value} {dp un : Nat} {gd : Option (List Code)} {cn : PySem.Str} {cs : Scope} {a : Addr} {ccd : Value} {cl : List (PySem.Str × Addr)} {outer : List Env} {A₀ : Around} {base h₀ : Heap} {L : Addr} {m : PySem.Str → Option Value} {s : Shared} {Q E : Value → Shared → Prop}
    (B : Below A₀ base outer h₀) (F : Fr h₀ L s.heap m) (X : (MineH.hd.heap_39 w.params).In h₀) (N : News h₀ L s.heap news) (T : Top p loose mean mg mb h₀) (hk : cs.kind = .function)
    (hd : dp + 1 < recursionLimit) (hu : un + 8 * 1 < cLine) (hi : IntsAre vs ns) (hl : base.IsList q vs.toArray) (hy : PyData.layable0 (.list (ns.map .int)) = true)
    (ret : ∀ v h' tk' news', (∃ l a b ta tb nn, v = .ref l ∧ 0 ≤ a ∧ 0 ≤ b ∧ (∀ p ∈ news, p.1 ≠ l) ∧ news' = (l, listOf #[.int a ta, .int b tb] nn) :: news) → Fr h₀ L h' m → News h₀ L h' news' → Q v { s with heap := h', toks := tk' }) :
    wpAny (model PySem.Challenge.rw_nu0002_01.row.prog w) (ktrTop dp un gd cn cs L a ccd cl outer) (call (.ref 97) [.ref q]) Q E s :=
  pool_c w q vs ns news hi p loose mean mg mb dp un gd cn cs a ccd cl outer A₀ base h₀ L m s Q E B F X N T hk hd hu hl hy ret
end Mine

end
section
open PySem PySem.W PyProof.Rows PySem.Calls
namespace Mine
local macro_rules | `(tactic| walk_at "eval Call Name") => `(tactic| (k_here; (with_reducible show wpAny _ _ (eval (Expr.Call (Expr.Name (PySem.Str.ofString "_law_take") _) _ _ _) _) _ _ _); refine Call_ ?_))
local macro_rules | `(tactic| walk_at "call ref") => `(tactic| (k_here; (with_reducible show wpAny _ _ (call (Value.ref 104) _) _ _ _); k_dflt (refine' Con.use (take_c _ _ _ _ _ _ _ _ _ _ ?a0 ?a1 ?a2 ?a3 ?a4) ?k1 ?k2 ?k3 ?k4 ?k5 ?kK ?kd ?ku ?_; (case k1 => k_asm); (case k2 => k_asm); (case k3 => k_asm); (case k4 => k_asm); (case k5 => k_asm); (case kK => first | exact rfl | assumption); (case kd => ktr_room); (case ku => ktr_units); (case a0 => assumption); (case a1 => assumption); (case a2 => omega); (case a3 => omega); (case a4 => assumption); rintro v9 h9 tk9 n9 ⟨d9, t9, a9, b9, ta9, tb9, e9, p9, q9, r9, s9, en9⟩ F9 N9; subst e9; subst en9; (try dsimp only); (try k_sweep); (try k_fold))))
set_option maxRecDepth 100000 in
set_option maxHeartbeats 4000000 in
theorem one_c (w : World) (q r : Addr) (vs : List Value) (ns : List Int) (n2 : Nat) (post : List (Addr × Obj)) (a b : Int) (ta tb : Tok) (nn : Nat) (h0 : 0 ≤ a) (h1 : 0 ≤ b) (hi : IntsAre vs ns) (ht : 1 ≤ ns.length) (ht2 : ns.length ≤ 256) (hq : ∀ p ∈ (r, listOf vs.toArray n2) :: post, p.1 ≠ q) :
    Con w 111 [.ref q, .ref r] 3 ((q, srcOf a b ta tb nn) :: (r, listOf vs.toArray n2) :: post) (fun v n => ∃ d t a' b' ta' tb', v = .int d t ∧ d ∈ ns ∧ 0 ≤ a' ∧ 0 ≤ b' ∧ n = (q, srcOf a' b' ta' tb' nn) :: (r, listOf vs.toArray n2) :: post) := by
  unfold Con
  k_fill
  intro p loose mean mg mb dp un gd cn cs aa ccd cl outer A₀ base h₀ L m s Q E B F X N T hk hd hu hret
  have hlen : vs.length = ns.length := hi.length
  refine wpAny_call ?_
  k_dflt cell_enter
  k_steps
  (rename Fr _ _ _ _ => kF); (rename News _ _ _ _ => kN)
  refine hret _ _ _ _ ⟨_, _, _, _, _, _, rfl, ?_, by assumption, by assumption, rfl⟩ kF kN
  rw [List.getD_eq_getElem?_getD, List.getElem?_eq_getElem (by omega)]
  exact List.getElem_mem _
end Mine

end
section
open PySem PySem.W PyProof.Rows PySem.Calls
namespace Mine
def Halt (P : Prop) : Prop := P
theorem halt {P : Prop} (h : Halt P) : P := h
section
open LCg LCt
variable {prog : Program} {w : World} {A : Around} {h₀ : Heap} {L : Addr} {m : PySem.Str → Option Value} {env : Env} {ct elt : Expr} {x : PySem.Str} {scope : Scope} {cl : List (PySem.Str × Addr)} {s : Shared} {S : List (Addr × Obj) → Prop} {P : Nat → Value → Prop} {Fin : List Value → List (Addr × Obj) → Prop}
/-- a filtered comprehension's turns by an invariant, the ledger as it stands -/
theorem restT_inv {news : List (Addr × Obj)} {n : Nat} (J : Nat → List Value → Prop) (j0 : J 0 [])
    (turn : ∀ i ys v I oI C oC D m₂ h tk (E' : Value → Shared → Prop), i < n → J i ys → P i v → NsObj oC m₂ → m₂ x = some v → Fr h₀ L h m → News h₀ L h ((I, oI) :: (C, oC) :: (D, lst ys) :: news) → Off3 I C D news → ((@Ne Nat I C) ∧ (@Ne Nat I D) ∧ (@Ne Nat C D)) →
      wpAny (model prog w) A (isTrue ct (compEnvC scope cl C env) (eval ct (compEnvC scope cl C env))) (fun ok s' => if ok = true then
        wpAny (model prog w) A (eval elt (compEnvC scope cl C env)) (CompEnd h₀ L m { s with heap := h, toks := tk } I oI C oC D (lst ys) S (fun y news' => news' = news ∧ J (i + 1) (ys ++ [y]))) E' s'
        else CompEnd h₀ L m { s with heap := h, toks := tk } I oI C oC D (lst ys) S (fun _ news' => news' = news ∧ J (i + 1) ys) Value.none s') E' { s with heap := h, toks := tk })
    (fin : ∀ ys, J n ys → Fin ys news) : CompRestT prog w A h₀ L m env ct elt x scope cl s S P Fin n 0 [] news := by
  suffices ∀ k i ys, i + k = n → J i ys → CompRestT prog w A h₀ L m env ct elt x scope cl s S P Fin k i ys news from this n 0 [] (Nat.zero_add n) j0
  intro k
  induction k with
  | zero => intro i ys e j; obtain rfl : i = n := e; exact CompRestT.zero (fin ys j)
  | succ k ih =>
    intro i ys e j
    refine CompRestT.succ ?_
    intro v I oI C oC D m₂ h tk E' hP h1 h2 F N off ne
    have mono : ∀ {y : Value} {s₂ : Shared} {R R' : Value → List (Addr × Obj) → Prop}, CompEnd h₀ L m { s with heap := h, toks := tk } I oI C oC D (lst ys) S R y s₂ → (∀ n', R y n' → R' y n') → CompEnd h₀ L m { s with heap := h, toks := tk } I oI C oC D (lst ys) S R' y s₂ :=
      fun ⟨h', tk', n', e1, a1, a2, a3, a4, r⟩ q => ⟨h', tk', n', e1, a1, a2, a3, a4, q _ r⟩
    refine wpAny_mono (turn i ys v I oI C oC D m₂ h tk E' (by omega) j hP h1 h2 F N off ne) (fun ok s' h' => ?_) fun _ _ e => e
    cases ok with
    | true =>
      refine wpAny_mono h' (fun y s₂ h₂ => mono h₂ fun n' ⟨e', j'⟩ => ?_) fun _ _ e => e
      subst e'
      exact ih (i + 1) (ys ++ [y]) (by omega) j'
    | false =>
      rw [if_neg Bool.false_ne_true] at h' ⊢
      refine mono h' fun n' ⟨e', j'⟩ => ?_
      subst e'
      exact ih (i + 1) ys (by omega) j'
end
local macro_rules | `(tactic| k_updF) => `(tactic| first | (refine' UpdF.head ?a; (case a => assumption)) | (refine' UpdF.tail ?a ?b; (case a => k_ne); (case b => k_updF)))
local macro_rules | `(tactic| walk_at "subscriptTail") => `(tactic| (k_here; (with_reducible show wpAny _ _ (subscriptTail _ _ (Value.ref _) (Value.int _ _)) _ _ _); k_dflt (refine' item_listL ?t ?a ?b ?d ?_; (case t => exact News.isList (by k_asm) (by k_mem)); (case a => decide); (case b => decide); (case d => rfl); k_whole)))
local macro_rules | `(tactic| walk_at "subscriptTail") => `(tactic| (k_here; (with_reducible show wpAny _ _ (subscriptTail _ _ (Value.ref _) (Value.int _ _)) _ _ _); k_dflt (refine' item_tupleT ?t ?a ?b ?c ?d ?_; (case t => exact News.isTup (by k_asm) (by k_mem)); (case a => decide); (case b => decide); (case c => rfl); (case d => rfl); k_whole)))
local macro_rules | `(tactic| walk_at "CompEnd") => `(tactic| ((rename News _ _ _ _ => N9); refine' LCg.CompEnd.intro ?F N9 _ (fun _ hp => hp) ?o ?s ?_; (case F => assumption); (case o => first | assumption | with_unfolding_all assumption); (case s => lcg_src)))
local macro_rules | `(tactic| walk_at "CompRestT") => `(tactic| with_reducible refine halt ?_)
theorem lt3 {i : Nat} (h : i < 3) : i = 0 ∨ i = 1 ∨ i = 2 := by omega
def rowX (l a c : Int) (j : Nat) : Int := if j = 0 then (if a - c < 0 then -(a - c) else a - c) else if j = 1 then (if l - c < 0 then -(l - c) else l - c) else (if l + a - 2 * c < 0 then -(l + a - 2 * c) else l + a - 2 * c)
def rowV (l a c : Int) (j : Nat) : Int := if j = 0 then l else if j = 1 then a else c
def FJ (l a c M : Int) (i : Nat) (ys : List Value) : Prop := (ys = [] ∧ ∀ j, j < i → rowX l a c j ≠ M) ∨ ∃ j t r, j < i ∧ rowX l a c j = M ∧ (∀ j', j' < j → rowX l a c j' ≠ M) ∧ ys = .int (rowV l a c j) t :: r
theorem FJ.hit {l a c M v : Int} {i : Nat} {ys : List Value} {t : Tok} (hJ : FJ l a c M i ys) (he : rowX l a c i = M) (hv : rowV l a c i = v) : FJ l a c M (i + 1) (ys ++ [.int v t]) := by
  rcases hJ with ⟨rfl, h⟩ | ⟨j, t', r, h1, h2, h3, rfl⟩
  · exact .inr ⟨i, t, [], Nat.lt_succ_self i, he, h, by rw [hv]; rfl⟩
  · exact .inr ⟨j, t', r ++ [.int v t], by omega, h2, h3, rfl⟩
theorem FJ.miss {l a c M : Int} {i : Nat} {ys : List Value} (hJ : FJ l a c M i ys) (he : rowX l a c i ≠ M) : FJ l a c M (i + 1) ys := by
  rcases hJ with ⟨rfl, h⟩ | ⟨j, t', r, h1, h2, h3, rfl⟩
  · refine .inl ⟨rfl, fun j hj => ?_⟩
    by_cases e : j = i
    · rw [e]; exact he
    · exact h j (by omega)
  · exact .inr ⟨j, t', r, by omega, h2, h3, rfl⟩
theorem first_near {l a c M : Int} {j : Nat} (hj : j < 3) (h1 : rowX l a c j = M) (h2 : ∀ j', j' < j → rowX l a c j' ≠ M)
    (hb : (M ≤ if a - c < 0 then -(a - c) else a - c) ∧ (M ≤ if l - c < 0 then -(l - c) else l - c) ∧ M ≤ if l + a - 2 * c < 0 then -(l + a - 2 * c) else l + a - 2 * c) : rowV l a c j = guessF 4 l a c := by
  have e1 : l + a - c - l = a - c := by omega
  have e2 : l + a - c - a = l - c := by omega
  have e3 : l + a - c - c = l + a - 2 * c := by omega
  have key : nearestF l a c = if absF (l - c) < absF (a - c) then (if absF (l + a - 2 * c) < absF (l - c) then c else a) else (if absF (l + a - 2 * c) < absF (a - c) then c else l) := by
    unfold nearestF
    rw [e1, e2, e3]
    by_cases q : absF (l - c) < absF (a - c)
    · simp only [if_pos q, e2]
    · simp only [if_neg q, e1]
  have X0 : rowX l a c 0 = absF (a - c) := rfl
  have X1 : rowX l a c 1 = absF (l - c) := rfl
  have X2 : rowX l a c 2 = absF (l + a - 2 * c) := rfl
  have hb : M ≤ absF (a - c) ∧ M ≤ absF (l - c) ∧ M ≤ absF (l + a - 2 * c) := hb
  obtain ⟨b0, b1, b2⟩ := hb
  rw [show guessF 4 l a c = nearestF l a c from rfl, key]
  generalize absF (a - c) = x at *
  generalize absF (l - c) = y at *
  generalize absF (l + a - 2 * c) = z at *
  clear key e1 e2 e3 hb
  rcases lt3 hj with rfl | rfl | rfl
  · rw [X0] at h1
    rw [if_neg (by omega), if_neg (by omega)]; rfl
  · have n0 := h2 0 (by decide)
    rw [X0] at n0; rw [X1] at h1
    rw [if_pos (by omega), if_neg (by omega)]; rfl
  · have n0 := h2 0 (by decide)
    have n1 := h2 1 (by decide)
    rw [X0] at n0; rw [X1] at n1; rw [X2] at h1
    by_cases q : y < x
    · rw [if_pos q, if_pos (by omega)]; rfl
    · rw [if_neg q, if_pos (by omega)]; rfl
set_option pp.maxSteps 400
set_option maxRecDepth 100000 in
set_option maxHeartbeats 1500000 in
theorem lguess4 (w : World) (news : List (Addr × Obj)) (l a c : Int) (tk tl ta tc : Tok) : Con w 116 [.int 4 tk, .int l tl, .int a ta, .int c tc] 2 news (fun v n => (∃ t, v = .int (guessF 4 l a c) t) ∧ n = news) := by
  unfold Con
  k_fill
  intro p loose mean mg mb dp un gd cn cs aa ccd cl outer A₀ base h₀ L m s Q E B F X N T hk hd hu hret
  refine wpAny_call ?_
  k_dflt (refine' code_defC ?k1 ?k2 ?k3 ?k4 ?k5 ?kA ?kF ?kK ?k6 ?k7 ?k8 ?k9 ?kB ?kD ?_ ?c2 ?c3 ?c4; (case kA => exact rfl); (case kF => exact rfl); (case kK => assumption); (case k1 => k_asm); (case k2 => k_asm); (case k3 => k_asm); (case k4 => k_asm); (case k5 => k_asm); (case k6 => k_is); (case k7 => k_is); (case k8 => ktr_room); (case k9 => exact BindsTo.of_eq rfl); (case kB => exact rfl); (case kD => decide +kernel); (case c2 => exact rfl); (case c3 => exact rfl); (case c4 => exact rfl); k_whole; intro g' L' h' tk' cells' FG' F' N' Y' B' X' T' l1; (try k_lt l1); k_cells Y'; (try simp only [List.cons_append, List.nil_append] at N'); (try dsimp only); (try k_lift B'); (try k_fold))
  have hn9 : ∀ p ∈ news, p.1 ≠ L' + 1 := fun p hp => Nat.ne_of_lt (Nat.lt_succ_of_lt (l1 p hp))
  k_steps
  unfold Halt
  rename_i M' tM _ ha hb _ oc F9 N9 hd9 _
  clear F9 N9
  refine restT_inv (FJ l a c M') (.inl ⟨rfl, fun j h => absurd h (Nat.not_lt_zero _)⟩) ?_ ?_
  · intro i ys v I oI C oC D m₂ h tk E' hi hJ hv hC hx Fh Nh off ne
    clear ha hb
    replace hi : i < 3 := hi
    have h3 := lt3 hi
    rcases h3 with rfl | rfl | rfl
    all_goals (
      lcg_open hv
      k_steps)
    · exact hJ.hit (by assumption) rfl
    · exact hJ.miss (by assumption)
    · exact hJ.hit (by assumption) rfl
    · exact hJ.miss (by assumption)
    · exact hJ.hit (by assumption) rfl
    · exact hJ.miss (by assumption)
  · intro ys hJ
    replace hJ : ∃ j t r, j < 3 ∧ rowX l a c j = M' ∧ (∀ j', j' < j → rowX l a c j' ≠ M') ∧ ys = .int (rowV l a c j) t :: r := by
      rcases hJ with ⟨_, h⟩ | h
      · exfalso
        rcases ha with e | e | e
        · exact h 0 (by decide) e.symm
        · exact h 1 (by decide) e.symm
        · exact h 2 (by decide) e.symm
      · exact h
    obtain ⟨j, tj, r, hj, h1, h2, rfl⟩ := hJ
    k_steps
    (rename Fr h₀ _ _ _ => kF); (rename News h₀ _ _ (_ :: _) => kN)
    refine hret _ _ _ _ ⟨⟨_, congrArg (Value.int · _) (first_near hj h1 h2 hb)⟩, rfl⟩ kF (fun p hp => kN p ?_)
    iterate 7 (refine List.Mem.tail _ ?_)
    exact hp
set_option maxRecDepth 100000 in
set_option maxHeartbeats 4000000 in
theorem lguess_c (w : World) (news : List (Addr × Obj)) (k l a c : Int) (tk tl ta tc : Tok) (h0 : 0 ≤ k) (h4 : k < 5) (_hl : 0 ≤ l) (_ha : 0 ≤ a) : Con w 116 [.int k tk, .int l tl, .int a ta, .int c tc] 2 news (fun v n => (∃ t, v = .int (guessF k l a c) t) ∧ n = news) := by
  have hk5 : k = 4 ∨ k = 0 ∨ k = 1 ∨ k = 2 ∨ k = 3 := by omega
  rcases hk5 with rfl | hk5
  · exact lguess4 w news l a c tk tl ta tc
  unfold Con
  k_fill
  intro p loose mean mg mb dp un gd cn cs aa ccd cl outer A₀ base h₀ L m s Q E B F X N T hk hd hu hret
  rcases hk5 with rfl | rfl | rfl | rfl
  all_goals (
    refine wpAny_call ?_
    k_dflt (refine' code_defC ?k1 ?k2 ?k3 ?k4 ?k5 ?kA ?kF ?kK ?k6 ?k7 ?k8 ?k9 ?kB ?kD ?_ ?c2 ?c3 ?c4; (case kA => exact rfl); (case kF => exact rfl); (case kK => assumption); (case k1 => k_asm); (case k2 => k_asm); (case k3 => k_asm); (case k4 => k_asm); (case k5 => k_asm); (case k6 => k_is); (case k7 => k_is); (case k8 => ktr_room); (case k9 => exact BindsTo.of_eq rfl); (case kB => exact rfl); (case kD => decide +kernel); (case c2 => exact rfl); (case c3 => exact rfl); (case c4 => exact rfl); k_whole; intro g' L' h' tk' cells' FG' F' N' Y' B' X' T' l1; (try k_lt l1); k_cells Y'; (try simp only [List.cons_append, List.nil_append] at N'); (try dsimp only); (try k_lift B'); (try k_fold))
    k_steps)
  all_goals (rename Fr _ _ _ _ => kF; rename News _ _ _ _ => kN)
  · exact hret _ _ _ _ ⟨⟨_, rfl⟩, rfl⟩ kF (fun p hp => kN p (.tail _ (.tail _ hp)))
  · exact hret _ _ _ _ ⟨⟨_, rfl⟩, rfl⟩ kF (fun p hp => kN p (.tail _ (.tail _ hp)))
  · exact hret _ _ _ _ ⟨⟨_, rfl⟩, rfl⟩ kF (fun p hp => kN p (.tail _ (.tail _ hp)))
  · refine hret _ _ _ _ ⟨⟨_, congrArg (Value.int · _) ?_⟩, rfl⟩ kF (fun p hp => kN p (.tail _ hp))
    show (l + a - (l + a).fmod 2).fdiv 2 = Int.fdiv (l + a) 2
    generalize l + a = z
    rw [Int.fmod_eq_emod_of_nonneg _ (by decide), Int.fdiv_eq_ediv_of_nonneg _ (by decide), Int.fdiv_eq_ediv_of_nonneg _ (by decide)]
    omega
end Mine

end
section
open PySem PySem.W PyProof.Rows PySem.Calls
namespace Mine
section
variable {M : Model} {A : Around} {E : Value → Shared → Prop} {s : Shared} {h₀ : Heap} {L : Addr} {m : PySem.Str → Option Value} {env : Env} {x : PySem.Str} {v : Value} {pos : Pos} {Q : Value → Shared → Prop}
  {p : Program} {loose : List PySem.Str} {mean : ExcName → Option Value} {mg mb : PySem.Str → Option Value} {K : Frag}
/-- a built-in's name, read in any frame of a function -/
theorem name_built (F : Fr h₀ L s.heap m) (X : K.In h₀) (T : Top p loose mean mg mb h₀) (e : nsIn K mainGlobals x = some none) (hv : bootBuiltins x = some v) (hn : x ≠ "__name__") (h : Q v s)
    (hg : env.globals = mainGlobals) (hb : env.builtins = builtinsNs) (hk : env.scope.kind = .function) (hx : env.kindOf x = some .globalImplicit) (hd : (x == ("__debug__" : PySem.Str)) = false) : wpAny M A (eval (.Name x pos) env) Q E s := by
  have T' := T.keeps F.keep
  refine Name_function_global hk hx (loadGlobal_builtin (mg := mg) (mb := mb) ?_ (mg_none_of X T.g e) ?_ ((T.builtins x hn).trans hv) h) hd
  · rw [hg]; exact T'.g
  · rw [hb]; exact T'.b
theorem name_glob (F : Fr h₀ L s.heap m) (X : K.In h₀) (T : Top p loose mean mg mb h₀) (e : nsIn K mainGlobals x = some (some v)) (h : Q v s)
    (hg : env.globals = mainGlobals) (hk : env.scope.kind = .function) (hx : env.kindOf x = some .globalImplicit) (hd : (x == ("__debug__" : PySem.Str)) = false) : wpAny M A (eval (.Name x pos) env) Q E s := by
  have T' := T.keeps F.keep
  refine Name_function_global hk hx (loadGlobal_global (mg := mg) ?_ (mg_of X T.g e) h) hd
  rw [hg]; exact T'.g
end
end Mine

end
section
open PySem PySem.W PyProof.Rows PySem.Calls
namespace Mine
/-- what _law_told tells: the same octets, as a list of ints -/
def toldList (k : Int) (row above : Array UInt8) (st : Int) (n : Nat) : List Int := (List.range n).map fun j => filtOct k row above st j
theorem toldList_succ {k row above st n} : toldList k row above st (n + 1) = toldList k row above st n ++ [filtOct k row above st n] := by
  simp [toldList, List.range_succ]
local macro_rules | `(tactic| walk_at "eval Call Name") => `(tactic| (k_here; (with_reducible show wpAny _ _ (eval (Expr.Call (Expr.Name (PySem.Str.ofString "_law_guess") _) _ _ _) _) _ _ _); refine Call_ ?_))
local macro_rules | `(tactic| walk_at "subscriptTail") => `(tactic| (k_here; (with_reducible show wpAny _ _ (subscriptTail _ _ (Value.bytes _ _) (Value.int _ _)) _ _ _); k_dflt (refine' sub_bytes ?z ?k0 ?k1 ?_ ?hs; (case hs => with_unfolding_all rfl); (case z => omega); (case k0 => omega); (case k1 => omega); k_whole)))
local macro_rules | `(tactic| ktr_call $x:term 0) => `(tactic| (refine' Con.use $x ?k1 ?k2 ?k3 ?k4 ?k5 ?kK ?kd ?ku ?_; (case k1 => k_asm); (case k2 => k_asm); (case k3 => k_asm); (case k4 => k_asm); (case k5 => k_asm); (case kK => first | exact rfl | assumption); (case kd => ktr_room); (case ku => ktr_units); rintro v9 h9 tk9 n9 ⟨⟨t9, e9⟩, en9⟩ F9 N9; subst e9; subst en9; (try dsimp only); (try k_sweep); (try k_fold)))
local macro_rules | `(tactic| walk_at "call ref") => `(tactic| (k_here; (with_reducible show wpAny _ _ (call (Value.ref 116) _) _ _ _); k_dflt (ktr_call (lguess_c _ _ _ _ _ _ _ _ _ _ (by assumption) (by assumption) (by first | decide | exact (nb_in (by omega)).1) (by first | decide | exact (nb_in (by omega)).1)) 0)))
local macro_rules | `(tactic| k_all) => `(tactic| assumption)
set_option pp.maxSteps 400
set_option maxRecDepth 100000 in
set_option maxHeartbeats 4000000 in
theorem told_c (w : World) (news : List (Addr × Obj)) (k st : Int) (row above : Array UInt8) (tk tr ta ts : Tok) (h0 : 0 ≤ k) (h4 : k < 5) (hs : 1 ≤ st) (hs2 : st < 1000) (hz : row.size = above.size) (hz6 : row.size < 1000) :
    ConR w 123 [.int k tk, .bytes row tr, .bytes above ta, .int st ts] 3 news (fun v n => ∃ l us nn, v = .ref l ∧ n = (l, listOf us.toArray nn) :: news ∧ IntsAre us (toldList k row above st row.size) ∧ ∀ p ∈ news, p.1 ≠ l) := by
  unfold ConR
  k_fill
  intro p loose mean mg mb dp un cn cs aa ccd cl outer A₀ base h₀ L m s Q B F X N T hk hd hu hret
  refine wpR_call ?_
  k_dflt (refine' codeR_K ?k1 ?k2 ?k3 ?k4 ?k5 ?kA ?kF ?kK ?k6 ?k7 ?k8 ?k9 ?kB ?_ ?c2 ?c3 ?c4 ?c5; (case kA => exact rfl); (case kF => exact rfl); (case kK => assumption); (case k1 => k_asm); (case k2 => k_asm); (case k3 => k_asm); (case k4 => k_asm); (case k5 => k_asm); (case k6 => k_is); (case k7 => k_is); (case k8 => ktr_room); (case k9 => exact BindsTo.of_eq rfl); (case c5 => decide); (case kB => exact locs rfl); (case c2 => exact rfl); (case c3 => exact rfl); (case c4 => exact rfl); k_whole)
  intro g' L' h' FG' F' N' B' X' T'
  replace F' : Fr g' L' h' (fun y => List.lookup y [(PySem.Str.ofString "step", .int st ts), (PySem.Str.ofString "above", .bytes above ta), (PySem.Str.ofString "row", .bytes row tr), (PySem.Str.ofString "kind", .int k tk)]) := F'
  (try dsimp only); (try k_lift B')
  refine wpR_execs_leaf ?_
  k_fold
  k_steps
  rename_i l' _ hlt _ F3 N3
  clear qk ek
  refine wpR_execs_cons (wpR_For ?_)
  k_steps
  (rename IsRange _ _ _ _ _ _ _ _ => hr); (rename Fr _ _ _ _ => F4); (rename News _ _ _ _ => N4)
  have hl' : ∀ p ∈ news, p.1 ≠ l' := fun p hp => Nat.ne_of_lt (hlt p hp)

  refine rangeR (n := row.size) (by rfl) hr (by omega) F4 N4 (fun i mm nx => (∃ u : PySem.Str → Option Value, mm = fun y => if ([PySem.Str.ofString "at", PySem.Str.ofString "left", PySem.Str.ofString "corner"] : List PySem.Str).contains y then u y else if y = PySem.Str.ofString "found" then some (.ref l') else
      List.lookup y [(PySem.Str.ofString "step", .int st ts), (PySem.Str.ofString "above", .bytes above ta), (PySem.Str.ofString "row", .bytes row tr), (PySem.Str.ofString "kind", .int k tk)]) ∧ ∃ us nn, nx = (l', listOf us.toArray nn) :: news ∧ IntsAre us (toldList k row above st i)) ?_ ?_ ?_
  all_goals clear F4 N4
  · exact ⟨over_store fun y _ => rfl, [], 0, rfl, .nil⟩
  · rintro i t m₁ news₁ h tk1 own hi hoff ⟨⟨u, rfl⟩, us, nn, rfl, hus⟩ F₁ N₁
    simp only [List.cons_append] at N₁
    have hul : us.toArray.size ≤ 1000 := by
      have := hus.length
      simp [toldList] at this
      simp; omega
    have hno : ∀ p ∈ news ++ own, p.1 ≠ l' := fun p hp => by
      rcases List.mem_append.mp hp with hp | hp
      · exact hl' p hp
      · exact hoff p hp l' (List.mem_cons_self ..)
    show wpAny _ _ _ _ _ _
    k_fold
    k_steps
    clear qk ek
    refine wpR_execs_leaf ?_
    k_fold
    k_steps
    all_goals (
      clear qk ek
      refine wpR_execs_leaf ?_
      k_fold
      k_steps)
    all_goals (
      (rename Fr _ _ _ _ => F5); (rename News _ _ _ _ => N5)
      rename_i tk9 _ _
      have hfm : ∀ x g : Int, (x + 256 - g).fmod 256 = (x - g) % 256 := fun x g => by
        rw [Int.fmod_eq_emod_of_nonneg _ (by decide)]
        omega
      rw [hfm, List.push_toArray] at N5)
    · refine wpR_any (wpAny_execs_nil (InvEndG.intro F5 N5 (nx := (l', listOf (us ++ [Value.int ((nb row i - guessF k (nb row (i - st)) (nb above i) (nb above (i - st))) % 256) (tk9 + 1 + 1)]).toArray (nn + 1)) :: news) ?g1 (fun p hp => .tail _ (.tail _ (List.mem_append_right _ hp))) (fun p hp b hb => hoff p hp b (by simpa using hb)) ⟨over_store ?g2, us ++ [Value.int ((nb row i - guessF k (nb row (i - st)) (nb above i) (nb above (i - st))) % 256) (tk9 + 1 + 1)], nn + 1, rfl, ?g3⟩))
      case g1 =>
        intro p hp
        rcases List.mem_cons.mp hp with rfl | hp
        · exact .tail _ (.head _)
        · exact .tail _ (.tail _ (List.mem_append_left _ hp))
      case g2 =>
        intro y hy
        simp only [List.contains_cons, List.contains_nil, Bool.or_false, Bool.or_eq_false_iff, beq_eq_false_iff_ne, ne_eq] at hy
        simp [hy]
      case g3 =>
        rw [toldList_succ]
        exact IntsAre.append hus (.cons _ _ .nil)
    · refine wpR_any (wpAny_execs_nil (InvEndG.intro F5 N5 (nx := (l', listOf (us ++ [Value.int ((nb row i - guessF k 0 (nb above i) 0) % 256) (tk9 + 1 + 1)]).toArray (nn + 1)) :: news) ?g1 (fun p hp => .tail _ (.tail _ (List.mem_append_right _ hp))) (fun p hp b hb => hoff p hp b (by simpa using hb)) ⟨over_store ?g2, us ++ [Value.int ((nb row i - guessF k 0 (nb above i) 0) % 256) (tk9 + 1 + 1)], nn + 1, rfl, ?g3⟩))
      case g1 =>
        intro p hp
        rcases List.mem_cons.mp hp with rfl | hp
        · exact .tail _ (.head _)
        · exact .tail _ (.tail _ (List.mem_append_left _ hp))
      case g2 =>
        intro y hy
        simp only [List.contains_cons, List.contains_nil, Bool.or_false, Bool.or_eq_false_iff, beq_eq_false_iff_ne, ne_eq] at hy
        simp [hy]
      case g3 =>
        rw [toldList_succ]
        have hl : ∀ b : Array UInt8, nb b (i - st) = 0 := fun b => by unfold nb; rw [if_neg (by omega)]
        have e : filtOct k row above st i = (nb row i - guessF k 0 (nb above i) 0) % 256 := by unfold filtOct gAt; rw [hl, hl]
        rw [e]
        exact IntsAre.append hus (.cons _ _ .nil)
  · rintro m₁ news₁ h tk ⟨⟨u, rfl⟩, us, nn, rfl, hus⟩ F₁ N₁
    dsimp only
    refine wpR_execs_leaf ?_
    k_fold
    k_steps
    (rename Fr _ _ _ _ => F5); (rename News _ _ _ _ => N5)
    exact LeaveR.intro F5 N5 fun kF kN => ⟨_, rfl, hret _ _ _ _ ⟨_, _, _, rfl, rfl, hus, hl'⟩ kF kN⟩
end Mine

end
section
open PySem PySem.W PyProof.Rows PySem.Calls
namespace Mine
def MinOf (v y : Value) : Prop := ∀ n t, v = .int n t → ∃ t', y = .int (min n (256 - n)) t'
def minV (v : Value) : Int := match v with | .int n _ => min n (256 - n) | _ => 0
theorem map_minV {vs : List Value} {ns : List Int} (h : IntsAre vs ns) : vs.map minV = ns.map fun o => min o (256 - o) := by
  induction h with
  | nil => rfl
  | cons _ _ _ ih => simp [minV, ih]
set_option pp.maxSteps 400
set_option maxRecDepth 100000 in
set_option maxHeartbeats 4000000 in
theorem lweight_c (w : World) (l : Addr) (vs : List Value) (ns : List Int) (nn : Nat) (post : List (Addr × Obj)) (hi : IntsAre vs ns) (hz : ns.length < 1000) (hb : ∀ n ∈ ns, 0 ≤ n ∧ n < 256) : Con w 128 [.ref l] 1 ((l, listOf vs.toArray nn) :: post) (fun v n => (∃ t, v = .int ((ns.map fun o => min o (256 - o)).sum) t) ∧ n = (l, listOf vs.toArray nn) :: post) := by
  unfold Con
  k_fill
  intro p loose mean mg mb dp un gd cn cs aa ccd cl outer A₀ base h₀ L m s Q E B F X N T hk hd hu hret
  have hi' : True → IntsAre vs ns := fun _ => hi
  clear hi
  refine wpAny_call ?_
  k_dflt cell_enter
  k_steps
  (rename Heap => hp1); (rename Frag.In _ _ => X9); (rename Top _ _ _ _ _ _ => T9); (rename Fr _ _ _ _ => F1); (rename News _ _ _ _ => N1)
  have hi := hi' trivial
  have hol : hp1.get? l = some (listOf vs.toArray nn) := (N1 _ (.head _)).1
  have hne : l ≠ hp1.objs.size := Nat.ne_of_lt (Heap.lt_size hol)
  refine wpAny_pyIter_list ⟨_, hol, rfl, nn, rfl⟩ ?_
  refine ⟨fun _ => true, MinOf, _, _, _, _, _, _, rfl, Walks.list (by rfl) hp1.objs.size l hne vs.toArray, by rw [sizeLine_eq]; have := hi.length; simp; omega, ⟨⟨_, Heap.get?_push_size _ rfl, rfl, rfl⟩, ⟨_, Heap.get?_push_of_some _ hol, rfl, nn, rfl⟩⟩, ?_, ⟨?_, ?_⟩, ?_⟩
  · intro a ha
    rcases List.mem_cons.mp ha with rfl | ha
    · exact Heap.lt_size (Heap.get?_push_size (o := { cls := .type "list_iterator", data := .fields #[.ref l, .int 0 0] }) _ rfl)
    · rw [List.mem_singleton.mp ha]
      exact Heap.lt_size (Heap.get?_push_of_some _ hol)
  · intro C i v s₃ m₃ E' _ _ _ _ _
    exact wpAny_pure ⟨rfl, _, _, rfl, fun _ _ e => e⟩
  · intro C i v s₃ m₃ E' hP h1 hn hm h2 h3
    have hk3 : ∀ a o, hp1.get? a = some o → s₃.heap.get? a = some o := fun a o e => h2 a o (fun hm => by
      rw [List.mem_singleton.mp hm] at e
      exact Nat.lt_irrefl _ (Heap.lt_size e)) (Heap.get?_push_of_some _ e)
    have F3 := F1.keeps hk3
    have hv' : vs[i]? = some v := by simpa using hP
    obtain ⟨n, t, rfl, hn'⟩ := IntsAre.at hi i v hv'
    have hb' := hb n (List.mem_of_getElem? hn')
    refine Call_ ?_
    refine' name_built F3 X9 T9 ?y1 ?y2 ?y3 ?_ ?y4 ?y5 ?y6 ?y7 ?y8; (case y4 => rfl); (case y5 => rfl); (case y6 => rfl); (case y7 => rfl); (case y8 => decide); (case y1 => k_is); (case y2 => boot_by_name); (case y3 => decide)
    clear F1 N1 h2 h3 hk3
    k_steps
    refine min_two_ints (by with_unfolding_all rfl) fun h7 tk7 hk7 => ?_
    dsimp only
    refine ⟨?_, ⟨_, _, rfl, hk7⟩⟩
    split
    · intro n' t' e
      cases e
      exact ⟨_, congrArg (Value.int · _) (by show _ = min n (256 - n); omega)⟩
    · intro n' t' e
      cases e
      exact ⟨_, congrArg (Value.int · _) (by show _ = min n (256 - n); omega)⟩
  · intro D h2 tk2 ys vs' hD hl' hpl hlen hP hF hk2
    have hvs : vs'.filter (fun _ => true) = vs' := by simp
    rw [hvs] at hF
    have evs : vs' = vs := by
      refine List.ext_getElem? fun j => ?_
      cases h : vs'[j]? with
      | some v => have := hP j v h; simp at this; exact this.symm
      | none => rw [List.getElem?_eq_none_iff] at h; simp at hlen; exact (List.getElem?_eq_none_iff.mpr (by omega)).symm
    subst evs
    have hi2 : IntsAre ys.toList (ns.map fun o => min o (256 - o)) := by
      rw [← map_minV hi]
      refine ints_of_paired hF fun v y hv hy => ?_
      obtain ⟨j, hj⟩ := List.getElem?_of_mem hv
      obtain ⟨n, t, rfl, _⟩ := IntsAre.at hi j v hj
      exact hy _ _ rfl
    have sgn : ∀ n ∈ (ns.map fun o => min o (256 - o)), 0 ≤ n ∧ n ≤ 1000 := by
      intro n hn
      obtain ⟨k, hk, rfl⟩ := List.mem_map.mp hn
      have := hb k hk
      simp only [Int.min_def]
      split <;> omega
    have keep : ∀ a o, hp1.get? a = some o → h2.get? a = some o := fun a o e => hk2 a o (fun hm => by
      rw [List.mem_singleton.mp hm] at e
      exact Nat.lt_irrefl _ (Heap.lt_size e)) (Heap.get?_push_of_some _ e)
    have F2 := F1.keeps keep
    have N2 := N1.grown keep
    clear F1 N1 hi hk2 hP
    k_steps
    exact hret _ _ _ _ ⟨⟨_, rfl⟩, rfl⟩ (by assumption) (by assumption)
end Mine

end
section
open PySem PySem.W PyProof.Rows PySem.Calls
namespace Mine
theorem News.pull3 {h₀ h : Heap} {L : Addr} {a b c d : Addr × Obj} {r : List (Addr × Obj)} (N : News h₀ L h (a :: b :: c :: d :: r)) : News h₀ L h (d :: a :: b :: c :: r) := fun p hp => N p (by
  rcases List.mem_cons.mp hp with rfl | hp
  · exact .tail _ (.tail _ (.tail _ (.head _)))
  rcases List.mem_cons.mp hp with rfl | hp
  · exact .head _
  rcases List.mem_cons.mp hp with rfl | hp
  · exact .tail _ (.head _)
  rcases List.mem_cons.mp hp with rfl | hp
  · exact .tail _ (.tail _ (.head _))
  · exact .tail _ (.tail _ (.tail _ (.tail _ hp))))
section
open LCg
variable {prog : Program} {w : World} {A : Around} {h₀ : Heap} {L : Addr} {m : PySem.Str → Option Value} {env : Env} {elt : Expr} {x : PySem.Str} {scope : Scope} {cl : List (PySem.Str × Addr)} {s : Shared} {S : List (Addr × Obj) → Prop} {P : Nat → Value → Prop} {Fin : List Value → List (Addr × Obj) → Prop}
/-- a comprehension's turns by an invariant over what is gathered and the ledger -/
theorem restC_inv {news : List (Addr × Obj)} {n : Nat} (J : Nat → List Value → List (Addr × Obj) → Prop) (j0 : J 0 [] news)
    (turn : ∀ i ys nw v I oI C oC D m₂ h tk (E' : Value → Shared → Prop), i < n → J i ys nw → P i v → NsObj oC m₂ → m₂ x = some v → Fr h₀ L h m → News h₀ L h ((I, oI) :: (C, oC) :: (D, lst ys) :: nw) → Off3 I C D nw → ((@Ne Nat I C) ∧ (@Ne Nat I D) ∧ (@Ne Nat C D)) →
      wpAny (model prog w) A (eval elt (compEnvC scope cl C env)) (CompEnd h₀ L m { s with heap := h, toks := tk } I oI C oC D (lst ys) S (fun y nw' => J (i + 1) (ys ++ [y]) nw')) E' { s with heap := h, toks := tk })
    (fin : ∀ ys nw, J n ys nw → Fin ys nw) : CompRest prog w A h₀ L m env elt x scope cl s S P Fin n 0 [] news := by
  suffices ∀ k i ys nw, i + k = n → J i ys nw → CompRest prog w A h₀ L m env elt x scope cl s S P Fin k i ys nw from this n 0 [] news (Nat.zero_add n) j0
  intro k
  induction k with
  | zero => intro i ys nw e j; obtain rfl : i = n := e; exact CompRest.zero (fin ys nw j)
  | succ k ih =>
    intro i ys nw e j
    refine CompRest.succ ?_
    intro v I oI C oC D m₂ h tk E' hP h1 h2 F N off ne
    refine wpAny_mono (turn i ys nw v I oI C oC D m₂ h tk E' (by omega) j hP h1 h2 F N off ne) (fun y s₂ h₂ => ?_) fun _ _ e => e
    obtain ⟨h', tk', n', e1, a1, a2, a3, a4, r⟩ := h₂
    exact ⟨h', tk', n', e1, a1, a2, a3, a4, ih (i + 1) (ys ++ [y]) n' (by omega) r⟩
end
end Mine

end
section
open PySem PySem.W PyProof.Rows PySem.Calls
namespace Mine
theorem filtOct_in {k : Int} {row above : Array UInt8} {st : Int} {i : Nat} : 0 ≤ filtOct k row above st i ∧ filtOct k row above st i < 256 := by
  unfold filtOct; omega
theorem oct_back {x : Int} (h0 : 0 ≤ x) (h1 : x < 256) : ((x.toNat.toUInt8).toNat : Int) = x := by
  have : x.toNat < 256 := by omega
  have e : (x.toNat.toUInt8).toNat = x.toNat := by
    simp [Nat.toUInt8, UInt8.toNat_ofNat']
    omega
  rw [e]; omega
theorem bInts_filt {k : Int} {row above : Array UInt8} {st : Int} {n : Nat} : KBw.bInts (filtArr k row above st n) = toldList k row above st n := by
  unfold KBw.bInts filtArr toldList
  simp only [List.map_map, Function.comp_def]
  refine List.map_congr_left fun j _ => ?_
  exact oct_back filtOct_in.1 filtOct_in.2
theorem byteArr_told {k : Int} {row above : Array UInt8} {st : Int} {n : Nat} : byteArr (toldList k row above st n) = filtArr k row above st n := by
  unfold byteArr filtArr toldList
  simp [List.map_map, Function.comp_def]
theorem told_in {k : Int} {row above : Array UInt8} {st : Int} {n : Nat} : ∀ o ∈ toldList k row above st n, 0 ≤ o ∧ o < 256 := by
  intro o ho
  obtain ⟨j, _, rfl⟩ := List.mem_map.mp ho
  exact filtOct_in
theorem told_len {k : Int} {row above : Array UInt8} {st : Int} {n : Nat} : (toldList k row above st n).length = n := by simp [toldList]
theorem weight_told {k : Int} {row above : Array UInt8} {st : Int} {n : Nat} : ((toldList k row above st n).map fun o => min o (256 - o)).sum = weightF (filtArr k row above st n) := by
  unfold weightF
  rw [bInts_filt]
  congr 1
  refine List.map_congr_left fun o _ => ?_
  unfold signF
  rw [Int.min_def]
  split <;> split <;> omega
theorem unf_filt {k : Int} {row above : Array UInt8} {st : Int} (hs : 1 ≤ st) : ∀ n, n ≤ row.size → unfArr k (filtArr k row above st row.size) above st n = (row.toList.take n).toArray
  | 0, _ => by simp [unfArr]
  | n + 1, h => by
    have ih := unf_filt (k := k) (row := row) (above := above) hs n (by omega)
    have hn : n < row.size := by omega
    rw [unfArr, ih]
    have hget : row.toList[n]? = some row[n] := by simp [hn]
    rw [List.take_add_one, hget]
    simp only [Option.toList]
    have e1 : nb (filtArr k row above st row.size) n = filtOct k row above st n := by
      unfold nb
      rw [if_pos (by omega)]
      have : (filtArr k row above st row.size).getD (n : Int).toNat 0 = (filtOct k row above st n).toNat.toUInt8 := by
        simp [filtArr, Array.getD_eq_getD_getElem?, hn]
      rw [this]
      exact oct_back filtOct_in.1 filtOct_in.2
    have e2 : nb (row.toList.take n).toArray (n - st) = nb row (n - st) := by
      unfold nb
      split
      · rename_i h0
        have hlt : ((n : Int) - st).toNat < n := by omega
        simp [Array.getD_eq_getD_getElem?, List.getElem?_take, hlt]
      · rfl
    have e3 : nb row n = (row[n].toNat : Int) := by
      unfold nb
      rw [if_pos (by omega)]
      simp [Array.getD_eq_getD_getElem?, hn]
    have e4 : ((nb (filtArr k row above st row.size) n + guessF k (nb (row.toList.take n).toArray (n - st)) (nb above n) (nb above (n - st))) % 256).toNat.toUInt8 = row[n] := by
      rw [e1, e2]
      have hr := row[n].toNat_lt
      have : (filtOct k row above st n + guessF k (nb row (n - st)) (nb above n) (nb above (n - st))) % 256 = (row[n].toNat : Int) := by
        unfold filtOct gAt
        rw [e3]
        omega
      rw [this]
      simp
    rw [e4]
    simp
theorem unf_filt_all {k : Int} {row above : Array UInt8} {st : Int} (hs : 1 ≤ st) : unfArr k (filtArr k row above st row.size) above st (filtArr k row above st row.size).size = row := by
  rw [filtArr_size, unf_filt hs row.size (Nat.le_refl _)]
  rw [List.take_of_length_le (by simp)]
end Mine

end
section
open PySem PySem.W PyProof.Rows PySem.Calls
set_option maxRecDepth 100000
namespace Mine
open Sem (wp)
theorem bytes_len_lookup : typeLookup (.type "bytes") "__len__" = pure (some (.builtin "bytes.__len__")) := by rw [typeLookup_type, builtinLookup_eq_fast]; kernel_rfl
def OctAt (b : Array UInt8) (i : Nat) (v : Value) : Prop := ∃ c u, b[i]? = some c ∧ v = Value.int ((c : UInt8).toNat : Int) u
section
variable {prog : Program} {w : World} {A : Around} {E : Value → Shared → Prop} {s : Shared} {b : Array UInt8} {t : Tok}
theorem extend_bytes {R : Result → Shared → Prop} (hh : A.handled = none) (S : Addr) (res : Value) (c₀ : Nat) (hS : s.heap.get? S = some { cls := .type "list", data := .seq #[] c₀ })
    (hR : ∀ h' tk acc' c', (∀ a o, a ≠ S → s.heap.get? a = some o → h'.get? a = some o) → h'.get? S = some { cls := .type "list", dict := none, data := .seq acc' c', slots := #[] } →
      ItemsOf (OctAt b) acc' b.size → R (.ok (.ret res)) { s with heap := h', toks := tk }) (hn : b.size ≤ sizeLine) :
    wpAny (model prog w) A.in1 (Builtin.List.listExtendWith (.ref S) (.bytes b t) res)
      (fun fin s' => match fin with | .done f => R (.ok f) s' | .again c' => c'.quiet = true ∧ codeAny (model prog w) A c' R s') (fun e s' => R (.error e) s') s := by
  have hSI : S ≠ s.heap.objs.size := Nat.ne_of_lt (Heap.lt_size hS)
  have hSf : S ∉ [s.heap.objs.size] := fun hm => hSI (List.mem_singleton.mp hm)
  unfold Builtin.List.listExtendWith
  refine wpAny_bind (wpAny_typeOf (T := "bytes") (v := .bytes b t) rfl ?_)
  have h1 : Builtin.List.listSameRef (.ref S) (.bytes b t) = false := rfl
  have h2 : (Value.type "bytes" == Value.type "list") = false := by decide
  have h3 : (Value.type "bytes" == Value.type "tuple") = false := by decide
  simp only [h1, h2, h3, Bool.or_false, Bool.false_eq_true, if_false]
  refine wpAny_bind (KBw.pyIter_bytes ?_)
  refine wpAny_bind (wpAny_holding ?_)
  unfold Builtin.List.listLengthHint
  refine wpAny_bind (wpAny_specialOf (T := "bytes") (v := .bytes b t) rfl bytes_len_lookup ?_)
  wp_delta
  refine wpAny_bind (wpAny_isInstance (T := "bytes") (v := .bytes b t) (b := true) rfl (by rw [isSubtype_type]; kernel_rfl) ?_)
  show wpAny _ _ (typeOf (Value.bytes b t) >>= _) _ _ _
  refine wpAny_bind (wpAny_typeOf (T := "bytes") (v := .bytes b t) rfl ?_)
  refine wpAny_pure ?_
  rw [if_neg (by decide)]
  refine wpAny_pure ⟨plainId_quiet F.plain_extend_loop _, codeAny_extend_loopS (KBw.walks (prog := prog) (w := w) (A := A.in1) hh s.heap.objs.size b t).toS hn _ hSf _ b.size 0 _ _ _ rfl (Nat.zero_le _) ⟨_, Heap.get?_push_size _ rfl, rfl, rfl⟩ (Heap.get?_push_of_some _ hS) (ItemsOf.nil _) fun s' acc' c' hm hS' hacc => ?_⟩
  rw [Moved.eq_with hm]
  refine hR s'.heap s'.toks acc' c' (fun b ob hb e => hm.heap b ob (fun hmem => ?_) (Heap.get?_push_of_some _ e)) hS' hacc
  rcases List.mem_cons.mp hmem with e' | hmem
  · exact hb e'
  · exact absurd (Heap.lt_size e) (by rw [List.mem_singleton.mp hmem]; exact Nat.lt_irrefl _)
theorem list_init_bytes {R : Result → Shared → Prop} (hh : A.handled = none) (S : Addr) (hS : s.heap.get? S = some { cls := .type "list", data := .seq #[] })
    (hR : ∀ h' tk acc' c', (∀ a o, a ≠ S → s.heap.get? a = some o → h'.get? a = some o) → h'.get? S = some { cls := .type "list", dict := none, data := .seq acc' c', slots := #[] } →
      ItemsOf (OctAt b) acc' b.size → R (.ok (.ret .none)) { s with heap := h', toks := tk }) (hn : b.size ≤ sizeLine) :
    wpAny (model prog w) A.in1 (Builtin.«list.__init__» ⟨[.ref S, .bytes b t], []⟩)
      (fun fin s' => match fin with | .done f => R (.ok f) s' | .again c' => c'.quiet = true ∧ codeAny (model prog w) A c' R s') (fun e s' => R (.error e) s') s := by
  show wpAny _ _ (do let old ← Builtin.List.listItems (.ref S); Builtin.List.listUpdate (.ref S) (fun _ => #[]); letGo old.toList.reverse; Builtin.List.listExtendWith (.ref S) (.bytes b t) .none) _ _ s
  refine wpAny_bind ?_
  unfold Builtin.List.listItems
  refine wpAny_bind (wpAny_seqItems hS rfl (wpAny_pure ?_))
  show wpAny _ _ (updateSeq S (fun _ => #[]) >>= fun _ => letGo (#[] : Array Value).toList.reverse >>= fun _ => Builtin.List.listExtendWith (.ref S) (.bytes b t) .none) _ _ s
  refine wpAny_bind (wpAny_updateSeq hS rfl ?_)
  have hS₂ := Heap.get?_update_self (Obj.mapSeq (fun _ => (#[] : Array Value))) hS rfl
  have oth : ∀ b o, b ≠ S → s.heap.get? b = some o → (s.heap.update S (Obj.mapSeq (fun _ => (#[] : Array Value)))).get? b = some o :=
    fun b o hb e => (Heap.get?_update_other _ _ (Ne.symm hb)).trans e
  refine wpAny_bind (wpAny_letGo ?_)
  refine extend_bytes (hn := hn) hh S .none _ hS₂ fun h' tk acc' c' hk hS' hacc => ?_
  exact hR h' tk acc' c' (fun b o hb e => hk b o hb (oth b o hb e)) hS' hacc
/-- list(row) of octets -/
theorem list_of_bytes {Q : Value → Shared → Prop} (hh : A.handled = none)
    (hQ : ∀ h' tk acc' c', (∀ a o, s.heap.get? a = some o → h'.get? a = some o) →
      h'.get? s.heap.objs.size = some (listOf acc' c') → ItemsOf (OctAt b) acc' b.size → Q (.ref s.heap.objs.size) { s with heap := h', toks := tk }) (hn : b.size ≤ sizeLine) :
    wpAny (model prog w) A (call (.type "list") [.bytes b t]) Q E s := by
  refine callType_codes (Q₁ := fun obj s₁ => obj = .ref s.heap.objs.size ∧ s₁ = { s with heap := s.heap.push { cls := .type "list", data := .seq #[] } }) F.called_list (F.typeCall_list_1 _) F.entry_list_init
    (code_list_new _ ⟨rfl, rfl⟩) fun obj s₁ h₁ => ?_
  obtain ⟨rfl, rfl⟩ := h₁
  have hS : (s.heap.push { cls := .type "list", data := .seq #[] }).get? s.heap.objs.size = some { cls := .type "list", data := .seq #[] } := Heap.get?_push_size _ rfl
  refine ⟨⟨_, hS, rfl⟩, F.args_list_init_2 _ _, list_init_bytes (A := A.in1) (hn := hn) hh _ hS fun h' tk acc' c' hk hS' hacc => ?_⟩
  exact ⟨rfl, hQ h' tk acc' c' (fun b o e => hk b o (Nat.ne_of_lt (Heap.lt_size e)) (Heap.get?_push_of_some _ e)) hS' hacc⟩
theorem ints_by_get : ∀ {vs : List Value} {ns : List Int}, vs.length = ns.length → (∀ (j : Nat) (v : Value), vs[j]? = some v → ∃ n u, ns[j]? = some n ∧ v = Value.int n u) → IntsAre vs ns
  | [], [], _, _ => .nil
  | [], _ :: _, h, _ => by simp at h
  | _ :: _, [], h, _ => by simp at h
  | v :: vs, n :: ns, h, k => by
    obtain ⟨n', u, e, hv⟩ := k 0 v rfl
    obtain rfl : n = n' := Option.some.inj e
    subst hv
    exact .cons _ _ (ints_by_get (by simpa using h) fun j v hj => k (j + 1) v (by simpa using hj))
theorem octs_ints {acc : Array Value} {n : Nat} (h : ItemsOf (OctAt b) acc n) (hn : n = b.size) : IntsAre acc.toList (KBw.bInts b) := by
  refine ints_by_get (by rw [KBw.ints_length, ← hn, ← h.1]; simp) fun j v hj => ?_
  obtain ⟨c, u, hc, rfl⟩ := h.2 j v (by simpa using hj)
  exact ⟨_, u, KBw.ints_get hc, rfl⟩
/-- the same over the ledger -/
theorem list_of_bytes_K {h₀ : Heap} {L : Addr} {m : PySem.Str → Option Value} {news : List (Addr × Obj)} {Q : Value → Shared → Prop} (hh : A.handled = none) (Fx : Fr h₀ L s.heap m) (N : News h₀ L s.heap news) (hn : b.size ≤ sizeLine)
    (hQ : ∀ l h' tk us c, Fr h₀ L h' m → News h₀ L h' ((l, listOf us.toArray c) :: news) → (∀ p ∈ news, p.1 < l) → IntsAre us (KBw.bInts b) → Q (.ref l) { s with heap := h', toks := tk }) :
    wpAny (model prog w) A (call (.type "list") [.bytes b t]) Q E s := by
  refine list_of_bytes hh (fun h' tk acc c hk hl hi => ?_) hn
  refine hQ _ h' tk acc.toList c (Fx.keeps hk) (fun p hp => ?_) (fun p hp => Heap.lt_size (N p hp).1) (octs_ints hi rfl)
  rcases List.mem_cons.mp hp with rfl | hp
  · refine ⟨by simpa using hl, Nat.ne_of_gt Fx.ns.lt, ?_⟩
    cases e : h₀.get? s.heap.objs.size with
    | none => rfl
    | some o => exact absurd (Heap.lt_size (Fx.keep _ _ e)) (Nat.lt_irrefl _)
  · exact (N.grown hk) p hp
end
end Mine

end
section
open PySem PySem.W PyProof.Rows PySem.Calls
namespace Mine
def wt (row above : Array UInt8) (st : Int) (j : Nat) : Int := weightF (filtArr (j : Int) row above st row.size)
theorem bestK_spec {row above : Array UInt8} {st : Int} : ∀ n, (∀ j, j ≤ n → wt row above st (bestK row above st n) ≤ wt row above st j) ∧ (∀ j, j < bestK row above st n → wt row above st (bestK row above st n) < wt row above st j)
  | 0 => ⟨fun j h => by obtain rfl : j = 0 := by omega
                        exact Int.le_refl _, fun j h => absurd h (Nat.not_lt_zero _)⟩
  | n + 1 => by
    obtain ⟨h1, h2⟩ := bestK_spec (row := row) (above := above) (st := st) n
    by_cases c : wt row above st (n + 1) < wt row above st (bestK row above st n)
    · have e : bestK row above st (n + 1) = n + 1 := by
        rw [bestK]
        exact if_pos c
      rw [e]
      refine ⟨fun j hj => ?_, fun j hj => ?_⟩
      · by_cases hjn : j = n + 1
        · rw [hjn]; exact Int.le_refl _
        · have := h1 j (by omega); omega
      · have := h1 j (by omega); omega
    · have e : bestK row above st (n + 1) = bestK row above st n := by
        rw [bestK]
        exact if_neg c
      rw [e]
      refine ⟨fun j hj => ?_, h2⟩
      by_cases hjn : j = n + 1
      · rw [hjn]; omega
      · exact h1 j (by omega)
theorem first_least {row above : Array UInt8} {st M : Int} {x0 x1 x2 x3 x4 : Int} (e0 : x0 = wt row above st 0) (e1 : x1 = wt row above st 1) (e2 : x2 = wt row above st 2) (e3 : x3 = wt row above st 3) (e4 : x4 = wt row above st 4)
    (ha : M = x0 ∨ M = x1 ∨ M = x2 ∨ M = x3 ∨ M = x4) (hb : M ≤ x0 ∧ M ≤ x1 ∧ M ≤ x2 ∧ M ≤ x3 ∧ M ≤ x4) {t0 t1 t2 t3 t4 : Tok} :
    kf_at M [.int x0 t0, .int x1 t1, .int x2 t2, .int x3 t3, .int x4 t4] = some (bestK row above st 4) := by
  obtain ⟨h1, h2⟩ := bestK_spec (row := row) (above := above) (st := st) 4
  have hle := @bestK_le row above st 4
  have g0 := h1 0 (by decide)
  have g1 := h1 1 (by decide)
  have g2 := h1 2 (by decide)
  have g3 := h1 3 (by decide)
  have g4 := h1 4 (by decide)
  rw [← e0] at g0; rw [← e1] at g1; rw [← e2] at g2; rw [← e3] at g3; rw [← e4] at g4
  have h5 : bestK row above st 4 = 0 ∨ bestK row above st 4 = 1 ∨ bestK row above st 4 = 2 ∨ bestK row above st 4 = 3 ∨ bestK row above st 4 = 4 := by omega
  rcases h5 with h | h | h | h | h <;> rw [h] at h2 g0 g1 g2 g3 g4 ⊢
  · rw [← e0] at g0 g1 g2 g3 g4 
    have b0 : (x0 == M) = true := beq_iff_eq.mpr (by omega)
    simp only [kf_at, isInt, b0, cond_true, cond_false]
  · have k0 := h2 0 (by decide)
    rw [← e1] at g0 g1 g2 g3 g4 k0
    rw [← e0] at k0
    have b0 : (x0 == M) = false := beq_eq_false_iff_ne.mpr (by omega)
    have b1 : (x1 == M) = true := beq_iff_eq.mpr (by omega)
    simp only [kf_at, isInt, b0, b1, cond_true, cond_false]
  · have k0 := h2 0 (by decide)
    have k1 := h2 1 (by decide)
    rw [← e2] at g0 g1 g2 g3 g4 k0 k1
    rw [← e0] at k0
    rw [← e1] at k1
    have b0 : (x0 == M) = false := beq_eq_false_iff_ne.mpr (by omega)
    have b1 : (x1 == M) = false := beq_eq_false_iff_ne.mpr (by omega)
    have b2 : (x2 == M) = true := beq_iff_eq.mpr (by omega)
    simp only [kf_at, isInt, b0, b1, b2, cond_true, cond_false]
  · have k0 := h2 0 (by decide)
    have k1 := h2 1 (by decide)
    have k2 := h2 2 (by decide)
    rw [← e3] at g0 g1 g2 g3 g4 k0 k1 k2
    rw [← e0] at k0
    rw [← e1] at k1
    rw [← e2] at k2
    have b0 : (x0 == M) = false := beq_eq_false_iff_ne.mpr (by omega)
    have b1 : (x1 == M) = false := beq_eq_false_iff_ne.mpr (by omega)
    have b2 : (x2 == M) = false := beq_eq_false_iff_ne.mpr (by omega)
    have b3 : (x3 == M) = true := beq_iff_eq.mpr (by omega)
    simp only [kf_at, isInt, b0, b1, b2, b3, cond_true, cond_false]
  · have k0 := h2 0 (by decide)
    have k1 := h2 1 (by decide)
    have k2 := h2 2 (by decide)
    have k3 := h2 3 (by decide)
    rw [← e4] at g0 g1 g2 g3 g4 k0 k1 k2 k3
    rw [← e0] at k0
    rw [← e1] at k1
    rw [← e2] at k2
    rw [← e3] at k3
    have b0 : (x0 == M) = false := beq_eq_false_iff_ne.mpr (by omega)
    have b1 : (x1 == M) = false := beq_eq_false_iff_ne.mpr (by omega)
    have b2 : (x2 == M) = false := beq_eq_false_iff_ne.mpr (by omega)
    have b3 : (x3 == M) = false := beq_eq_false_iff_ne.mpr (by omega)
    have b4 : (x4 == M) = true := beq_iff_eq.mpr (by omega)
    simp only [kf_at, isInt, b0, b1, b2, b3, b4, cond_true, cond_false]
end Mine

end
section
open PySem PySem.W PyProof.Rows PySem.Calls
namespace Mine
theorem eqAt_pair {A : Around} {s : Shared} {i : Int} {b : Array UInt8} {t t' u u' : Tok} : ∀ j (h1 : j < #[Value.int i t, Value.bytes b u].size) (h2 : j < #[Value.int i t', Value.bytes b u'].size),
    SeqAt.EqAt A s (#[Value.int i t, Value.bytes b u][j]) (#[Value.int i t', Value.bytes b u'][j]) true
  | 0, _, _ => fun prog w E Q hq => wpAny_eqBool_int (by simpa using hq)
  | 1, _, _ => fun prog w E Q hq => eqBool_bytes (by simpa using hq)
  | n + 2, h1, _ => by exfalso; simp at h1; omega
/-- (i, b) != (i, b): like pairs -/
theorem ne_pair {prog : Program} {w : World} {A : Around} {E : Value → Shared → Prop} {s : Shared} {l k : Addr} {i : Int} {b : Array UInt8} {t t' u u' : Tok} {Q : Value → Shared → Prop}
    (hl : s.heap.IsTuple l #[Value.int i t, Value.bytes b u]) (hk : s.heap.IsTuple k #[Value.int i t', Value.bytes b u']) (hu : A.units < cLine) (h : Q (.bool false) s) :
    wpAny (model prog w) A (compareOp .NotEq (.ref l) (.ref k)) Q E s :=
  SeqAt.RcNeAt.tuples (e := fun _ => true) hl hk hu eqAt_pair prog w E Q h
end Mine

end
section
open PySem PySem.W PyProof.Rows PySem.Calls
namespace Mine
theorem law_none (l : List Int) : ∀ cls, PySem.Challenge.rw_nu0002_01.row.toRowW.claim.raises [ofPy (PyData.list (List.map PyData.int l))] cls = false := raisesW_false (by wrow_none_raised)
theorem law_post (l : List Int)  : PySem.Challenge.rw_nu0002_01.row.toRowW.claim.post [ofPy (PyData.list (List.map PyData.int l))] (.bool true) [ofPy (PyData.list (List.map PyData.int l))] = true := by
  wrow_post
end Mine

end
section
open PySem PySem.W PyProof.Rows PySem.Calls
set_option maxRecDepth 100000
namespace Mine
open Sem (wp)
open Builtin Builtin.ObjectAttr

/-- an exception object just made, and the same with a dict -/
abbrev excO (C t : Addr) : Obj := { cls := .ref C, data := .fields #[.ref t, .none, .none, .none, .bool false, .none] }
abbrev excD (C t d : Addr) : Obj := { cls := .ref C, dict := some d, data := .fields #[.ref t, .none, .none, .none, .bool false, .none] }
abbrev tupO (rest : List Value) : Obj := { cls := .type "tuple", data := .seq rest.toArray }

section
variable {prog : Program} {w : World} {A : Around} {R : Result → Shared → Prop} {h : Heap} {g : Array GenState} {d : Drawn} {t : Nat} {os : OsState}
variable {nm q : Str} {C N : Addr} {bs bm bmB : List Value} {hdct : Bool} {sn : List Str} {sub : List Value} {ab : Bool} {col : Option Bool} {dd : Option Addr} {k0 k1 k2 k3 k5 : Option Value} {B newId initId : String}

/-- __new__ of an own exception class, whatever own classes stand between it and the built-in base -/
theorem excnew_c (F : ExcBaseFacts B newId initId bmB) {rest : List Value} (hC : h.get? C = some (excClassObj nm q C N bs bm hdct sn sub ab col dd k0 k1 k2 k3 k5 newId))
    (hcB : (Value.ref C :: bm).contains (.type B) = true) (hcA : (Value.ref C :: bm).contains (.type "AttributeError") = false) (hcN : (Value.ref C :: bm).contains (.type "NameError") = false)
    (hq : R (.ok (.ret (.ref (h.objs.size + 1)))) ⟨(h.push (tupO rest)).push (excO C h.objs.size), g, d, t, os⟩) (hrest : rest.length ≤ sizeLine) :
    codeAny (model prog w) A (.call (.builtin newId) ⟨.ref C :: rest, []⟩) R ⟨h, g, d, t, os⟩ := by
  have hstar := F.noStar
  have hends := F.ends
  refine codeAny_call_builtin_code (Code.quiet_builtin _ F.quiet) ?_
  simp only [checkBuiltinCall, F.newKind, F.newSplit, F.newRow]
  repeat (first | refine wpAny_loadPart_at hC ?_ | (refine wpAny_isSubtype_exc hC ?_; rw [hcB]) | refine wpAny_staticBase_exc hC ?_ | refine wpAny_madeBy_exc hC ?_ | simp only [bne_self_eq_false, Bool.false_eq_true, if_false] | wp_step)
  refine codeAny_builtinAt F.entry ?_
  unfold Builtin.«BaseException.__new__»
  refine PySem.wpAt_bind ?_
  show PySem.wpAt _ _ _ (stack >>= _) _ _ _
  refine PySem.wpAt_bind (PySem.wpAt_stack fun p below => PySem.wpAt_of_wpAny ?_)
  wp_walk
  refine PySem.wpAt_of_wpAny ?_
  rw [F.owner]
  repeat (first | with_reducible refine wpAny_madeHere_exc F.canon hC ?_ | with_reducible refine wpAny_loadPart_at hC ?_ | (with_reducible refine wpAny_isSubtype_exc hC ?_; first | rw [hcB] | rw [hcA] | rw [hcN]) | wp_step)
  show R _ _
  rw [Heap.size_push]
  exact hq

/-- what the class lookups of an own exception class say, read off the written heap -/
structure ExcLooks (M : Model) (h : Heap) (C : Addr) (fI : Value) : Prop where
  call : Looks M h (specialOf (.ref C) "__call__") (some (.builtin "type.__call__"))
  typ : Looks M h (isInstance (.ref C) (.type "type")) true
  self : Looks M h (isSubtype (.ref C) (.ref C)) true
  init : Looks M h (typeLookup (.ref C) "__init__") (some fI)
  fn : ∀ x, Looks M h (bindSpecial fI x) (fI, [x])

theorem ExcLooks.of {K : Frag} {M : Model} {h : Heap} {C fI : Addr} (X : K.In h) (h1 : specialIn K (.ref C) "__call__" = some (some (.builtin "type.__call__"))) (h2 : instIn K (.ref C) (.type "type") = some true)
    (h3 : mroIn K C (.ref C) = some true) (h4 : findIn K (.ref C) "__init__" = some (some (.ref fI))) (h5 : typeIn K (.ref fI) = some (.type "function")) : ExcLooks M h C (.ref fI) :=
  ⟨looks_specialIn X h1, looks_instIn X h2, looks_mroIn X h3, looks_findIn X h4, fun x => bind_fn X x h5⟩

/-- SheetFault(..): made, then its own __init__ -/
theorem exc_core {fI : Value} (F : ExcBaseFacts B newId initId bmB) {rest : List Value} (hC : h.get? C = some (excClassObj nm q C N bs bm hdct sn sub ab col dd k0 k1 k2 k3 k5 newId))
    (hcB : (Value.ref C :: bm).contains (.type B) = true) (hcA : (Value.ref C :: bm).contains (.type "AttributeError") = false) (hcN : (Value.ref C :: bm).contains (.type "NameError") = false)
    (Y : ExcLooks (model prog w) h C fI) (hrest : rest.length ≤ sizeLine)
    (hq : codeAny (model prog w) (A.under (.builtin "type.__call__" ⟨.ref C :: rest, []⟩)) (.call fI ⟨.ref (h.objs.size + 1) :: rest, []⟩) (InitBack (h.objs.size + 1) R) ⟨(h.push (tupO rest)).push (excO C h.objs.size), g, d, t, os⟩) :
    codeAny (model prog w) A (.call (.ref C) ⟨rest, []⟩) R ⟨h, g, d, t, os⟩ := by
  obtain ⟨call, typ, self, hi, hb⟩ := Y
  refine codeAny_of_tree ?_
  show wpAny _ _ (callAny (.ref C) _) _ _ _
  refine nd_load hC ?_
  show wpAny _ _ (callAny.viaDunder (.ref C) _) _ _ _
  unfold callAny.viaDunder
  refine wpAny_bind (call.at ?_)
  dsimp only
  rw [tc_bind]
  refine wpAny_bind (wpAny_pure (wpAny_bind (wpAny_pure ?_)))
  refine wpAny_pure (a := Fin.again (.call (.builtin "type.__call__") ⟨.ref C :: rest, []⟩)) (And.intro rfl ?_)
  refine codeAny_call_builtin_at (Code.quiet_builtin _ (by decide +kernel)) entry_typeCall (check_slot tc_kind tc_split typ (tc_args _ _ _) ?_)
  unfold Builtin.«type.__call__»
  have hm : Looks (model prog w) h (mroOf (.ref C)) (.ref C :: bm) := ((Looks.ld (part := none) hC).andThen .now).andThen .now
  have made : Looks (model prog w) h (Bind.madeBy (.ref C)) (some newId) := by
    intro A Q E s k q
    obtain ⟨hh, g, d, t, os⟩ := s
    exact wpAny_madeBy_exc (k _ _ hC) q
  repeat (first | simp only [List.isEmpty_cons, Bool.false_eq_true, if_false] | with_reducible refine wpAny_call ?_ | lk)
  refine excnew_c F hC hcB hcA hcN ?_ hrest
  have k : ∀ b o, h.get? b = some o → ((h.push (tupO rest)).push (excO C h.objs.size)).get? b = some o := fun b o e => Heap.get?_push_of_some _ (Heap.get?_push_of_some _ e)
  have hx : ((h.push (tupO rest)).push (excO C h.objs.size)).get? (h.objs.size + 1) = some (excO C h.objs.size) := by heap_get
  have t1 : Looks (model prog w) ((h.push (tupO rest)).push (excO C h.objs.size)) (typeOf (.ref (h.objs.size + 1))) (.ref C) := (Looks.ld hx).andThen .now
  have s1 := self.keeps k
  have i1 := hi.keeps k
  have b1 := (hb (.ref (h.objs.size + 1))).keeps k
  unfold isInstance callSpecial? specialOf
  repeat (first | with_reducible refine wpAny_call ?_ | lk)
  refine codeAny_mono hq fun r s' z => ?_
  rcases r with e | (v | _ | _ | _) <;> first | exact z | exact z.elim | skip
  obtain ⟨rfl, z⟩ := z
  exact wpAny_pure (wpAny_pure z)
end
end Mine

end
section
open PySem PySem.W PyProof.Rows PySem.Calls
set_option maxRecDepth 100000
namespace Mine
open Sem (wp)
open Builtin Builtin.ObjectAttr
section
variable {prog : Program} {w : World} {A : Around} {E : Value → Shared → Prop} {s : Shared} {K : Frag} {cd : ClassData} {x C D t : Addr} {name : Str} {v : Value}
/-- self.name = v on an exception object that has no dict yet -/
theorem exc_set {Q : Unit → Shared → Prop} (X : K.In s.heap) (hx : s.heap.get? x = some (excO C t))
    (hs : findIn K (.ref C) "__setattr__" = some (some (.builtin "object.__setattr__"))) (ha : findIn K (.ref C) name = some none) (hc : clsIn K C = some cd)
    (hm : cd.mro = [.ref C, .ref D, .type "Exception", .type "BaseException", .type "object"]) (hd : cd.hasDict = true)
    (h : ∀ h' tk d, (∀ b o, b ≠ x → s.heap.get? b = some o → h'.get? b = some o) → h'.get? x = some (excD C t d) → Q () { s with heap := h', toks := tk }) :
    wpAny (model prog w) A (setAttr (.ref x) name v) Q E s := by
  have SF := PySem.F.store_object
  have L1 : Looks (model prog w) s.heap (typeOf (.ref x)) (.ref C) := (Looks.ld hx).andThen .now
  have L2 : Looks (model prog w) s.heap (classData C) cd := looks_clsIn X hc
  have L3 : Looks (model prog w) s.heap (mroOf (.ref C)) cd.mro := L2.andThen .now
  have L4 : Looks (model prog w) s.heap (isInstance (.ref x) (.type "object")) true := L1.andThen (looks_mroIn X (by unfold mroIn; rw [hc, Option.bind_some, hm]; rfl))
  refine wpAny_bind (wpAny_mkText (wpAny_bind (wpAny_bind (wpAny_bind (L1 _ _ _ _ (fun _ _ e => e) (looks_findIn X hs _ _ _ _ (fun _ _ e => e) (wpAny_holding ?_)))))))
  rw [SF.slot.bind]
  refine wpAny_bind (wpAny_pure (wpAny_bind (wpAny_call ?_)))
  refine codeAny_call_builtin SF.slot.plain SF.entry (@check_slot (model prog w) _ _ { s with toks := s.toks + 1 } "object.__setattr__" "object" "__setattr__" (.ref x) [.str name s.toks, v] [] _ SF.kind SF.split L4 (SF.args (.ref x) (.str name s.toks) v) ?_)
  show wpAny _ _ (Builtin.«object.__setattr__» ⟨[.ref x, .str name s.toks, v], []⟩) _ _ _
  rw [osa_eq, refuse_eq]
  refine wpAny_bind (wpAny_bind (L1 _ _ _ _ (fun _ _ e => e) (wpAny_bind (L3 _ _ _ _ (fun _ _ e => e) ?_))))
  rw [hm, refuseLoop_ref, refuseLoop_ref, PySem.F.store_Exception.passes]
  refine wpAny_pure (wpAny_bind (L1 _ _ _ _ (fun _ _ e => e) (wpAny_bind (looks_findIn X ha _ _ _ _ (fun _ _ e => e) (wpAny_bind (wpAny_pure ?_))))))
  have hne : s.heap.objs.size ≠ x := Nat.ne_of_gt (Heap.lt_size hx)
  have hp : (s.heap.push emptyDict).get? x = some (excO C t) := Heap.get?_push_of_some _ hx
  refine wpAny_bind (wpAny_pure (wpAny_bind (wpAny_bind (wpAny_loadPart hx (wpAny_bind (L2 _ _ _ _ (fun _ _ e => e) ?_))))))
  rw [hd]
  have hD : ((s.heap.push emptyDict).update x fun o => { o with dict := some s.heap.objs.size }).get? s.heap.objs.size = some emptyDict :=
    (Heap.get?_update_other _ _ (Ne.symm hne)).trans (Heap.get?_push_size _ rfl)
  have hX : ((s.heap.push emptyDict).update x fun o => { o with dict := some s.heap.objs.size }).get? x = some (excD C t s.heap.objs.size) := Heap.get?_update_self _ hp rfl
  refine wpAny_bind (wpAny_alloc (wpAny_bind (wpAny_update (o := excO C t) hp ?_)))
  refine wpAny_pure (a := some s.heap.objs.size) (wpAny_bind (wpAny_pure (wpAny_bind ?_)))
  unfold nsSet
  refine wpAny_bind (wpAny_bind (wpAny_askSetting (wpAny_pure (wpAny_bind (wpAny_mkText (wpAny_bind (wpAny_loadPart hD ?_)))))))
  dsimp only
  have c : (!(#[] : Array DictEntry).any (·.key.isStr name) && (#[] : Array DictEntry).any (·.refKey)) = false := by simp
  rw [aRefKeyMayBeTheName_at, c]
  refine wpAny_updatePart hD ?_
  have hD' := Heap.get?_update_self (Obj.putName name (PyData.keyHash w.params name) (.str name (s.toks + 1))  v) hD rfl
  refine wpAny_bind (wpAny_lookBehind hD' (by rfl) ?_)
  refine wpAny_pure (wpAny_pure (wpAny_pure (h _ _ s.heap.objs.size (fun b o hb e => ?_) ?_)))
  · rw [Heap.get?_update_other _ _ (Nat.ne_of_gt (Heap.lt_size e)), Heap.get?_update_other _ _ (Ne.symm hb)]
    exact Heap.get?_push_of_some _ e
  · rw [Heap.get?_update_other _ _ hne]
    exact hX
end
end Mine

end
section
open PySem PySem.W PyProof.Rows PySem.Calls
set_option maxRecDepth 100000
namespace Mine
open Sem (wp)

abbrev sfBm : List Value := [.ref 31, .type "Exception", .type "BaseException", .type "object"]
/-- SheetFault's class object, as it lies in the written heap -/
structure SfAt (h : Heap) : Prop where
  obj : ∃ nm q bs sn sub ab col dd k0 k1 k2 k3 k5, h.get? 44 = some (excClassObj nm q 44 43 bs sfBm true sn sub ab col dd k0 k1 k2 k3 k5 "Exception.__new__")
theorem sf_at {w : World} {h : Heap} (X : (MineH.hd.heap_39 w.params).In h) : SfAt h :=
  ⟨⟨_, _, _, _, _, _, _, _, _, _, _, _, _, X 44 _ (by rfl)⟩⟩

section
variable {M : Model} {A : Around} {E : Value → Shared → Prop} {s : Shared} {env : Env}
theorem raise_made {x : Sem Value} {Q : Flow → Shared → Prop} (hh : A.handled = none)
    (h : wpAny M A x (fun v s₁ => ∃ e t d, v = .ref e ∧ SfAt s₁.heap ∧ s₁.heap.get? e = some (excD 44 t d) ∧ E (.ref e) s₁) E s) :
    wpAny M A (raiseStmt env (some x) none) Q E s := by
  unfold raiseStmt
  refine wpAny_bind (wpAny_mono h (fun v s₁ h₁ => ?_) fun _ _ x => x)
  obtain ⟨e, t, d, rfl, ⟨nm, q, bs, sn, sub, ab, col, dd, k0, k1, k2, k3, k5, hC⟩, he, hE⟩ := h₁
  obtain ⟨hp, g, d, tk, os⟩ := s₁
  have hcB : (Value.ref 44 :: sfBm).contains (.type "BaseException") = true := by decide
  repeat (first | with_reducible refine wpAny_loadPart_at he ?_ | with_reducible refine wpAny_loadPart_at hC ?_ | (with_reducible refine wpAny_isSubtype_exc hC ?_; rw [hcB]) | wp_step)
  exact wpAny_raiseNew_none hh hE
end

section
variable {prog : Program} {w : World} {A : Around} {E : Value → Shared → Prop} {s : Shared} {env : Env}
theorem Raise5 {x : Expr} {pos : Pos} {Q : Flow → Shared → Prop} (hh : A.handled = none)
    (h : wpAny (model prog w) A (eval x env) (fun v s₁ => ∃ e t d, v = .ref e ∧ SfAt s₁.heap ∧ s₁.heap.get? e = some (excD 44 t d) ∧ E (.ref e) s₁) E s) :
    wpAny (model prog w) A (exec (.Raise (some x) none pos) env) Q E s := by
  rw [arm_exec_Raise]
  refine wpAny_bind (wpAny_standAt (raise_made hh ?_))
  refine wpAny_bind (wpAny_mono h (fun v s₃ h₃ => wpAny_bind (wpAny_standAt (wpAny_pure h₃))) fun _ _ x => x)
end

/-- an own exception class's object, with the looks that making one asks for -/
theorem sf_looks {w : World} {M : Model} {h : Heap} (X : (MineH.hd.heap_39 w.params).In h) : ExcLooks M h 44 (.ref 28) :=
  ExcLooks.of X (by rfl) (by rfl) (by rfl) (by rfl) (by rfl)
theorem sf_setattr (w : World) : findIn (MineH.hd.heap_39 w.params) (.ref 44) "__setattr__" = some (some (.builtin "object.__setattr__")) := by rfl
theorem sf_message (w : World) : findIn (MineH.hd.heap_39 w.params) (.ref 44) "message" = some none := by rfl
theorem sf_cls (w : World) : ∃ cd, clsIn (MineH.hd.heap_39 w.params) 44 = some cd ∧ cd.mro = [.ref 44, .ref 31, .type "Exception", .type "BaseException", .type "object"] ∧ cd.hasDict = true := ⟨_, rfl, rfl, rfl⟩
end Mine

end
section
open PySem PySem.W PyProof.Rows PySem.Calls
set_option maxRecDepth 100000
namespace Mine
open Sem (wp)
/-- a SheetFault on its way out of the frames above l -/
def FlyE (base : Heap) (l : List Env) (v : Value) (s : Shared) : Prop := ∃ e a0, v = .ref e ∧ Heap.FlyingW base l e (.ref 44) a0 s.heap
/-- the same, noted in the frame at L -/
def HeldE (base : Heap) (l : List Env) (L : Addr) (v : Value) (s : Shared) : Prop := ∃ e a0, v = .ref e ∧ Heap.HeldW base l e (.ref 44) a0 L s.heap

section
variable {M : Model} {A : Around} {E : Value → Shared → Prop} {s : Shared} {base g : Heap} {outer : List Env} {env : Env} {L e t d : Addr} {m : PySem.Str → Option Value} {news : List (Addr × Obj)} {v : Value}

/-- out of the frame where it was raised -/
theorem leave_first (B : Below A base outer g) (F : Fr g L s.heap m) (N : News g L s.heap ((e, excD 44 t d) :: news)) (hf : env.frame = some L) (hk : env.scope.kind = .function) {Q : Unit → Shared → Prop}
    (hQ : ∀ h', FlyE base outer (.ref e) { s with heap := h' } → Q () { s with heap := h' }) : wpAny M (A.deeper env) (leaving env (.ref e)) Q E s := by
  have K' := pushX B F hf hk
  have he := N _ (.head _)
  have fresh : base.get? e = none := fresh_of_stays B.stays he.2.2
  refine wpAny_leaving_firstW (a0 := .ref t) K'.stack K'.frames hf he.1 K'.stays fresh rfl rfl rfl fun h' hL => hQ h' ?_
  obtain ⟨k1, ⟨_, _, k2⟩, k3, _⟩ := hL
  exact ⟨e, .ref t, rfl, k1, fresh, k2, k3⟩
theorem note_held (hfr : A.frames = some (env :: outer)) (hf : env.frame = some L) (H : FlyE base (env :: outer) v s) {Q : Unit → Shared → Prop}
    (hQ : ∀ h', HeldE base (env :: outer) L v { s with heap := h' } → Q () { s with heap := h' }) : wpAny M A (noteFrame v env) Q E s := by
  obtain ⟨e, a0, rfl, H⟩ := H
  exact wpAny_looks_onW hfr hf H fun h' hh _ => hQ h' ⟨e, a0, rfl, hh⟩
theorem land_held (H : HeldE base outer L v s) {Q : Unit → Shared → Prop}
    (hQ : ∀ h', FlyE base outer v { s with heap := h' } → Q () { s with heap := h' }) : wpAny M A (setFlight v none) Q E s := by
  obtain ⟨e, a0, rfl, H⟩ := H
  exact wpAny_landsW H fun h' hh _ => hQ h' ⟨e, a0, rfl, hh⟩
theorem leave_held (hf : env.frame = some L) (H : HeldE base (env :: outer) L v s) {Q : Unit → Shared → Prop}
    (hQ : ∀ h', FlyE base outer v { s with heap := h' } → Q () { s with heap := h' }) : wpAny M A (leaving env v) Q E s := by
  obtain ⟨e, a0, rfl, H⟩ := H
  exact wpAny_leaves_heldW hf H fun h' hh => hQ h' ⟨e, a0, rfl, hh⟩
/-- back from a loop's own activation -/
theorem back_held {l : List Env} (hf : env.frame = some L) (H : HeldE base l L v s)
    (hE : ∀ h', HeldE base l L v { s with heap := h' } → E v { s with heap := h' }) : cameBackBy M A env E v s := by
  obtain ⟨e, a0, rfl, hkb, hen, hl, oe, vs, T, oT, ts, he, hcls, hd, h1, hnT, hTe, hT, hdT, h3⟩ := H
  have hsz3 : 3 < ts.size := (Array.getElem?_eq_some_iff.mp h3).1
  have other : ∀ b, b ≠ T → (s.heap.update T (Obj.mapFields (·.setIfInBounds 3 (rawInt L)))).get? b = s.heap.get? b := fun b hb => Heap.get?_update_other _ _ (Ne.symm hb)
  have noRecord : ∀ b o, s.heap.get? b = some o → (∀ vs, o.data ≠ .fields vs) → b ≠ T := fun b o hb hnf q => by
    rw [q, hT] at hb; injection hb with hb; subst hb; exact hnf ts hdT
  unfold cameBackBy
  refine wpAny_bind (wpAny_field he hd h1 ?_)
  rw [if_neg (show ¬ ((Value.ref T == Value.none) = true) from by simp)]
  unfold setFlight
  refine wpAny_bind (wpAny_field he hd h1 ?_)
  rw [if_pos (show (Value.ref T != Value.none) = true from by simp), hf]
  refine wpAny_setField hT hdT hsz3 (hE _ ⟨e, a0, rfl, fun b o hbo => (other b fun q => by rw [q, hnT] at hbo; cases hbo).trans (hkb b o hbo), hen,
    hl.of_keeps fun b o hb hnf => ⟨o, (other b (noRecord b o hb hnf)).trans hb, rfl⟩, ?_⟩)
  exact ⟨oe, vs, T, _, _, (other e (Ne.symm hTe)).trans he, hcls, hd, h1, hnT, hTe, Heap.get?_update_self _ hT (Obj.isFreed_of_fields (Obj.data_mapFields hdT _)), Obj.data_mapFields hdT _, by simp [hsz3]⟩
end
end Mine

end
section
open PySem PySem.W PyProof.Rows PySem.Calls
set_option maxRecDepth 100000
namespace Mine
open Sem (wp)
section
variable {M : Model} {A : Around} {s : Shared} {env : Env} {E : Value → Shared → Prop}
theorem codeX_of_tree {c : Code} {R : Result → Shared → Prop} (hq : holdsB c = false)
    (h : wpX M (A.under c) (M.den c) (fun fin s' => match fin with | .done f => R (.ok f) s' | .again c' => c'.quiet = true ∧ codeX M A c' R s') (fun e s' => R (.error e) s') s) : codeX M A c R s := fun Γ p hc hΓ => by
  rw [wpCode_iff_wp, hc]
  refine Sem.wp_mono M Γ _ (fun fin p' s' h' => ?_) (fun _ _ _ h' => h') p s (h Γ p (hc ▸ hΓ.in (by rw [hc]; exact hq)))
  cases fin with
  | done f => exact h'
  | again c' => exact ⟨h'.1, h'.2 (Γ.goto c') p' rfl ⟨hΓ.1.goto c', hΓ.2⟩⟩
theorem codeX_mono {c : Code} {R R' : Result → Shared → Prop} (h : codeX M A c R s) (hR : ∀ f s, R f s → R' f s) : codeX M A c R' s :=
  fun Γ p hc hΓ => wpCode_mono (fun _ _ x => hR _ _ x) (h Γ p hc hΓ)
theorem wpX_call {f : Value} {pos : List Value} {kw : List (PySem.Str × Value)} {Q : Value → Shared → Prop}
    (hc : codeX M A (.call f ⟨pos, kw⟩) (fun r s' => match r with | .ok fl => ∃ v, fl = .ret v ∧ Q v s' | .error e => E e s') s) : wpX M A (call f pos kw) Q E s := fun Γ p hΓ => by
  unfold call
  rw [Sem.wp_runValue]
  refine wpCode_mono (fun r s' h => ?_) (hc _ p rfl (hΓ.enter (.call f ⟨pos, kw⟩) none p (by intro x; cases x)))
  cases r with
  | error e => exact h
  | ok fl =>
    obtain ⟨v, rfl, h⟩ := h
    exact h
theorem wpX_execs_cons {st : Stmt} {rest : List Stmt} {Q : Flow → Shared → Prop}
    (h : wpX M A (exec st env) (fun f s' => match f with | .next => wpX M A (execs rest env) Q E s' | f => Q f s') E s) : wpX M A (execs (st :: rest) env) Q E s := by
  rw [execs_cons]
  refine wpX_bind (wpX_mono h (fun f s' h' => ?_) fun _ _ e => e)
  cases f <;> first | exact h' | exact wpX_pure h'
/-- a statement that only raises -/
theorem wpX_Expr_raises {value : Expr} {pos : Pos} {Q : Flow → Shared → Prop} (h : wpX M A (eval value env) (fun _ _ => False) E s)
    (hi : interactive env = false := by rfl) (hs : swapsWith value none pos.line env = pure false := by rfl) : wpX M A (exec (.Expr value pos) env) Q E s := by
  rw [exec_Expr env value pos hi hs]
  exact wpX_bind (wpX_standAt (wpX_bind (wpX_mono h (fun _ _ h' => h'.elim) fun _ _ e => e)))
theorem wpX_Call {func : Expr} {args : List Expr} {pos : Pos} {Q : Value → Shared → Prop}
    (h : wpAny M A (eval func env) (fun f s₁ => wpX M A (callWith pos f [] (backTo pos (starEach args env)) []) Q E s₁) E s)
    (he : eval (.Call func args [] pos) env = (do callWith pos (← eval func env) [] (backTo pos (starEach args env)) (backToKw pos (keywordEach [] env))) := by rfl) :
    wpX M A (eval (.Call func args [] pos) env) Q E s := by
  rw [he]
  exact wpX_bindA h
/-- the arguments are leaves, the call is on the spine and raises -/
theorem wpX_callWith {pos : Pos} {f : Value} {first : List Value} {e : Expr} {rest : List Expr} {P : Heap → Prop}
    (hk : ∀ h, P h → ∃ k, (k = Keeper.frame ∨ k = Keeper.machine ∨ k = Keeper.boundFrame) ∧ Looks M h (keeperOf f) k)
    (h : wpAny M A (spliced (backTo pos (starEach (e :: rest) env))) (fun vs s₁ => P s₁.heap ∧ wpX M A (call f (first ++ vs)) (fun _ _ => False) E s₁) E s)
    (he : starEach (e :: rest) env = (false, eval e env) :: starEach rest env := by rfl) (hplain : (backTo pos (starEach rest env)).any (·.1) = false := by rfl) :
    wpX M A (callWith pos f first (backTo pos (starEach (e :: rest) env)) []) (fun _ _ => False) E s := by
  rw [he] at h ⊢
  have ha : wpAny M A (evalArgs f true (backTo pos ((false, eval e env) :: starEach rest env)) []) (fun a s₁ => P s₁.heap ∧ wpX M A (call f (first ++ a.pos) a.kw) (fun _ _ => False) E s₁) E s := evalArgs_plain h
  unfold callWith
  refine wpX_bind (wpX_holding (wpX_any (wpAny_mono ha (fun a s₁ h₁ => ?_) fun _ _ x => x)))
  refine wpX_bind (wpX_standAt ?_)
  obtain ⟨k, hk', L⟩ := hk _ h₁.1
  have hp : ((backTo pos (starEach (e :: rest) env)).any (·.1) || ([] : List (Option PySem.Str × Sem Value)).any (·.1.isNone)) = false := by
    rw [he]
    show ((false || (backTo pos (starEach rest env)).any (·.1)) || false) = false
    rw [hplain]; rfl
  rw [he] at hp
  simp only [hp]
  refine wpX_bindA (L.here ?_)
  have tail : ∀ {t : Sem Value}, wpX M A t (fun _ _ => False) E s₁ → wpX M A (t >>= fun r => holding [r] point >>= fun _ => pure r) (fun _ _ => False) E s₁ :=
    fun ht => wpX_bind (wpX_mono ht (fun r s₂ hr => hr.elim) fun _ _ e => e)
  have marked (mk : Value) : wpX M A (callMarked mk f (first ++ a.pos) a.kw) (fun _ _ => False) E s₁ := by unfold callMarked; exact wpX_keep h₁.2
  rcases hk' with rfl | rfl | rfl <;> dsimp only <;> first | exact tail h₁.2 | (split <;> first | exact tail h₁.2 | exact tail (marked _))
end

section
variable {prog : Program} {w : World} {A : Around} {s : Shared} {E : Value → Shared → Prop}
theorem codeX_func {body : List Stmt} {env : Env} {R : Result → Shared → Prop}
    (h : wpX (model prog w) (A.deeper env) (execs body env) (fun _ _ => False) (fun e s' => wpAny (model prog w) (A.deeper env) (leaving env e) (fun _ s'' => R (.error e) s'') (fun e' s'' => R (.error e') s'') s') s) : codeX (model prog w) A (.func body env) R s := by
  refine codeX_of_tree rfl ?_
  show wpX _ (A.deeper env) (do point; match ← (execs body env).onRaise (leaving env) with | .ret v => ret v | _ => ret .none) _ _ s
  refine wpX_bindA (wpAny_point (wpX_bind (wpX_onRaise (wpX_mono h (fun f s' h' => h'.elim) fun e s' h' => h'))))

/-- a call of a plain def that raises -/
theorem codeX_def {R : Result → Shared → Prop} {a : Addr} {o : Obj} {fd : FuncData} {body : List Stmt} {args : Args} {binds : List (PySem.Str × Value)}
    (hroom : A.depth < recursionLimit) (ho : s.heap.get? a = some o) (hdata : o.data = .func fd) (hlim : s.heap.NoLimit) (hcd : s.heap.CodeRec fd.code fd.qualname)
    (hbody : fd.body = .stmts body) (hbind : BindsTo s fd args binds) (hcell : ∀ x ∈ fd.scope.names, x.2 ≠ .cell) (hloc : ∀ x ∈ binds, fd.scope.names.lookup x.1 = some .local)
    (h : ∀ h₀, h₀.Ns s.heap.objs.size (fun x => binds.reverse.lookup x) → (∀ b o, s.heap.get? b = some o → h₀.get? b = some o) →
      wpX (model prog w) (A.deeper (callEnv fd s.heap.objs.size a)) (execs body (callEnv fd s.heap.objs.size a)) (fun _ _ => False)
        (fun e s' => wpAny (model prog w) (A.deeper (callEnv fd s.heap.objs.size a)) (leaving (callEnv fd s.heap.objs.size a) e) (fun _ s'' => R (.error e) s'') (fun e' s'' => R (.error e') s'') s') { s with heap := h₀, toks := s.toks + binds.length })
    (hco : fd.scope.isCoroutine = false) (hgen : fd.scope.isGenerator = false) (hk : fd.scope.kind = .function) : codeX (model prog w) A (.call (.ref a) args) R s := by
  refine codeX_of_tree rfl ?_
  show wpX _ A.in1 (callAny (.ref a) args) _ _ s
  simp only [callAny]
  refine wpX_bindA (wpAny_load ho ?_)
  obtain ⟨c, oc, vs, tq, hc, hoc, hdc, hq⟩ := hcd
  simp only [hdata, callFunction, hco, hgen, hbody, hc]
  refine wpX_bindA (m := field (.ref c) 1) (wpAny_field hoc hdc hq ?_)
  refine wpX_bindA (wpAny_pure ?_)
  refine wpX_bindA (hbind _ _ _ _ ?_)
  refine wpX_bindA (wpAny_newFunctionEnv hcell hloc (fun h₀ hns₀ hsb₀ => ?_) hk)
  refine wpX_bindA (wpAny_enterFrame (hlim.fresh _ hsb₀) hroom ?_)
  refine wpX_pure ⟨rfl, codeX_func ?_⟩
  have := h h₀ hns₀ fun b o e => hsb₀.extBut b o (Nat.ne_of_lt (Heap.lt_size e)) (Heap.get?_push_of_some _ e)
  unfold callEnv at this
  rw [hc] at this
  exact this

variable {A₀ : Around} {base h₀ : Heap} {outer : List Env} {L : Addr} {m mg mb : PySem.Str → Option Value} {env : Env} {news : List (Addr × Obj)} {K : Frag}
  {p : Program} {loose : List PySem.Str} {mean : ExcName → Option Value}
  {R : Result → Shared → Prop} {name qual : PySem.Str} {params : Arguments} {body : List Stmt} {scope : Scope} {dV kV doc pm cdv ct oc : Value} {an od : Option Addr} {osl : Array (Option Value)} {f : Addr} {args : Args} {binds : List (PySem.Str × Value)}
/-- a def of the text's that raises, called on the spine -/
theorem codeX_K (B : Below A₀ base outer h₀) (F : Fr h₀ L s.heap m) (X₀ : K.In h₀) (N : News h₀ L s.heap news) (T : Top p loose mean mg mb h₀) (hA : A.frames = some (env :: outer)) (hf : env.frame = some L) (hke : env.scope.kind = .function)
    (ho : K.lookup f = some ⟨oc, od, .func (fnOf name qual params body scope dV kV doc pm an cdv ct), osl⟩) (hcd : codeIn K cdv qual = true) (hroom : A.depth < recursionLimit)
    (hbind : BindsTo s (fnOf name qual params body scope dV kV doc pm an cdv ct) args binds) (hloc : ∀ y ∈ binds, scope.names.lookup y.1 = some .local)
    (h : ∀ g L' h₁, Fr h₀ L g m → Fr g L' h₁ (fun y => binds.reverse.lookup y) → News g L' h₁ news → Below A base (env :: outer) g → K.In g → Top p loose mean mg mb g →
      wpX (model prog w) (A.deeper (envOf qual scope L' f cdv)) (execs body (envOf qual scope L' f cdv)) (fun _ _ => False)
        (fun e s' => wpAny (model prog w) (A.deeper (envOf qual scope L' f cdv)) (leaving (envOf qual scope L' f cdv) e) (fun _ s'' => R (.error e) s'') (fun e' s'' => R (.error e') s'') s') { s with heap := h₁, toks := s.toks + binds.length })
    (hco : scope.isCoroutine = false) (hgen : scope.isGenerator = false) (hk : scope.kind = .function) (hcell : ∀ x ∈ scope.names, x.2 ≠ .cell) : codeX (model prog w) A (.call (.ref f) args) R s := by
  have X := X₀.keeps F.keep
  obtain ⟨FG, BG, st, -⟩ := groundX (R := R) B F N hA hf hke
  refine codeX_def (fd := fnOf name qual params body scope dV kV doc pm an cdv ct) hroom (X _ _ ho) rfl (T.nolimit.keeps F.keep) (codeRec_of X hcd) rfl hbind hcell hloc (fun h₁ hns hk₁ => ?_) hco hgen hk
  exact h _ s.heap.objs.size h₁ FG ⟨hns, fun b o e => hk₁ b o (of_hideAll _ e), Nat.le_of_eq (hideAll_size _ _)⟩
    (fun p hp => ⟨hk₁ _ _ (N p hp).1, Nat.ne_of_lt (Heap.lt_size (N p hp).1), hideAll_none _ (List.mem_map_of_mem hp)⟩) BG (X₀.keeps st) (T.keeps st)
end

section
variable {prog : Program} {w : World} {A : Around} {s : Shared} {env : Env}
/-- try: .. except ..:  its suite on the spine, raising; the clause a leaf -/
theorem wpR_Try {body orelse : List Stmt} {h₀ : ExceptHandler} {hs : List ExceptHandler} {pos : Pos} {Q : Flow → Shared → Prop}
    (h : wpX (model prog w) A (execs body env) (fun _ _ => False)
      (fun e s₁ => wpAny (model prog w) A (noteFrame e env) (fun _ s₂ => wpAny (model prog w) A (setFlight e none) (fun _ s₃ => wpAny (model prog w) A (handleBy e env (h₀ :: hs)) Q (fun _ _ => False) s₃) (fun _ _ => False) s₂) (fun _ _ => False) s₁) s) :
    wpR (model prog w) A (exec (.Try body (h₀ :: hs) orelse [] pos) env) Q s := by
  rw [arm_exec_Try]
  refine wpR_bind (wpR_standAt ?_)
  unfold tryStmt
  simp only [List.isEmpty_nil, if_true, List.isEmpty_cons, Bool.false_and, Bool.false_eq_true, if_false]
  refine wpR_bind ?_
  intro Γ p hΓ
  rw [Sem.wp_attempt]
  refine Sem.wp_mono _ Γ _ (fun f p' s' h' => h'.elim) (fun e p' s' h' => ?_) p s (h Γ p hΓ)
  have : wpR (model prog w) A (noteFrame e env >>= fun _ => setFlight e none >>= fun _ => handleBy e env (h₀ :: hs)) Q s' := wpR_bindA (wpAny_mono h' (fun _ _ h₂ => wpR_bindA (wpAny_mono h₂ (fun _ _ h₃ => wpR_any h₃) fun _ _ x => x)) fun _ _ x => x)
  exact this
end
end Mine

end
section
open PySem PySem.W PyProof.Rows PySem.Calls
namespace Mine
local macro_rules | `(tactic| walk_at "setAttr") => `(tactic| with_reducible refine halt ?_)
set_option maxRecDepth 100000 in
set_option maxHeartbeats 4000000 in
/-- SheetFault(msg), from any frame -/
theorem sf_made (w : World) {news : List (Addr × Obj)} {v : Value} {p : Program} {loose : List PySem.Str} {mean : ExcName → Option Value} {mg mb : PySem.Str → Option Value} {dp un : Nat} {gd : Option (List Code)} {cn : PySem.Str} {cs : Scope} {a : Addr} {ccd : Value} {cl : List (PySem.Str × Addr)} {outer : List Env} {A₀ : Around} {base h₀ : Heap} {L : Addr} {m : PySem.Str → Option Value} {s : Shared} {Q E : Value → Shared → Prop}
    (B : Below A₀ base outer h₀) (F : Fr h₀ L s.heap m) (X : (MineH.hd.heap_39 w.params).In h₀) (N : News h₀ L s.heap news) (T : Top p loose mean mg mb h₀) (hk : cs.kind = .function)
    (hd : dp + 1 < recursionLimit) (hu : un + 8 < cLine)
    (hq : ∀ e t d h' tk, Fr h₀ L h' m → News h₀ L h' ((e, excD 44 t d) :: news) → Q (.ref e) { s with heap := h', toks := tk }) :
    wpAny (model PySem.Challenge.rw_nu0002_01.row.prog w) (ktrTop dp un gd cn cs L a ccd cl outer) (call (.ref 44) [v]) Q E s := by
  revert B F X N T hq
  k_fill
  intro B F X N T hq
  refine wpAny_call ?_
  obtain ⟨hh, g, d, t, os⟩ := s
  obtain ⟨nm, q, bs, sn, sub, ab, col, dd, k0, k1, k2, k3, k5, hC⟩ := (sf_at (X.keeps F.keep)).obj
  refine exc_core PySem.F.excBase_Exception hC (by decide) (by decide) (by decide) (sf_looks (X.keeps F.keep)) (by rw [sizeLine_eq]; exact Nat.le_of_ble_eq_true rfl) ?_
  have F1 : Fr h₀ L ((hh.push (tupO [v])).push (excO 44 hh.objs.size)) m := (F.push _).push _
  have N1 : News h₀ L ((hh.push (tupO [v])).push (excO 44 hh.objs.size)) ((hh.objs.size + 1, excO 44 hh.objs.size) :: (hh.objs.size, tupO [v]) :: news) := by
    have := (N.push F (tupO [v])).push (F.push _) (excO 44 hh.objs.size)
    rwa [Heap.size_push] at this
  have hne : ∀ p ∈ news, p.1 ≠ hh.objs.size + 1 := fun p hp => Nat.ne_of_lt (Nat.lt_succ_of_lt (Heap.lt_size (N p hp).1))
  generalize hh.objs.size + 1 = e at *
  generalize hh.objs.size = tt at *
  generalize (hh.push (tupO [v])).push (excO 44 tt) = h1 at *
  refine' code_def (env := envX cn cs L a ccd cl) B F1 X N1 T ?kA ?kF hk ?k6 ?k7 ?k8 ?k9 ?kB ?_ ?c2 ?c3 ?c4 ?c5
  case kA => exact rfl
  case kF => exact rfl
  case k6 => k_is
  case k7 => k_is
  case k8 => exact hd
  case k9 => exact BindsTo.of_eq rfl
  case c5 => decide
  case kB => exact locs rfl
  case c2 => exact rfl
  case c3 => exact rfl
  case c4 => exact rfl
  intro g' L' h' FG' F' N' B' X' T'
  replace F' : Fr g' L' h' (fun y => List.lookup y [(PySem.Str.ofString "message", v), (PySem.Str.ofString "self", .ref e)]) := F'
  show wpAny _ _ _ _ _ _
  (try dsimp only)
  (try k_lift B')
  k_fold
  k_steps
  unfold Halt
  obtain ⟨cd, hcd, hcm, hcD⟩ := sf_cls w
  have he := N' _ (.head _)
  refine exc_set (X'.keeps F'.keep) he.1 (sf_setattr w) (sf_message w) hcd hcm hcD fun h2 tk2 d2 keep hx2 => ?_
  dsimp only
  refine wpAny_execs_nil ?_
  k_unfold
  dsimp only
  have ng : ∀ b o, g'.get? b = some o → b ≠ e := fun b o hb q => by rw [q, he.2.2] at hb; cases hb
  refine ⟨L', _, (e, excD 44 tt d2) :: news, ⟨F'.ns.at' fun o ho => keep L' o (Ne.symm he.2.1) ho, fun b o hb => keep b o (ng b o hb) (F'.keep b o hb), F'.above⟩, ?_, fun kF kN => ⟨rfl, hq _ _ _ _ _ kF kN⟩⟩
  intro p hp
  rcases List.mem_cons.mp hp with rfl | hp
  · exact ⟨hx2, he.2⟩
  · have := N' p (.tail _ (.tail _ hp))
    exact ⟨keep _ _ (hne p hp) this.1, this.2⟩
end Mine

end
section
open PySem PySem.W PyProof.Rows PySem.Calls
namespace Mine
/-- a def that raises a SheetFault, from any frame -/
abbrev ConE (w : World) (f : Addr) (vs : List Value) (d : Nat) (news : List (Addr × Obj)) : Prop :=
  ∀ (p : Program) (loose : List PySem.Str) (mean : ExcName → Option Value) (mg mb : PySem.Str → Option Value) (dp un : Nat) (gd : Option (List Code)) (cn : PySem.Str) (cs : Scope) (a : Addr) (ccd : Value) (cl : List (PySem.Str × Addr)) (outer : List Env) (A₀ : Around) (base h₀ : Heap) (L : Addr) (m : PySem.Str → Option Value) (s : Shared) (Q E : Value → Shared → Prop),
    Below A₀ base outer h₀ → Fr h₀ L s.heap m → (MineH.hd.heap_39 w.params).In h₀ → News h₀ L s.heap news → Top p loose mean mg mb h₀ → cs.kind = .function →
    dp + d < recursionLimit → un + 8 * d < cLine →
    (∀ v h' tk', FlyE base (envX cn cs L a ccd cl :: outer) v { s with heap := h', toks := tk' } → E v { s with heap := h', toks := tk' }) →
    wpAny (model PySem.Challenge.rw_nu0002_01.row.prog w) (ktrTop dp un gd cn cs L a ccd cl outer) (call (.ref f) vs) Q E s
local macro_rules | `(tactic| walk_at "exec Raise some none") => `(tactic| with_reducible refine halt ?_)
local macro_rules | `(tactic| walk_at "eval Call Name") => `(tactic| (k_here; (with_reducible show wpAny _ _ (eval (Expr.Call (Expr.Name (PySem.Str.ofString "SheetFault") _) _ _ _) _) _ _ _); refine Call_ ?_))
local macro_rules | `(tactic| walk_at "call ref") => `(tactic| ((with_reducible show wpAny _ _ (call (Value.ref 44) _) _ _ _); with_reducible refine halt ?_))
set_option maxRecDepth 100000 in
set_option maxHeartbeats 4000000 in
theorem guess5 (w : World) (news : List (Addr × Obj)) (l a c : Int) (tk tl ta tc : Tok) : ConE w 64 [.int 5 tk, .int l tl, .int a ta, .int c tc] 2 news := by
  unfold ConE
  k_fill
  intro p loose mean mg mb dp un gd cn cs aa ccd cl outer A₀ base h₀ L m s Q E B F X N T hk hd hu hE
  refine wpAny_call ?_
  k_dflt cell_enter
  k_steps
  unfold Halt
  refine Raise5 rfl ?_
  k_fold
  k_steps
  unfold Halt
  (rename Below _ _ _ _ => B7); (rename Frag.In _ _ => X7)
  k_dflt (refine' sf_made w ?k1 ?k2 ?k3 ?k4 ?k5 ?kK ?kd ?ku ?_; (case k1 => k_asm); (case k2 => k_asm); (case k3 => k_asm); (case k4 => k_asm); (case k5 => k_asm); (case kK => exact rfl); (case kd => ktr_room); (case ku => ktr_units))
  intro e t1 d1 h2 tk2 F2 N2
  k_unfold
  dsimp only
  refine ⟨e, t1, d1, rfl, sf_at (X7.keeps F2.keep), (N2 _ (.head _)).1, ?_⟩

  exact leave_first B7 F2 N2 rfl rfl fun h3 H3 => hE _ _ _ H3
end Mine

end
section
open PySem PySem.W PyProof.Rows PySem.Calls
set_option maxRecDepth 100000
namespace Mine
section
variable {prog : Program} {w : World} {A : Around} {s : Shared} {env : Env} {h₀ : Heap} {body : List Stmt}
/-- for at, octet in enumerate(row): a loop whose first turn raises -/
theorem enumX {R : Result → Shared → Prop} {E' : Value → Shared → Prop} {elts : List Expr} {kk : Nat} {pt : Pos} {b : Array UInt8} {t : Tok} {m₀ : PySem.Str → Option Value} {news : List (Addr × Obj)}
    (hh : A.handled = none) (F : Fr h₀ env.locals s.heap m₀) (N : News h₀ env.locals s.heap news) (hb : 0 < b.size)
    (turn : ∀ c T t1 t2 h tk, b[0]? = some c → IsTup h T #[.int (0 : Nat) t1, .int ((c : UInt8).toNat : Int) t2] → Fr h₀ env.locals h m₀ → News h₀ env.locals h news →
      wpAny (model prog w) A (assign (.Tuple elts kk pt) env (.ref T)) (fun _ s₂ => wpAny (model prog w) A (execs body env) (fun _ _ => False) (notedBy (model prog w) A env fun e s' => R (.error e) s') s₂) (fun _ _ => False) { s with heap := h, toks := tk }) :
    wpAny (model prog w) A (call (.type "enumerate") [.bytes b t]) (fun x s₁ => wpAny (model prog w) A (pyIter x) (fun it s₂ => codeAny (model prog w) A (.forLoop (.Tuple elts kk pt) it body [] env) R s₂) E' s₁) E' s := by
  have hLs : env.locals < s.heap.objs.size := F.ns.lt
  refine call_enum fun h' hE hI hsz hk => ?_
  refine wpAny_pyIter_enum hE ?_
  have hne : s.heap.objs.size + 1 ≠ s.heap.objs.size := Nat.succ_ne_self _
  have W := walksEnum (prog := prog) (w := w) hh (s.heap.objs.size + 1) s.heap.objs.size hne b t
  refine codeAny_forLoop_any (fun _ s' => s' = { s with heap := h' }) ?_ 0 rfl
  rintro _ _ rfl
  refine W.item 0 _ _ _ hb ⟨⟨.none, hE⟩, hI⟩ fun T vals h1 tk1 hv hT hMd hk1 => ?_
  obtain ⟨t1, t2, c, hc, rfl⟩ := hv
  have off : ∀ x, x < s.heap.objs.size → x ∉ [s.heap.objs.size + 1, s.heap.objs.size] := fun x hx hm => by
    simp only [List.mem_cons, List.not_mem_nil, or_false] at hm
    omega
  have old : ∀ b o, h₀.get? b = some o → b < s.heap.objs.size := fun b o e => Heap.lt_size (F.keep b o e)
  have hw : ∀ x, x < s.heap.objs.size → ∀ (h2 : Heap) (o : Obj), s.heap.get? x = some o → (∀ (b : Addr) (o : Obj), b ∉ [s.heap.objs.size + 1, s.heap.objs.size] → h1.get? b = some o → h2.get? b = some o) → h2.get? x = some o := fun x hx h2 o e hk2 =>
    hk2 x o (off x hx) (hk1 x o (off x hx) (hk x o e))
  refine W.go elts kk pt 0 T _ _ _ hMd fun h2 _ hk2 => ?_
  have hT2 : IsTup h2 T #[.int (0 : Nat) t1, .int ((c : UInt8).toNat : Int) t2] := by
    obtain ⟨o, ho, r⟩ := hT
    exact ⟨o, hk2 _ _ (W.apart _ _ _ hMd) ho, r⟩
  obtain ⟨oL, es, ep, hoL, hd, hl, hf⟩ := F.ns
  have F2 : Fr h₀ env.locals h2 m₀ := ⟨⟨oL, es, ep, hw _ hLs h2 oL hoL hk2, hd, hl, hf⟩, fun b o e => hw b (old b o e) h2 o (F.keep b o e) hk2, F.above⟩
  have N2 : News h₀ env.locals h2 news := fun p hp => ⟨hw p.1 (Heap.lt_size (N p hp).1) h2 p.2 (N p hp).1 hk2, (N p hp).2⟩
  refine wpAny_mono (turn c T t1 t2 h2 tk1 hc hT2 F2 N2) (fun _ s₂ h₂ => ?_) fun _ _ e => e.elim
  exact wpAny_mono h₂ (fun _ _ e => e.elim) fun _ _ e => e
end
end Mine

end
section
open PySem PySem.W PyProof.Rows PySem.Calls
namespace Mine
/-- a def that raises a SheetFault, on the spine -/
abbrev ConEX (w : World) (f : Addr) (vs : List Value) (d : Nat) (news : List (Addr × Obj)) : Prop :=
  ∀ (p : Program) (loose : List PySem.Str) (mean : ExcName → Option Value) (mg mb : PySem.Str → Option Value) (dp un : Nat) (cn : PySem.Str) (cs : Scope) (a : Addr) (ccd : Value) (cl : List (PySem.Str × Addr)) (outer : List Env) (A₀ : Around) (base h₀ : Heap) (L : Addr) (m : PySem.Str → Option Value) (s : Shared) (E : Value → Shared → Prop),
    Below A₀ base outer h₀ → Fr h₀ L s.heap m → (MineH.hd.heap_39 w.params).In h₀ → News h₀ L s.heap news → Top p loose mean mg mb h₀ → cs.kind = .function →
    dp + d < recursionLimit → un + 8 * d < cLine →
    (∀ v h' tk', FlyE base (envX cn cs L a ccd cl :: outer) v { s with heap := h', toks := tk' } → E v { s with heap := h', toks := tk' }) →
    wpX (model PySem.Challenge.rw_nu0002_01.row.prog w) (ktrTop dp un (some []) cn cs L a ccd cl outer) (call (.ref f) vs) (fun _ _ => False) E s
theorem ConE.use {w : World} {f : Addr} {vs : List Value} {d : Nat} {news : List (Addr × Obj)} (C : ConE w f vs d news)
    {p : Program} {loose : List PySem.Str} {mean : ExcName → Option Value} {mg mb : PySem.Str → Option Value} {dp un : Nat} {gd : Option (List Code)} {cn : PySem.Str} {cs : Scope} {a : Addr} {ccd : Value} {cl : List (PySem.Str × Addr)} {outer : List Env} {A₀ : Around} {base h₀ : Heap} {L : Addr} {m : PySem.Str → Option Value} {s : Shared} {Q E : Value → Shared → Prop}
    (B : Below A₀ base outer h₀) (F : Fr h₀ L s.heap m) (X : (MineH.hd.heap_39 w.params).In h₀) (N : News h₀ L s.heap news) (T : Top p loose mean mg mb h₀) (hk : cs.kind = .function)
    (hd : dp + d < recursionLimit) (hu : un + 8 * d < cLine)
    (hE : ∀ v h' tk', FlyE base (envX cn cs L a ccd cl :: outer) v { s with heap := h', toks := tk' } → E v { s with heap := h', toks := tk' }) :
    wpAny (model PySem.Challenge.rw_nu0002_01.row.prog w) (ktrTop dp un gd cn cs L a ccd cl outer) (call (.ref f) vs) Q E s :=
  C p loose mean mg mb dp un gd cn cs a ccd cl outer A₀ base h₀ L m s Q E B F X N T hk hd hu hE
local macro_rules | `(tactic| walk_at "getMethod ref") => `(tactic| (k_here; (with_reducible show wpAny _ _ (getMethod (Value.ref _) (PySem.Str.ofString "append") _) _ _ _); k_dflt (refine' getMethod_append ?hq ?_; (case hq => exact News.get (by k_asm) (by k_mem)))))
local macro_rules | `(tactic| walk_at "eval Call Name") => `(tactic| (k_here; (with_reducible show wpAny _ _ (eval (Expr.Call (Expr.Name (PySem.Str.ofString "guess") _) _ _ _) _) _ _ _); refine Call_ ?_))
local macro_rules | `(tactic| walk_at "subscriptTail") => `(tactic| (k_here; (with_reducible show wpAny _ _ (subscriptTail _ _ (Value.bytes _ _) (Value.int _ _)) _ _ _); k_dflt (refine' sub_bytes ?z ?k0 ?k1 ?_ ?hs; (case hs => with_unfolding_all rfl); (case z => decide); (case k0 => decide); (case k1 => decide); k_whole)))
local macro_rules | `(tactic| walk_at "call ref") => `(tactic| ((with_reducible show wpAny _ _ (call (Value.ref 64) _) _ _ _); with_reducible refine halt ?_))
set_option maxRecDepth 100000 in
set_option maxHeartbeats 4000000 in
theorem filtered5 (w : World) (news : List (Addr × Obj)) (tk tr ta ts : Tok) : ConEX w 71 [.int 5 tk, .bytes #[97] tr, .bytes #[97] ta, .int 1 ts] 3 news := by
  unfold ConEX
  k_fill
  intro p loose mean mg mb dp un cn cs aa ccd cl outer A₀ base h₀ L m s E B F X N T hk hd hu hE
  refine wpX_call ?_
  k_dflt (refine' codeX_K ?k1 ?k2 ?k3 ?k4 ?k5 ?kA ?kF ?kK ?k6 ?k7 ?k8 ?k9 ?kB ?_ ?c2 ?c3 ?c4 ?c5; (case kA => exact rfl); (case kF => exact rfl); (case kK => assumption); (case k1 => k_asm); (case k2 => k_asm); (case k3 => k_asm); (case k4 => k_asm); (case k5 => k_asm); (case k6 => k_is); (case k7 => k_is); (case k8 => ktr_room); (case k9 => exact BindsTo.of_eq rfl); (case c5 => decide); (case kB => exact locs rfl); (case c2 => exact rfl); (case c3 => exact rfl); (case c4 => exact rfl); k_whole)
  intro g' L' h' FG' F' N' B' X' T'
  replace F' : Fr g' L' h' (fun y => List.lookup y [(PySem.Str.ofString "step", .int 1 ts), (PySem.Str.ofString "above", .bytes #[97] ta), (PySem.Str.ofString "row", .bytes #[97] tr), (PySem.Str.ofString "kind", .int 5 tk)]) := F'
  (try dsimp only); (try k_lift B')
  refine wpX_execs_cons (wpX_R (wpR_Assign (wpR_Call ?_)))
  k_fold
  k_steps
  (rename Fr _ _ _ _ => F1); (rename News _ _ _ _ => N1)
  refine wpR_callWith0 (.inr (.inl rfl)) (Looks.of_pure rfl) (ba_call rfl fun h1 hq1 hk1 => ?_)
  have F2 := F1.keeps hk1
  have N2 : News g' L' h1 ((h'.objs.size, baObj #[]) :: news) := fun q hq => by
    rcases List.mem_cons.mp hq with rfl | hq
    · exact ⟨hq1, Nat.ne_of_gt F1.ns.lt, new_none F1 (Nat.le_refl _)⟩
    · exact (N1.grown hk1) q hq
  clear F1 N1
  dsimp only
  generalize h'.objs.size = q at *
  clear hk1 hq1
  k_steps
  clear qk ek
  (rename Fr _ _ _ _ => F3); (rename News _ _ _ _ => N3)
  refine wpX_any (wpAny_execs_cons (wpAny_For ?_))
  k_steps
  (rename Fr _ _ _ _ => F3); (rename News _ _ _ _ => N3)
  refine enumX rfl F3 N3 (by decide) ?_
  clear F3 N3
  intro c T1 t1 t2 h tk1 hc hT F4 N4
  obtain rfl : (97 : UInt8) = c := Option.some.inj hc
  clear hc
  k_fold
  k_steps
  unfold Halt
  k_dflt (refine' ConE.use (guess5 _ _ _ _ _ _ _ _ _) ?k1 ?k2 ?k3 ?k4 ?k5 ?kK ?kd ?ku ?_; (case k1 => k_asm); (case k2 => k_asm); (case k3 => k_asm); (case k4 => k_asm); (case k5 => k_asm); (case kK => exact rfl); (case kd => ktr_room); (case ku => ktr_units))
  intro v h3 tk3 H3
  show notedBy _ _ _ _ _ _
  unfold notedBy
  refine note_held rfl rfl H3 fun h4 H4 => ?_
  refine back_held rfl H4 fun h5 H5 => ?_
  exact leave_held rfl H5 fun h6 H6 => hE _ _ _ H6
end Mine

end
section
open PySem PySem.W PyProof.Rows PySem.Calls
set_option maxRecDepth 100000
namespace Mine
theorem ConEX.use {w : World} {f : Addr} {vs : List Value} {d : Nat} {news : List (Addr × Obj)} (C : ConEX w f vs d news)
    {p : Program} {loose : List PySem.Str} {mean : ExcName → Option Value} {mg mb : PySem.Str → Option Value} {dp un : Nat} {cn : PySem.Str} {cs : Scope} {a : Addr} {ccd : Value} {cl : List (PySem.Str × Addr)} {outer : List Env} {A₀ : Around} {base h₀ : Heap} {L : Addr} {m : PySem.Str → Option Value} {s : Shared} {E : Value → Shared → Prop}
    (B : Below A₀ base outer h₀) (F : Fr h₀ L s.heap m) (X : (MineH.hd.heap_39 w.params).In h₀) (N : News h₀ L s.heap news) (T : Top p loose mean mg mb h₀) (hk : cs.kind = .function)
    (hd : dp + d < recursionLimit) (hu : un + 8 * d < cLine)
    (hE : ∀ v h' tk', FlyE base (envX cn cs L a ccd cl :: outer) v { s with heap := h', toks := tk' } → E v { s with heap := h', toks := tk' }) :
    wpX (model PySem.Challenge.rw_nu0002_01.row.prog w) (ktrTop dp un (some []) cn cs L a ccd cl outer) (call (.ref f) vs) (fun _ _ => False) E s :=
  C p loose mean mg mb dp un cn cs a ccd cl outer A₀ base h₀ L m s E B F X N T hk hd hu hE
section
variable {prog : Program} {w : World} {A : Around} {E : Value → Shared → Prop} {s : Shared} {base : Heap} {l : List Env} {v : Value} {L a : Addr} {cn : PySem.Str} {cs : Scope} {ccd : Value} {cl : List (PySem.Str × Addr)}
  {p : Program} {loose : List PySem.Str} {mean : ExcName → Option Value} {mg mb : PySem.Str → Option Value} {np pos : Pos} {b₀ : Stmt} {suite : List Stmt}
/-- except SheetFault: the clause takes it -/
theorem handled5 {Q : Flow → Shared → Prop} (X : (MineH.hd.heap_39 w.params).In base) (T : Top p loose mean mg mb base) (H : FlyE base l v s)
    (hk : cs.kind = .function) (hx : (envX cn cs L a ccd cl).kindOf (PySem.Str.ofString "SheetFault") = some .globalImplicit)
    (k : ∀ e h', v = .ref e → FlyE base l v { s with heap := h' } → wpAny (model prog w) (A.mark (some v)) (execs (b₀ :: suite) (envX cn cs L a ccd cl)) Q (fun _ _ => False) { s with heap := h' }) :
    wpAny (model prog w) A (handleBy v (envX cn cs L a ccd cl) [.ExceptHandler (some (.Name (PySem.Str.ofString "SheetFault") np)) none (b₀ :: suite) pos]) Q (fun _ _ => False) s := by
  obtain ⟨e, a0, rfl, hfl⟩ := H
  have hkeep : ∀ b o, base.get? b = some o → s.heap.get? b = some o := hfl.1
  obtain ⟨nm, q, bs, sn, sub, ab, col, dd, k0, k1, k2, k3, k5, hC⟩ := (sf_at (X.keeps hkeep)).obj
  obtain ⟨ob, hob, hobc⟩ := hfl.there
  obtain ⟨hh, g, d, t, os⟩ := s
  refine wpAny_handleBy_cons (codeAny_handlers_test ?_) (by intro q; cases q)
  refine Name_function_global hk hx (loadGlobal_global (env := envX cn cs L a ccd cl) (T.g.keeps hkeep) (mg_of X T.g (n := PySem.Str.ofString "SheetFault") (by rfl : nsIn (MineH.hd.heap_39 w.params) mainGlobals (PySem.Str.ofString "SheetFault") = some (some (.ref 44)))) ?_) (by decide)
  refine wpAny_excMatches_sub_self hC hob hobc (by decide) ?_
  refine codeAny_handlers_suite ?_
  refine lands_againW hfl fun h₆ hfl₆ _ => ?_
  exact wpAny_passesOwnAt PassesOwnAt.never (k e h₆ rfl ⟨e, a0, rfl, hfl₆⟩)
end
end Mine

end
section
open PySem PySem.W PyProof.Rows PySem.Calls
namespace Mine
theorem News.none {h₀ h : Heap} {L : Addr} {r : List (Addr × Obj)} (_ : News h₀ L h r) : News h₀ L h [] := fun _ hp => nomatch hp
/-- the law's own weight of a kind -/
def lawW (row above : Array UInt8) (st : Int) (k : Nat) : Int := ((toldList k row above st row.size).map fun o => min o (256 - o)).sum
theorem ints_un {ws : List Value} {a : Int} {r : List Int} (h : IntsAre ws (a :: r)) : ∃ t w, ws = .int a t :: w ∧ IntsAre w r := by
  cases h with
  | cons _ t h => exact ⟨t, _, rfl, h⟩
theorem ints5 {ws : List Value} {a b c d e : Int} (h : IntsAre ws [a, b, c, d, e]) : ∃ t0 t1 t2 t3 t4, ws = [.int a t0, .int b t1, .int c t2, .int d t3, .int e t4] := by
  obtain ⟨t0, w0, rfl, h0⟩ := ints_un h
  obtain ⟨t1, w1, rfl, h1⟩ := ints_un h0
  obtain ⟨t2, w2, rfl, h2⟩ := ints_un h1
  obtain ⟨t3, w3, rfl, h3⟩ := ints_un h2
  obtain ⟨t4, w4, rfl, h4⟩ := ints_un h3
  cases h4
  exact ⟨_, _, _, _, _, rfl⟩
theorem News.swap {h₀ h : Heap} {L : Addr} {a b : Addr × Obj} {r : List (Addr × Obj)} (N : News h₀ L h (a :: b :: r)) : News h₀ L h (b :: a :: r) := fun p hp => N p (by
  rcases List.mem_cons.mp hp with rfl | hp
  · exact .tail _ (.head _)
  · rcases List.mem_cons.mp hp with rfl | hp
    · exact .head _
    · exact .tail _ (.tail _ hp))
local macro_rules | `(tactic| walk_at "eval Call Name") => `(tactic| (k_here; (with_reducible show wpAny _ _ (eval (Expr.Call (Expr.Name (PySem.Str.ofString "_law_pool") _) _ _ _) _) _ _ _); refine Call_ ?_))
local macro_rules | `(tactic| walk_at "eval Call Name") => `(tactic| (k_here; (with_reducible show wpAny _ _ (eval (Expr.Call (Expr.Name (PySem.Str.ofString "_law_take") _) _ _ _) _) _ _ _); refine Call_ ?_))
local macro_rules | `(tactic| walk_at "eval Call Name") => `(tactic| (k_here; (with_reducible show wpAny _ _ (eval (Expr.Call (Expr.Name (PySem.Str.ofString "_law_one") _) _ _ _) _) _ _ _); refine Call_ ?_))
local macro_rules | `(tactic| walk_at "call ref") => `(tactic| (k_here; (with_reducible show wpAny _ _ (call (Value.ref 97) _) _ _ _); k_dflt (refine' pool_use ?k1 ?k2 ?k3 ?k4 ?k5 ?kK ?kd ?ku ?hI ?hL ?hy ?_; (case k1 => k_asm); (case k2 => k_asm); (case k3 => k_asm); (case k4 => k_asm); (case k5 => k_asm); (case kK => exact rfl); (case kd => decide); (case ku => decide); (case hL => assumption); (case hI => assumption); (case hy => assumption); rintro v9 h9 tk9 n9 ⟨l9, a9, b9, ta9, tb9, nn9, e9, p9, q9, r9, en9⟩ F9 N9; subst e9; subst en9; (try dsimp only); (try k_sweep); (try k_fold))))
local macro_rules | `(tactic| walk_at "call ref") => `(tactic| (k_here; (with_reducible show wpAny _ _ (call (Value.ref 104) _) _ _ _); k_dflt (refine' Con.use (take_c _ _ _ _ _ _ _ _ _ _ ?a0 ?a1 ?a2 ?a3 ?a4) ?k1 ?k2 ?k3 ?k4 ?k5 ?kK ?kd ?ku ?_; (case k1 => k_asm); (case k2 => k_asm); (case k3 => k_asm); (case k4 => first | k_asm | exact News.pull3 (by k_asm)); (case k5 => k_asm); (case kK => exact rfl); (case kd => decide); (case ku => decide); (case a0 => assumption); (case a1 => assumption); (case a2 => decide); (case a3 => decide); (case a4 => first | assumption | k_all); rintro v9 h9 tk9 n9 ⟨d9, t9, a9, b9, ta9, tb9, e9, p9, q9, r9, s9, en9⟩ F9 N9; subst e9; subst en9; (try dsimp only); (try k_sweep); (try k_fold))))
local macro_rules | `(tactic| walk_at "call ref") => `(tactic| (k_here; (with_reducible show wpAny _ _ (call (Value.ref 111) _) _ _ _); k_dflt (refine' Con.use (one_c _ _ _ _ _ _ _ _ _ _ _ _ ?a0 ?a1 ?a2 ?a3 ?a4 ?a5) ?k1 ?k2 ?k3 ?k4 ?k5 ?kK ?kd ?ku ?_; (case k1 => k_asm); (case k2 => k_asm); (case k3 => k_asm); (case k4 => exact News.swap (by k_asm)); (case k5 => k_asm); (case kK => exact rfl); (case kd => decide); (case ku => decide); (case a0 => assumption); (case a1 => assumption); (case a2 => first | exact (.cons _ _ (.cons _ _ (.cons _ _ IntsAre.nil))) | exact (.cons _ _ (.cons _ _ (.cons _ _ (.cons _ _ (.cons _ _ (.cons _ _ (.cons _ _ IntsAre.nil))))))) | exact (.cons _ _ (.cons _ _ (.cons _ _ (.cons _ _ (.cons _ _ (.cons _ _ (.cons _ _ (.cons _ _ IntsAre.nil))))))))); (case a3 => exact Nat.le_of_ble_eq_true rfl); (case a4 => exact Nat.le_of_ble_eq_true rfl); (case a5 => first | assumption | k_all); rintro v9 h9 tk9 n9 ⟨d9, t9, a9, b9, ta9, tb9, e9, p9, r9, s9, en9⟩ F9 N9; subst e9; subst en9; (try dsimp only); (try k_sweep); (try k_fold))))
local macro_rules | `(tactic| walk_at "eval ListComp") => `(tactic| with_reducible refine halt ?_)
local macro_rules | `(tactic| walk_at "CompSrc") => `(tactic| with_reducible refine halt ?_)
local macro_rules | `(tactic| walk_at "CompEnd") => `(tactic| with_reducible refine halt ?_)
local macro_rules | `(tactic| walk_at "call type:list") => `(tactic| (k_here; (with_reducible show wpAny _ _ (call (Value.type "list") [Value.bytes _ _]) _ _ _); k_dflt (refine' list_of_bytes_K ?y1 ?y2 ?y3 ?y4 ?_; (case y1 => exact rfl); (case y2 => k_asm); (case y3 => k_asm); (case y4 => (rw [filtArr_size, sizeLine_eq]; omega)); intro l9 h9 tk9 us9 c9 F9 N9 lt9 hi9; rw [bInts_filt] at hi9; (try k_lt lt9); (try k_sweep); (try k_fold))))
local macro_rules | `(tactic| walk_at "eval Call Name") => `(tactic| (k_here; (with_reducible show wpAny _ _ (eval (Expr.Call (Expr.Name (PySem.Str.ofString "_law_weight") _) _ _ _) _) _ _ _); refine Call_ ?_))
local macro_rules | `(tactic| walk_at "call ref") => `(tactic| ((with_reducible show wpAny _ _ (call (Value.ref 128) _) _ _ _); with_reducible refine halt ?_))
local macro_rules | `(tactic| k_all) => `(tactic| assumption)
local macro_rules | `(tactic| k_updF) => `(tactic| first | (refine' UpdF.head ?a; (case a => first | assumption | k_all)) | (refine' UpdF.tail ?a ?b; (case a => first | assumption | k_ne); (case b => k_updF)))
local macro_rules | `(tactic| walk_at "compareOp NotEq ref ref") => `(tactic| (k_here; (with_reducible show wpAny _ _ (compareOp CmpOp.NotEq (Value.ref _) (Value.ref _)) _ _ _); k_dflt (refine' ne_pair ?a ?b ?c ?_; (case a => exact ⟨_, News.get (by k_asm) (by k_mem), rfl, _, rfl⟩); (case b => exact ⟨_, News.get (by k_asm) (by k_mem), rfl, _, rfl⟩); (case c => ke_room); k_whole)))
set_option pp.maxSteps 800
set_option maxRecDepth 100000 in
set_option maxHeartbeats 4000000 in
theorem law_holds : PySem.Challenge.rw_nu0002_01.Holds := by
  refine MineH.hd ?_
  k_fill
  intro w s₀ s₁ mg mb G Y fa o pm cd doc dV kV ho hd hcd hD hmg hg args vals as hpre hlay hrd hwl hlo
  have KX := kIn_of Y
  have X := (Ground.X G).1
  have V := (Ground.X G).2
  try w_nolog (first | (have GL := glob_more (Ground.glob G (by first | k_qdec | decide +kernel) (by first | k_qdec | decide +kernel)) V) | (have GL := glob_more (Ground.glob G (by decide +kernel)) V))
  refine Ground.open G ?_
  intro T B D TE TW
  try (refine guard_noD D (by decide +kernel) ?_; clear D)
  obtain ⟨_, _, M⟩ := bmod_of_top T
  have TA := at_of_top T
  try (obtain ⟨_, _, he, B0⟩ := based_of_top T rfl hmg ho hd; have he' : cd = _ := he; subst he'; clear he)
  clear hmg
  wrow_args hpre hlay hrd hwl hlo
  rename_i q9 vs9 as9 hL9 ra9 w19 r09 hI9 hr9 hc1 hc2
  have K0 := below_caller (Top.heap T)
  obtain rfl : dV = .none := by
    rcases hD.pos with h | h
    · exact h.2
    · exact absurd rfl h.1
  obtain rfl : kV = .none := by
    rcases hD.kw with h | h
    · exact h.2
    · exact absurd rfl h.1
  refine wpR_call ?_
  refine' codeR_top (binds := [(PySem.Str.ofString "script", Value.ref q9)]) ?e1 ho hd ?e2 hcd ?e3 ?e4 ?e5 ?_ ?e6 ?e7 ?e8; (case e3 => exact BindsTo.of_eq rfl); (case e1 => decide); (case e2 => exact Top.nolimit T); (case e4 => intro x hx; rcases List.mem_singleton.mp hx with rfl; exact .inl rfl); (case e5 => decide +kernel); (case e6 => exact rfl); (case e7 => exact rfl); (case e8 => exact rfl)
  intro h₁ tk cells F N Y
  k_cells Y
  replace F : Fr s₁.heap s₁.heap.objs.size h₁ (fun y => if y = PySem.Str.ofString "script" then some (.ref q9) else none) := F
  have KX0 := KX
  refine wpR_execs_leaf ?_
  k_fold
  k_steps
  rename_i src a0 b0 ta0 tb0 nn0 ha0 hb0 hsrc _ _ _ oc F1 N1 hoc
  simp only [List.cons_append, List.nil_append] at N1
  have hcs : s₁.heap.objs.size + 1 ≠ src := hsrc _ (.head _)
  clear hsrc
  refine wpR_execs_leaf ?_
  k_fold
  k_steps
  (rename Fr _ _ _ _ => F2); (rename News _ _ _ _ => N2)
  rename_i d1 t1 _ _ _ _ hd0 hd7 _ _ _ _ _ _ _ _ _ st ts a1 b1 ta1 tb1 hst ha1 hb1 _ _ _ _ _ _
  have N3 : News T.heap s₁.heap.objs.size _ [(src, srcOf a1 b1 ta1 tb1 nn0), (s₁.heap.objs.size + 1, oc)] := fun p hp => N2 p (by
    rcases List.mem_cons.mp hp with rfl | hp
    · exact .tail _ (.head _)
    · exact .tail _ (.tail _ (.tail _ hp)))
  clear N2 
  refine wpR_execs_leaf ?_
  k_fold
  k_steps
  unfold Halt
  refine LCg.ListComp_U (F₀ := by k_asm) (by rfl) (by decide) (by rfl) (by decide) (by rfl) ?_
  lcg_toSrc
  unfold Halt
  (rename IsRange _ _ _ _ _ _ _ _ => hr)
  obtain ⟨many, rfl⟩ := Int.eq_ofNat_of_zero_le hd0
  refine' LCg.CompSrc.range (n := many) ?y1 ?y2 ?y3 hr ?y4 ?y5 ?y6 ?_
  (case y1 => exact rfl)
  (case y2 => k_asm)
  (case y3 => k_asm)
  (case y4 => exact small_one (by decide) (by decide) (by omega) (by omega))
  (case y5 => simp [Builtin.Range.rangeSize]; omega)
  (case y6 => rw [sizeLine_eq]; omega)
  intro g8
  refine restC_inv (fun i ys nw => ∃ a b ta tb, 0 ≤ a ∧ 0 ≤ b ∧ nw = [(src, srcOf a b ta tb nn0), (s₁.heap.objs.size + 1, oc)] ∧ ∃ us, IntsAre ys us ∧ us.length = i ∧ ∀ u ∈ us, 0 ≤ u ∧ u < 256) ⟨a1, b1, ta1, tb1, ha1, hb1, rfl, [], .nil, rfl, fun _ h => nomatch h⟩ ?_ ?_
  · rintro i ys nw v I oI C oC D m₂ h tk E' hi ⟨a, b, ta, tb, ha, hb, rfl, us, hus, hlen, hub⟩ hP hC hx Fh Nh off ne
    simp only [LCg.Off3, and_true] at off
    k_steps
    unfold Halt
    (rename Fr _ _ _ _ => F9); (rename News _ _ _ _ => N9)
    rename_i d9 t9 a9 b9 ta9 tb9 hm hr9 hs9
    refine LCg.CompEnd.intro F9 N9 [(src, srcOf a9 b9 ta9 tb9 nn0), (s₁.heap.objs.size + 1, oc)] ?_ ?_ trivial ⟨a9, b9, ta9, tb9, hr9, hs9, rfl, us ++ [d9], IntsAre.append hus (.cons _ _ .nil), by simp [hlen], fun u hu => ?_⟩
    · refine List.forall_mem_cons.mpr ⟨by k_mem, List.forall_mem_cons.mpr ⟨by k_mem, List.forall_mem_cons.mpr ⟨by k_mem, List.forall_mem_cons.mpr ⟨by k_mem, List.forall_mem_cons.mpr ⟨by k_mem, List.forall_mem_nil _⟩⟩⟩⟩⟩
    · exact ⟨off.1, off.2, trivial⟩
    · rcases List.mem_append.mp hu with hu | hu
      · exact hub u hu
      · obtain rfl := List.mem_singleton.mp hu
        simp only [List.mem_cons, List.not_mem_nil, or_false] at hm
        omega
  · rintro ys nw ⟨a2, b2, ta2, tb2, ha2, hb2, rfl, us, hus, hlen, hub⟩
    k_steps
    (rename Fr _ _ _ _ => F4); (rename News _ _ _ _ => N4)
    have N5 : News T.heap s₁.heap.objs.size _ [(src, srcOf a2 b2 ta2 tb2 nn0), (s₁.heap.objs.size + 1, oc)] := fun p hp => N4 p (.tail _ hp)
    clear N4
    have hrow : (byteArr us).size = many := by rw [← hlen]; simp [byteArr]
    generalize byteArr us = row at *
    clear hus hub hlen
    refine wpR_execs_leaf ?_
    k_fold
    k_steps
    unfold Halt
    refine LCg.ListComp_U (F₀ := by k_asm) (by rfl) (by decide) (by rfl) (by decide) (by rfl) ?_
    lcg_toSrc
    unfold Halt
    (rename IsRange _ _ _ _ _ _ _ _ => hr)
    refine' LCg.CompSrc.range (n := many) ?y1 ?y2 ?y3 hr ?y4 ?y5 ?y6 ?_
    (case y1 => exact rfl)
    (case y2 => k_asm)
    (case y3 => k_asm)
    (case y4 => exact small_one (by decide) (by decide) (by omega) (by omega))
    (case y5 => simp [Builtin.Range.rangeSize]; omega)
    (case y6 => rw [sizeLine_eq]; omega)
    intro g8
    refine restC_inv (fun i ys nw => ∃ a b ta tb, 0 ≤ a ∧ 0 ≤ b ∧ nw = [(src, srcOf a b ta tb nn0), (s₁.heap.objs.size + 1, oc)] ∧ ∃ us, IntsAre ys us ∧ us.length = i ∧ ∀ u ∈ us, 0 ≤ u ∧ u < 256) ⟨a2, b2, ta2, tb2, ha2, hb2, rfl, [], .nil, rfl, fun _ h => nomatch h⟩ ?_ ?_
    · rintro i ys nw v I oI C oC D m₂ h tk E' hi ⟨a, b, ta, tb, ha, hb, rfl, us, hus, hlen, hub⟩ hP hC hx Fh Nh off ne
      simp only [LCg.Off3, and_true] at off
      k_steps
      unfold Halt
      (rename Fr _ _ _ _ => F9); (rename News _ _ _ _ => N9)
      rename_i d9 t9 a9 b9 ta9 tb9 hm hr9 hs9
      refine LCg.CompEnd.intro F9 N9 [(src, srcOf a9 b9 ta9 tb9 nn0), (s₁.heap.objs.size + 1, oc)] ?_ ?_ trivial ⟨a9, b9, ta9, tb9, hr9, hs9, rfl, us ++ [d9], IntsAre.append hus (.cons _ _ .nil), by simp [hlen], fun u hu => ?_⟩
      · refine List.forall_mem_cons.mpr ⟨by k_mem, List.forall_mem_cons.mpr ⟨by k_mem, List.forall_mem_cons.mpr ⟨by k_mem, List.forall_mem_cons.mpr ⟨by k_mem, List.forall_mem_cons.mpr ⟨by k_mem, List.forall_mem_nil _⟩⟩⟩⟩⟩
      · exact ⟨off.1, off.2, trivial⟩
      · rcases List.mem_append.mp hu with hu | hu
        · exact hub u hu
        · obtain rfl := List.mem_singleton.mp hu
          simp only [List.mem_cons, List.not_mem_nil, or_false] at hm
          omega
    · rintro ys nw ⟨a, b, ta, tb, ha, hb, rfl, us, hus, hlen, hub⟩
      k_steps
      (rename Fr _ _ _ _ => F6); (rename News _ _ _ _ => N6)
      have habv : (byteArr us).size = many := by rw [← hlen]; simp [byteArr]
      generalize byteArr us = above at *
      clear hus hub hlen
      have hz : row.size = above.size := by rw [hrow, habv]
      have hz6 : row.size < 1000 := by rw [hrow]; omega
      have hst1 : 1 ≤ st ∧ st < 1000 := by
        simp only [List.mem_cons, List.not_mem_nil, or_false] at hst
        omega
      have N7 := News.none N6
      clear N6
      refine wpR_execs_leaf ?_
      k_fold
      k_steps
      refine wpR_execs_cons (wpR_For ?_)
      k_steps
      (rename IsRange _ _ _ _ _ _ _ _ => hr); (rename Fr _ _ _ _ => F8); (rename News _ _ _ _ => N8)
      refine rangeR (n := 5) (by rfl) hr (by decide) F8 N8 (fun i mm nx => ∃ (W : Addr) (tA tR : Tok), (∃ u : PySem.Str → Option Value, mm = fun y => if ([PySem.Str.ofString "kind", PySem.Str.ofString "due", PySem.Str.ofString "told"] : List PySem.Str).contains y then u y else
        if y = PySem.Str.ofString "weights" then some (.ref W) else if y = PySem.Str.ofString "above" then some (.bytes above tA) else if y = PySem.Str.ofString "row" then some (.bytes row tR) else if y = PySem.Str.ofString "many" then some (.int many t1) else if y = PySem.Str.ofString "step" then some (.int st ts) else if y = PySem.Str.ofString "script" then some (.ref q9) else none) ∧
        ∃ ws nw, nx = [(W, listOf ws.toArray nw)] ∧ IntsAre ws ((List.range i).map fun k => lawW row above st k)) ?_ ?_ ?_
      all_goals clear F8 N8
      · exact ⟨_, _, _, over_store fun y _ => rfl, [], 0, rfl, .nil⟩
      · rintro i t m₁ news₁ h tk1 own hi hoff ⟨W, tA, tR, ⟨u, rfl⟩, ws, nw, rfl, hws⟩ F₁ N₁
        simp only [List.cons_append, List.nil_append] at N₁
        have hno : ∀ p ∈ own, p.1 ≠ W := fun p hp => hoff p hp W (List.mem_cons_self ..)
        show wpAny _ _ _ _ _ _
        k_fold
        k_steps
        refine wpR_execs_cons (wpR_Assign (wpR_Call ?_))
        k_fold
        k_steps
        refine wpR_callWith (keeps_K (K := MineH.hd.heap_39 w.params) (by k_is)) ?_
        k_fold
        k_steps
        refine ConR.use (told_c _ _ _ _ _ _ _ _ _ _ (by omega) (by omega) hst1.1 hst1.2 hz hz6) K0 (by assumption) KX (by assumption) T rfl (by decide) (by decide) ?_
        rintro v9 h9 tk9 n9 ⟨l, us2, nn2, e9, en9, hus2, hl⟩ F9 N9
        subst e9
        subst en9
        k_steps
        refine wpR_execs_cons (wpR_Assign (wpR_Call ?_))
        k_fold
        k_steps
        refine wpR_callWith (keeps_K (K := MineH.hd.heap_39 w.params) (by k_is)) ?_
        k_fold
        k_steps
        refine ConR.use (filtered_c _ _ _ _ _ _ _ _ _ _ (by omega) (by omega) hst1.1 hst1.2 hz hz6) K0 (by assumption) KX (by assumption) T rfl (by decide) (by decide) ?_
        rintro v8 h8 tk8 n8 ⟨⟨t8, e8⟩, en8⟩ F8 N8
        subst e8
        subst en8
        k_steps
        refine wpR_execs_cons (wpR_If (wpR_isTrue_Or2 ?_))
        k_fold
        k_steps
        have hlW : W ≠ l := hl _ (.head _)
        have hlo : ∀ p ∈ own, p.1 ≠ l := fun p hp => hl p (.tail _ hp)
        refine wpR_isTrue_Compare (wpR_Call ?_)
        k_fold
        k_steps
        refine wpR_callWith (keeps_K (K := MineH.hd.heap_39 w.params) (by k_is)) ?_
        k_fold
        k_steps
        refine ConR.use (unfiltered_c _ _ _ _ _ _ _ _ _ _ (by omega) (by omega) hst1.1 hst1.2 (by rw [filtArr_size]; exact hz) (by rw [filtArr_size]; exact hz6)) K0 (by assumption) KX (by assumption) T rfl (by decide) (by decide) ?_
        rintro v7 h7 tk7 n7 ⟨⟨t7, e7⟩, en7⟩ F7 N7
        subst e7
        subst en7
        rw [unf_filt_all hst1.1]
        k_steps
        · rename_i hx
          exact absurd hx (by simp)
        refine wpR_any (wpAny_execs_nil ?_)
        dsimp only
        refine wpR_execs_leaf ?_
        k_fold
        k_steps
        unfold Halt
        refine' Con.use (lweight_c _ _ _ _ _ _ ?a0 ?a1 told_in) ?k1 ?k2 ?k3 ?k4 ?k5 ?kK ?kd ?ku ?_
        (case k1 => k_asm)
        (case k2 => k_asm)
        (case k3 => k_asm)
        (case k4 => first | k_asm | exact News.swap (by k_asm))
        (case k5 => k_asm)
        (case kK => exact rfl)
        (case kd => decide)
        (case ku => decide)
        (case a0 => assumption)
        (case a1 => (rw [told_len]; omega))
        rintro v6 h6 tk6 n6 ⟨⟨t6, e6⟩, en6⟩ F10 N10
        subst e6
        subst en6
        have N11 : News T.heap s₁.heap.objs.size h6 ((W, listOf ws.toArray nw) :: own) := fun p hp => N10 p (.tail _ (.tail _ hp))
        clear N10 N7 F7
        have hwl : ws.toArray.size ≤ 1000 := by
          have := hws.length
          simp at this
          simp; omega
        show wpAny _ _ _ _ _ _
        k_steps
        (rename Fr _ _ _ _ => F12); (rename News _ _ _ _ => N12)
        rw [List.push_toArray] at N12
        refine wpR_any (wpAny_execs_nil (InvEndG.intro F12 N12 (nx := [(W, listOf (ws ++ [Value.int (lawW row above st i) t6]).toArray (nw + 1))]) ?g1 (fun p hp => .tail _ hp) (fun p hp b hb => hoff p hp b (by simpa using hb)) ⟨W, tA, tR, over_store ?g2, ws ++ [Value.int (lawW row above st i) t6], nw + 1, rfl, ?g3⟩))
        case g1 =>
          intro p hp
          rcases List.mem_cons.mp hp with rfl | hp
          · exact .head _
          · exact nomatch hp
        case g2 =>
          intro y hy
          simp only [List.contains_cons, List.contains_nil, Bool.or_false, Bool.or_eq_false_iff, beq_eq_false_iff_ne, ne_eq] at hy
          simp [hy]
        case g3 =>
          rw [List.range_succ, List.map_append]
          exact IntsAre.append hws (.cons _ _ .nil)
      · rintro m₁ news₁ h tk ⟨W, tA, tR, ⟨u, rfl⟩, ws, nw, rfl, hws⟩ F₁ N₁
        dsimp only
        replace hws : IntsAre ws [lawW row above st 0, lawW row above st 1, lawW row above st 2, lawW row above st 3, lawW row above st 4] := hws
        obtain ⟨w0, w1, w2, w3, w4, rfl⟩ := ints5 hws
        generalize e0 : lawW row above st 0 = x0 at *
        generalize e1 : lawW row above st 1 = x1 at *
        generalize e2 : lawW row above st 2 = x2 at *
        generalize e3 : lawW row above st 3 = x3 at *
        generalize e4 : lawW row above st 4 = x4 at *
        clear hws
        have e0' : True → x0 = wt row above st 0 := fun _ => e0.symm.trans weight_told
        have e1' : True → x1 = wt row above st 1 := fun _ => e1.symm.trans weight_told
        have e2' : True → x2 = wt row above st 2 := fun _ => e2.symm.trans weight_told
        have e3' : True → x3 = wt row above st 3 := fun _ => e3.symm.trans weight_told
        have e4' : True → x4 = wt row above st 4 := fun _ => e4.symm.trans weight_told
        clear e0 e1 e2 e3 e4
        refine wpR_execs_leaf ?_
        k_fold
        k_steps
        (rename News _ _ _ _ => N13); (rename (_ = x0 ∨ _) => ha9); (rename (_ ≤ x0 ∧ _) => hb9)
        refine kf_index N13 (.head _) rfl (first_least (e0' trivial) (e1' trivial) (e2' trivial) (e3' trivial) (e4' trivial) ha9 hb9) rfl (by rw [sizeLine_eq]; exact Nat.le_of_ble_eq_true rfl) ?_
        clear ha9 hb9 e0' e1' e2' e3' e4'
        k_steps
        have hb4 := @bestK_le row above st 4
        refine wpR_execs_cons (wpR_If (wpR_isTrue_CompareRR (wpR_Call ?_)))
        k_fold
        k_steps
        refine wpR_callWith (keeps_K (K := MineH.hd.heap_39 w.params) (by k_is)) ?_
        k_fold
        k_steps
        refine ConR.use (best_filter_c _ _ _ _ _ _ _ _ hst1.1 hst1.2 hz hz6) K0 (by assumption) KX (by assumption) T rfl (by decide) (by decide) ?_
        rintro v7 h7 tk7 n7 ⟨T7, t7, u7, e7, en7, hT7⟩ F7 N7
        subst e7
        subst en7
        refine wpR_Tuple2 ?_
        k_fold
        k_steps
        refine wpR_Call ?_
        k_fold
        k_steps
        refine wpR_callWith1 (P := fun _ => True) (fun _ _ => ⟨_, .inr (.inl rfl), Looks.of_pure rfl⟩) ?_
        refine wpR_Call ?_
        k_fold
        k_steps
        refine wpR_callWith (keeps_K (K := MineH.hd.heap_39 w.params) (by k_is)) ?_
        k_fold
        k_steps
        refine ConR.use (told_c _ _ _ _ _ _ _ _ _ _ (by omega) (by omega) hst1.1 hst1.2 hz hz6) K0 (by assumption) KX (by assumption) T rfl (by decide) (by decide) ?_
        rintro v6 h6 tk6 n6 ⟨l6, us6, nn6, e6, en6, hus6, hl6⟩ F16 N16
        subst e6
        subst en6
        refine ⟨trivial, wpR_any ?_⟩
        have hkin : KBa.In (toldList (bestK row above st 4 : Nat) row above st row.size) := told_in
        refine KBa.make_K F16 N16 rfl ⟨_, (N16 _ (.head _)).1, rfl, nn6, rfl⟩ hus6 told_in (by rw [told_len]; omega) fun h5 t5 k5 F17 N17 _ => ?_
        rw [byteArr_told]
        show wpAny _ _ _ _ _ _
        k_steps
        refine wpR_any (wpAny_execs_nil ?_)
        dsimp only
        (rename Fr _ _ _ _ => F18); (rename News _ _ _ _ => N18)
        refine wpR_execs_cons (wpR_Try (wpX_execs_cons (wpX_Expr_raises (wpX_Call ?_))))
        k_fold
        k_steps
        refine wpX_callWith (keeps_K (K := MineH.hd.heap_39 w.params) (by k_is)) ?_
        k_fold
        k_steps
        refine ConEX.use (filtered5 _ _ _ _ _ _) K0 (by assumption) KX (by assumption) T rfl (by decide) (by decide) ?_
        intro v h9 tk9 H9
        refine note_held rfl rfl H9 fun h10 H10 => ?_
        refine land_held H10 fun h11 H11 => ?_
        refine handled5 KX T H11 rfl rfl fun e h12 ev H12 => ?_
        k_fold
        k_steps
        obtain ⟨e', a0, _, hfl, _⟩ := H12
        exact GoodW.toG ⟨.inl ⟨.bool true, .bool true, [], rfl, law_none _, .bool true, law_post _, unshared_nil⟩, hfl, rfl, hg⟩
end Mine

end
theorem PySem.Challenge.cw_nu0002_01_holds : PySem.Challenge.rw_nu0002_01.Holds :=
  Mine.law_holds
