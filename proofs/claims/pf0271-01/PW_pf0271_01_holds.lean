import PyProof.Rows.All
import Wide.All
import OpenK.AllK
import Wide.FinOn
import PySem.Challenge.RW_pf0271_01
open PySem PySem.W PyProof.Rows PySem.Calls
set_option Elab.async false
set_option maxRecDepth 100000
set_option compiler.extract_closed false
-- part P1
theorem Mine.anew_P1 : True ∧ True := by
  w_top off
  first | (walk1; all_goals trivial) | exact ⟨trivial, trivial⟩
section
namespace Mine

/-- the built-ins that may hold a bytearray on the stack -/
def heldIds : List String := ["bytearray.__contains__", "bytearray.__mod__", "bytearray.__rmod__", "_struct.pack_into.held", "bytearray.find.held"] ++ Builtin.Bytes.decodersThatHold
def okCode : Code → Bool
  | .builtin id _ => !heldIds.contains id
  | _ => true
def OkG (Γ : Ctx) : Prop := okCode Γ.code = true ∧ ∀ x ∈ Γ.below, okCode x.1 = true
def wpP {α : Type} (M : Model) (A : Around) (t : Sem α) (Q : α → Shared → Prop) (E : Value → Shared → Prop) (s : Shared) : Prop :=
  ∀ Γ p, Γ.In A → OkG Γ → Sem.wp M Γ t (fun a _ s' => Q a s') (fun e _ s' => E e s') p s
def codeP (M : Model) (A : Around) (c : Code) (R : Result → Shared → Prop) (s : Shared) : Prop :=
  ∀ Γ p, Γ.code = c → Γ.Below A → OkG Γ → wpCode M Γ R p s

section
variable {α β : Type} {M : Model} {A : Around} {E : Value → Shared → Prop} {s : Shared} {env : Env}
theorem OkG.enter {Γ : Ctx} (h : OkG Γ) {c : Code} (hc : okCode c = true) (hd : Option Value) (p : Pos) : OkG (Γ.enter c hd p) := by
  refine ⟨hc, fun x hx => ?_⟩
  rcases List.mem_cons.mp hx with rfl | hx
  · exact h.1
  · exact h.2 x hx
theorem OkG.goto {Γ : Ctx} (h : OkG Γ) {c : Code} (hc : okCode c = true) : OkG (Γ.goto c) := ⟨hc, h.2⟩

theorem wpP_any {t : Sem α} {Q : α → Shared → Prop} (h : wpAny M A t Q E s) : wpP M A t Q E s := fun Γ p hΓ _ => h Γ p hΓ
theorem wpP_pure {a : α} {Q : α → Shared → Prop} (h : Q a s) : wpP M A (pure a) Q E s := fun _ _ _ _ => h
theorem wpP_mono {t : Sem α} {Q Q' : α → Shared → Prop} {E' : Value → Shared → Prop} (h : wpP M A t Q E s)
    (hQ : ∀ a s, Q a s → Q' a s) (hE : ∀ e s, E e s → E' e s) : wpP M A t Q' E' s :=
  fun Γ p hΓ o => Sem.wp_mono M Γ t (fun a _ s => hQ a s) (fun e _ s => hE e s) p s (h Γ p hΓ o)
theorem wpP_bind {m : Sem α} {f : α → Sem β} {Q : β → Shared → Prop} (h : wpP M A m (fun a s' => wpP M A (f a) Q E s') E s) : wpP M A (m >>= f) Q E s := fun Γ p hΓ o => by
  rw [Sem.wp_bind']
  exact Sem.wp_mono M Γ m (fun a p' s' h' => h' Γ p' hΓ o) (fun _ _ _ h' => h') p s (h Γ p hΓ o)
theorem wpP_then {m : Sem α} {f : α → Sem β} {Q : β → Shared → Prop} (h : wpAny M A m (fun a s' => wpP M A (f a) Q E s') E s) : wpP M A (m >>= f) Q E s := wpP_bind (wpP_any h)
theorem wpP_map {m : Sem α} {f : α → β} {Q : β → Shared → Prop} (h : wpP M A m (fun a s' => Q (f a) s') E s) : wpP M A (f <$> m) Q E s := fun Γ p hΓ o => by
  rw [Sem.wp_map]; exact h Γ p hΓ o
theorem wpP_holding {vs : List Value} {m : Sem α} {Q : α → Shared → Prop} (h : wpP M A m Q E s) : wpP M A (holding vs m) Q E s := fun Γ p hΓ o => by
  rw [Sem.wp_holding]; exact h Γ p hΓ o
theorem wpP_keep {vs : List Value} {m : Sem α} {Q : α → Shared → Prop} (h : wpP M A m Q E s) : wpP M A (m.keep vs) Q E s := fun Γ p hΓ o => by
  rw [Sem.wp_keep]; exact h Γ p hΓ o
theorem wpP_onRaise {m : Sem α} {k : Value → Sem Unit} {Q : α → Shared → Prop}
    (h : wpP M A m Q (fun e s' => wpAny M A (k e) (fun _ s'' => E e s'') E s') s) : wpP M A (m.onRaise k) Q E s := fun Γ p hΓ o => by
  rw [Sem.wp_onRaise]
  exact Sem.wp_mono M Γ m (fun _ _ _ h' => h') (fun e p' s' h' => h' Γ p' hΓ) p s (h Γ p hΓ o)
theorem wpP_standAt {pos : Pos} {Q : Unit → Shared → Prop} (h : Q () s) : wpP M A (standAt pos) Q E s := fun _ _ _ _ => h
theorem wpP_point {Q : Unit → Shared → Prop} (h : Q () s) : wpP M A point Q E s := fun _ _ _ _ => h

theorem codeP_any {c : Code} {R : Result → Shared → Prop} (h : codeAny M A c R s) : codeP M A c R s := fun Γ p hc hΓ _ => h Γ p hc hΓ
theorem codeP_mono {c : Code} {R R' : Result → Shared → Prop} (h : codeP M A c R s) (hR : ∀ r s, R r s → R' r s) : codeP M A c R' s :=
  fun Γ p hc hΓ o => wpCode_mono hR (h Γ p hc hΓ o)
theorem wpP_run {c : Code} {Q : Flow → Shared → Prop} (ok : okCode c = true)
    (hc : codeP M A c (fun r s' => match r with | .ok f => Q f s' | .error e => E e s') s) : wpP M A (run c none) Q E s :=
  fun Γ p hΓ o => by
    rw [Sem.wp_run]
    have hb := hΓ.enter c none p (by intro x; cases x)
    exact hc _ p rfl hb (o.enter ok none p)
theorem wpP_call {f : Value} {pos : List Value} {kw : List (Str × Value)} {Q : Value → Shared → Prop}
    (hc : codeP M A (.call f ⟨pos, kw⟩) (fun r s' => match r with | .ok (.ret v) => Q v s' | .ok _ => False | .error e => E e s') s) : wpP M A (call f pos kw) Q E s :=
  fun Γ p hΓ o => by
    unfold PySem.call
    rw [Sem.wp_runValue]
    have hb := hΓ.enter (.call f ⟨pos, kw⟩) none p (by intro x; cases x)
    exact hc _ p rfl hb (o.enter rfl none p)
theorem codeP_of_tree {c : Code} {R : Result → Shared → Prop}
    (h : wpP M (A.under c) (M.den c) (fun fin s' => match fin with | .done f => R (.ok f) s' | .again c' => c'.quiet = true ∧ okCode c' = true ∧ codeP M A c' R s')
      (fun e s' => R (.error e) s') s) : codeP M A c R s := fun Γ p hc hΓ o => by
  rw [wpCode_iff_wp, hc]
  refine Sem.wp_mono M Γ _ (fun fin p' s' h' => ?_) (fun _ _ _ h' => h') p s (h Γ p (hc ▸ hΓ.in) o)
  cases fin with
  | done f => exact h'
  | again c' => exact ⟨h'.1, h'.2.2 (Γ.goto c') p' rfl (hΓ.goto c') (o.goto h'.2.1)⟩

theorem wpP_execs_cons {st : Stmt} {rest : List Stmt} {Q : Flow → Shared → Prop}
    (h : wpP M A (exec st env) (fun f s' => match f with | .next => wpP M A (execs rest env) Q E s' | f => Q f s') E s) : wpP M A (execs (st :: rest) env) Q E s := by
  rw [execs_cons]
  refine wpP_bind (wpP_mono h (fun f s' h' => ?_) fun _ _ x => x)
  cases f <;> first | exact h' | exact wpP_pure h'
theorem wpP_BinOp {l : PySem.Expr} {op : Operator} {r : PySem.Expr} {pos : Pos} {Q : Value → Shared → Prop}
    (h : wpP M A (eval l env) (fun a s₁ => wpP M A (eval r env) (fun b s₂ => wpAny M A (binaryOp op a b) Q E s₂) E s₁) E s) : wpP M A (eval (.BinOp l op r pos) env) Q E s := fun Γ p hΓ o => by
  simp only [eval_BinOp, Sem.wp_bind', Sem.wp_holding, Sem.wp_cmd_standAt, Sem.wp_operate]
  exact Sem.wp_mono M Γ _ (fun a p₁ s₁ h₁ => Sem.wp_mono M Γ _ (fun b _ s₂ h₂ => h₂ Γ _ hΓ) (fun _ _ _ h' => h') _ _ (h₁ Γ p₁ hΓ o)) (fun _ _ _ h' => h') _ _ (h Γ p hΓ o)
theorem wpP_Assign_Name {x : Str} {pos' : Pos} {value : PySem.Expr} {pos : Pos} {Q : Flow → Shared → Prop}
    (h : wpP M A (eval value env) (fun v s₁ => wpAny M A (storeName env x v) (fun _ => Q .next) E s₁) E s)
    (hs : swapsWith value (some (.Name x pos')) pos.line env = pure false := by rfl) : wpP M A (exec (.Assign [.Name x pos'] value pos) env) Q E s := fun Γ p hΓ o => by
  simp only [exec_Assign_Name env x pos' value pos hs, Sem.wp_bind', Sem.wp_cmd_standAt, Sem.wp_bindName, Sem.wp_pure']
  exact Sem.wp_mono M Γ _ (fun v _ s₁ h₁ => h₁ Γ _ hΓ) (fun _ _ _ h' => h') _ _ (h Γ _ hΓ o)
theorem wpP_If {test : PySem.Expr} {body orelse : List Stmt} {pos : Pos} {Q : Flow → Shared → Prop}
    (h : wpP M A (isTrue test env (eval test env)) (fun b s₂ => if b then wpP M A (execs body env) Q E s₂ else wpP M A (execs orelse env) Q E s₂) E s) :
    wpP M A (exec (.If test body orelse pos) env) Q E s := fun Γ p hΓ o => by
  simp only [exec_If, Sem.wp_bind', Sem.wp_cmd_standAt]
  refine Sem.wp_mono M Γ _ (fun b p₂ s₂ h₂ => ?_) (fun _ _ _ h' => h') _ _ (h Γ _ hΓ o)
  cases b <;> exact h₂ Γ p₂ hΓ o
theorem wpP_Return {e : PySem.Expr} {pos : Pos} {Q : Flow → Shared → Prop} (h : wpP M A (eval e env) (fun v => Q (.ret v)) E s) : wpP M A (exec (.Return (some e) pos) env) Q E s := fun Γ p hΓ o => by
  simp only [exec_Return_some, Sem.wp_bind', Sem.wp_cmd_standAt, Sem.wp_pure']; exact h Γ _ hΓ o
end
end Mine
end
-- part P2
theorem Mine.anew_P2 : True ∧ True := by
  w_top off
  first | (walk1; all_goals trivial) | exact ⟨trivial, trivial⟩
section
namespace Mine
section
variable {M : Model} {A : Around} {E : Value → Shared → Prop} {s : Shared} {K : Frag} {env : Env} {pos : Pos} {f : Value} {first : List Value} {Q : Value → Shared → Prop}
theorem wpP_Call {func : PySem.Expr} {args : List PySem.Expr}
    (h : wpAny M A (eval func env) (fun f s₁ => wpP M A (callWith pos f [] (backTo pos (starEach args env)) []) Q E s₁) E s)
    (he : eval (.Call func args [] pos) env = (do callWith pos (← eval func env) [] (backTo pos (starEach args env)) (backToKw pos (keywordEach [] env))) := by rfl) :
    wpP M A (eval (.Call func args [] pos) env) Q E s := by
  rw [he]; exact wpP_then h

theorem evalArgsP {x : Sem Value} {rest : List (Bool × Sem Value)} {Q : Args → Shared → Prop}
    (h : wpP M A (spliced ((false, x) :: rest)) (fun vs s' => Q ⟨vs, []⟩ s') E s) : wpP M A (evalArgs f true ((false, x) :: rest) []) Q E s := by
  unfold evalArgs
  show wpP M A (spliced ((false, x) :: rest) >>= _) Q E s
  refine wpP_bind (wpP_mono h (fun vs s' h' => ?_) fun _ _ x => x)
  refine wpP_holding ?_
  exact wpP_bind (wpP_pure (wpP_bind (wpP_pure (wpP_pure h'))))
theorem splicedP_cons {x : Sem Value} {rest : List (Bool × Sem Value)} {Q : List Value → Shared → Prop}
    (h : wpP M A x (fun v s₁ => wpP M A (spliced rest) (fun vs s₂ => Q (v :: vs) s₂) E s₁) E s) : wpP M A (spliced ((false, x) :: rest)) Q E s := by
  rw [spliced]
  refine wpP_bind (wpP_mono h (fun v s₁ h₁ => ?_) fun _ _ x => x)
  refine wpP_bind (wpP_pure ?_)
  exact wpP_bind (wpP_holding (wpP_mono h₁ (fun vs s₂ h₂ => wpP_pure h₂) fun _ _ x => x))
theorem callWithP_of {P : Heap → Prop} {args : List (Bool × Sem Value)} {keywords : List (Option Str × Sem Value)} (hplain : (args.any (·.1) || keywords.any (·.1.isNone)) = false)
    (hk : ∀ h, P h → ∃ k, (k = Keeper.frame ∨ k = Keeper.machine ∨ k = Keeper.boundFrame) ∧ Looks M h (keeperOf f) k)
    (h : wpP M A (evalArgs f true args keywords) (fun a s₁ => P s₁.heap ∧ wpP M A (call f (first ++ a.pos) a.kw) Q E s₁) E s) : wpP M A (callWith pos f first args keywords) Q E s := by
  unfold callWith
  refine wpP_bind (wpP_holding (wpP_mono h (fun a s₁ h₁ => wpP_bind (wpP_standAt ?_)) fun _ _ x => x))
  obtain ⟨k, hk', L⟩ := hk _ h₁.1
  simp only [hplain]
  refine wpP_then (L.here ?_)
  have tail : ∀ {t : Sem Value}, wpP M A t Q E s₁ → wpP M A (t >>= fun r => holding [r] point >>= fun _ => pure r) Q E s₁ :=
    fun ht => wpP_bind (wpP_mono ht (fun r s₂ hr => wpP_bind (wpP_holding (wpP_point (wpP_pure hr)))) fun _ _ x => x)
  have marked (mk : Value) : wpP M A (callMarked mk f (first ++ a.pos) a.kw) Q E s₁ := by unfold callMarked; exact wpP_keep h₁.2
  rcases hk' with rfl | rfl | rfl <;> dsimp only <;> first | exact tail h₁.2 | (split <;> first | exact tail h₁.2 | exact tail (marked _))
theorem callWithP_K {e : PySem.Expr} {rest : List PySem.Expr} (hk : keepIn K f = true)
    (h : wpP M A (spliced (backTo pos (starEach (e :: rest) env))) (fun vs s₁ => K.In s₁.heap ∧ wpP M A (call f (first ++ vs)) Q E s₁) E s)
    (he : starEach (e :: rest) env = (false, eval e env) :: starEach rest env := by rfl) (hplain : (backTo pos (starEach rest env)).any (·.1) = false := by rfl) :
    wpP M A (callWith pos f first (backTo pos (starEach (e :: rest) env)) []) Q E s := by
  rw [he] at h ⊢
  exact callWithP_of (by show ((false || (backTo pos (starEach rest env)).any (·.1)) || false) = false; rw [hplain]; rfl) (keeps_K hk) (evalArgsP h)
/-- a built-in or a built-in class -/
theorem callWithP_B {e : PySem.Expr} {rest : List PySem.Expr} (hk : keeperOf f = pure Keeper.machine)
    (h : wpP M A (spliced (backTo pos (starEach (e :: rest) env))) (fun vs s₁ => wpP M A (call f (first ++ vs)) Q E s₁) E s)
    (he : starEach (e :: rest) env = (false, eval e env) :: starEach rest env := by rfl) (hplain : (backTo pos (starEach rest env)).any (·.1) = false := by rfl) :
    wpP M A (callWith pos f first (backTo pos (starEach (e :: rest) env)) []) Q E s := by
  rw [he] at h ⊢
  exact callWithP_of (P := fun _ => True) (by show ((false || (backTo pos (starEach rest env)).any (·.1)) || false) = false; rw [hplain]; rfl)
    (fun h _ => ⟨_, .inr (.inl rfl), Looks.of_pure hk⟩) (evalArgsP (wpP_mono h (fun _ _ x => ⟨trivial, x⟩) fun _ _ x => x))
theorem argsP_cons {e : PySem.Expr} {rest : List PySem.Expr} {Q : List Value → Shared → Prop}
    (h : wpP M A (eval e env) (fun v s₁ => wpP M A (spliced (backTo pos (starEach rest env))) (fun vs s₂ => Q (v :: vs) s₂) E s₁) E s)
    (he : starEach (e :: rest) env = (false, eval e env) :: starEach rest env := by rfl) : wpP M A (spliced (backTo pos (starEach (e :: rest) env))) Q E s := by
  rw [he]; exact splicedP_cons h
end

section
variable {prog : Program} {w : World} {A : Around} {E : Value → Shared → Prop} {R : Result → Shared → Prop} {s : Shared}
theorem codeP_func {body : List Stmt} {env : Env}
    (h : wpP (model prog w) (A.deeper env) (execs body env) (fun f s' => R (.ok (.ret (match f with | .ret v => v | _ => .none))) s')
      (fun e s' => wpAny (model prog w) (A.deeper env) (leaving env e) (fun _ s'' => R (.error e) s'') (fun e' s'' => R (.error e') s'') s') s) :
    codeP (model prog w) A (.func body env) R s := by
  refine codeP_of_tree ?_
  show wpP _ (A.deeper env) (do point; match ← (execs body env).onRaise (leaving env) with | .ret v => ret v | _ => ret .none) _ _ s
  refine wpP_bind (wpP_point (wpP_bind (wpP_onRaise (wpP_mono h (fun f s' h' => ?_) fun _ _ h' => h'))))
  cases f <;> exact wpP_pure h'
theorem codeP_call_function {a : Addr} {args : Args} {o : Obj} {fd : FuncData} {body : List Stmt} (hroom : A.depth < recursionLimit) (ho : s.heap.get? a = some o)
    (hd' : o.data = .func fd) (hco : fd.scope.isCoroutine = false) (hgen : fd.scope.isGenerator = false) (hbody : fd.body = .stmts body) (hcd : s.heap.CodeRec fd.code fd.qualname)
    (h : wpAny (model prog w) A.in1 (bindArgs fd args) (fun binds s₁ =>
      wpAny (model prog w) A.in1 (newFunctionEnv fd.scope fd.globals fd.closure binds (fd.qualname ++ ".<locals>.") (some a) fd.code none fd.builtins)
        (fun env s₂ => s₂.heap.NoLimit ∧ codeP (model prog w) A (.func body env) R s₂) (fun e s' => R (.error e) s') s₁) (fun e s' => R (.error e) s') s) :
    codeP (model prog w) A (.call (.ref a) args) R s := by
  refine codeP_of_tree (wpP_any ?_)
  show wpAny _ A.in1 (callAny (.ref a) args) _ _ s
  simp only [callAny]
  refine wpAny_bind (wpAny_load ho ?_)
  obtain ⟨c, oc, vs, tq, hc, hoc, hdc, hq⟩ := hcd
  simp only [hd', callFunction, hco, hgen, hbody, hc]
  rw [hc] at h
  refine wpAny_bind (m := field (.ref c) 1) (wpAny_field hoc hdc hq (wpAny_bind (wpAny_pure ?_)))
  exact wpAny_bind (wpAny_mono h (fun binds s₁ h₁ => wpAny_bind (wpAny_mono h₁ (fun env s₂ h₂ => wpAny_bind (wpAny_enterFrame h₂.1 hroom
    (wpAny_pure ⟨rfl, rfl, h₂.2⟩))) fun _ _ h' => h')) fun _ _ h' => h')
theorem codeP_call_def {a : Addr} {o : Obj} {fd : FuncData} {body : List Stmt} {args : Args} {binds : List (Str × Value)}
    (hroom : A.depth < recursionLimit) (ho : s.heap.get? a = some o) (hdata : o.data = .func fd) (hlim : s.heap.NoLimit) (hcd : s.heap.CodeRec fd.code fd.qualname)
    (hbody : fd.body = .stmts body) (hbind : BindsTo s fd args binds)
    (hcell : ∀ x ∈ fd.scope.names, x.2 ≠ .cell) (hloc : ∀ x ∈ binds, fd.scope.names.lookup x.1 = some .local)
    (h : ∀ h₀, h₀.Ns s.heap.objs.size (fun x => binds.reverse.lookup x) → (∀ b o, s.heap.get? b = some o → h₀.get? b = some o) →
      wpP (model prog w) (A.deeper (callEnv fd s.heap.objs.size a)) (execs body (callEnv fd s.heap.objs.size a)) (fun f s' => R (.ok (.ret (match f with | .ret v => v | _ => .none))) s')
        (fun e s' => wpAny (model prog w) (A.deeper (callEnv fd s.heap.objs.size a)) (leaving (callEnv fd s.heap.objs.size a) e) (fun _ s'' => R (.error e) s'') (fun e' s'' => R (.error e') s'') s')
        { s with heap := h₀, toks := s.toks + binds.length })
    (hco : fd.scope.isCoroutine = false := by rfl) (hgen : fd.scope.isGenerator = false := by rfl) (hk : fd.scope.kind = .function := by rfl) :
    codeP (model prog w) A (.call (.ref a) args) R s := by
  refine codeP_call_function hroom ho hdata hco hgen hbody hcd (hbind _ _ _ _ ?_)
  refine wpAny_newFunctionEnv hcell hloc (fun h₀ hns₀ hsb₀ => ⟨hlim.fresh _ hsb₀, codeP_func (h h₀ hns₀ fun b o e => ?_)⟩) hk
  exact hsb₀.extBut b o (Nat.ne_of_lt (Heap.lt_size e)) (Heap.get?_push_of_some _ e)
end

section
variable {prog : Program} {w : World} {A A₀ : Around} {E : Value → Shared → Prop} {s : Shared} {K : Frag} {L : Addr} {h₀ base : Heap} {m mg mb : Str → Option Value} {news : List (Addr × Obj)} {p : Program} {loose : List Str} {mean : ExcName → Option Value}
/-- code_def, its body in wpP -/
theorem codeP_def {env : Env} {outer : List Env} {R : Result → Shared → Prop} {name qual : Str} {params : Arguments} {body : List Stmt} {scope : Scope} {dV kV doc pm cdv ct oc : Value} {an od : Option Addr} {osl : Array (Option Value)} {f : Addr} {args : Args} {binds : List (Str × Value)}
    (B : Below A₀ base outer h₀) (F : Fr h₀ L s.heap m) (X₀ : K.In h₀) (N : News h₀ L s.heap news) (T : Top p loose mean mg mb h₀) (hA : A.frames = some (env :: outer)) (hf : env.frame = some L) (hke : env.scope.kind = .function)
    (ho : K.lookup f = some ⟨oc, od, .func (fnOf name qual params body scope dV kV doc pm an cdv ct), osl⟩) (hcd : codeIn K cdv qual = true) (hroom : A.depth < recursionLimit)
    (hbind : BindsTo s (fnOf name qual params body scope dV kV doc pm an cdv ct) args binds) (hloc : ∀ y ∈ binds, scope.names.lookup y.1 = some .local)
    (h : ∀ g L' h₁, Fr h₀ L g m → Fr g L' h₁ (fun y => binds.reverse.lookup y) → News g L' h₁ news → Below A base (env :: outer) g → K.In g → Top p loose mean mg mb g → (∀ p ∈ news, p.1 < L') →
      wpP (model prog w) (A.deeper (envOf qual scope L' f cdv)) (execs body (envOf qual scope L' f cdv))
        (fun fl s' => LeaveK h₀ L m g R (match fl with | .ret v => v | _ => .none) s')
        (fun e s' => wpAny (model prog w) (A.deeper (envOf qual scope L' f cdv)) (leaving (envOf qual scope L' f cdv) e) (fun _ s'' => R (.error e) s'') (fun e' s'' => R (.error e') s'') s')
        { s with heap := h₁, toks := s.toks + binds.length })
    (hco : scope.isCoroutine = false) (hgen : scope.isGenerator = false) (hk : scope.kind = .function)
    (hcell : ∀ x ∈ scope.names, x.2 ≠ .cell) : codeP (model prog w) A (.call (.ref f) args) R s := by
  obtain ⟨FG, BG, st, lv⟩ := groundX (R := R) B F N hA hf hke
  refine codeP_call_def (fd := fnOf name qual params body scope dV kV doc pm an cdv ct) (body := body) (binds := binds) hroom ((X₀.keeps F.keep) _ _ ho) rfl (T.nolimit.keeps F.keep) (codeRec_of (X₀.keeps F.keep) hcd) rfl hbind hcell hloc (fun h₁ hns hk₁ => ?_) hco hgen hk
  exact wpP_mono (h _ s.heap.objs.size h₁ FG ⟨hns, fun b o e => hk₁ b o (of_hideAll _ e), Nat.le_of_eq (hideAll_size _ _)⟩
    (fun p hp => ⟨hk₁ _ _ (N p hp).1, Nat.ne_of_lt (Heap.lt_size (N p hp).1), hideAll_none _ (List.mem_map_of_mem hp)⟩) BG (X₀.keeps st) (T.keeps st) (fun p hp => Heap.lt_size (N p hp).1)) (fun fl s' hl => lv _ _ hl) fun _ _ y => y
end
end Mine
end
-- part P3
theorem Mine.anew_P3 : True ∧ True := by
  w_top off
  first | (walk1; all_goals trivial) | exact ⟨trivial, trivial⟩
section
namespace Mine
namespace BA
theorem mro : mroOf (.type "bytearray") = pure [.type "bytearray", .type "object"] := by rw [mroOf_type]; kernel_rfl
theorem lookup_new : typeLookup (.type "bytearray") "__new__" = pure (some (.builtin "bytearray.__new__")) := by rw [typeLookup_type, builtinLookup_eq_fast]; kernel_rfl
theorem slot_init : Slot "bytearray" "__init__" "bytearray.__init__" :=
  .of (owner := "bytearray") (n := "__init__") (by rw [typeLookup_type, builtinLookup_eq_fast]; kernel_rfl) (by decide +kernel) (by decide +kernel) (by decide +kernel)
    (by first | exact .inl (by decide +kernel) | exact .inr (by decide +kernel)) (by rw [isSubtype_type]; kernel_rfl)
theorem slot_set : Slot "bytearray" "__setitem__" "bytearray.__setitem__" :=
  .of (owner := "bytearray") (n := "__setitem__") (by rw [typeLookup_type, builtinLookup_eq_fast]; kernel_rfl) (by decide +kernel) (by decide +kernel) (by decide +kernel)
    (by first | exact .inl (by decide +kernel) | exact .inr (by decide +kernel)) (by rw [isSubtype_type]; kernel_rfl)
theorem called : TypeCalled "bytearray" "bytearray.__new__" "bytearray.__init__" :=
  ⟨by decide +kernel, by decide +kernel, ⟨_, _, mro⟩, madeBy_type mro lookup_new (by decide +kernel), by decide +kernel, by rw [isSubtype_type]; kernel_rfl, slot_init⟩
theorem typeCall (a : Value) : checkTypeCall "bytearray" ⟨[a], []⟩ = pure () := by kernel_rfl
theorem newCall (a : Value) : checkBuiltinCall "bytearray.__new__" ⟨[.type "bytearray", a], []⟩ = pure () := by kernel_rfl
theorem entry_new : entryFor table "bytearray.__new__" = some Builtin.«list.__new__» :=
  entryFor_alias (id' := "list.__new__") (by kernel_rfl) (by first | rfl | decide +kernel | (unfold String.splitOn; simp +decide [String.splitOnAux])) (by decide +kernel) (by kernel_rfl)
theorem plain_new : plainId "bytearray.__new__" = true := by decide +kernel
theorem entry_init : entryFor table "bytearray.__init__" = some Builtin.«bytearray.__init__» := by first | exact entryFor_of_fast (by kernel_rfl) | exact entryFor_of_tree (by kernel_rfl)
theorem plain_init : plainId "bytearray.__init__" = true := by decide +kernel
theorem args_init (a b : Value) : argsOk "bytearray.__init__" ⟨[a, b], []⟩ := by unfold argsOk; kernel_rfl
theorem entry_set : entryFor table "bytearray.__setitem__" = some Builtin.«bytearray.__setitem__» := by first | exact entryFor_of_fast (by kernel_rfl) | exact entryFor_of_tree (by kernel_rfl)
theorem args_set (a b c : Value) : argsOk "bytearray.__setitem__" ⟨[a, b, c], []⟩ := by unfold argsOk; kernel_rfl
theorem sub : isSubtype (.type "bytearray") (.type "bytearray") = pure true := by rw [isSubtype_type]; kernel_rfl
theorem look_release : typeLookup (.type "bytearray") "__release_buffer__" = pure (some (.builtin "bytearray.__release_buffer__")) := by rw [typeLookup_type, builtinLookup_eq_fast]; kernel_rfl
theorem look_buffer : typeLookup (.type "bytearray") "__buffer__" = pure (some (.builtin "bytearray.__buffer__")) := by rw [typeLookup_type, builtinLookup_eq_fast]; kernel_rfl
theorem look_bytes : typeLookup (.type "bytearray") "__bytes__" = pure none := by rw [typeLookup_type, builtinLookup_eq_fast]; kernel_rfl
theorem look_index : typeLookup (.type "bytearray") "__index__" = pure none := by rw [typeLookup_type, builtinLookup_eq_fast]; kernel_rfl
end BA
end Mine
end
-- part P4
theorem Mine.anew_P4 : True ∧ True := by
  w_top off
  first | (walk1; all_goals trivial) | exact ⟨trivial, trivial⟩
section
namespace Mine
abbrev baObj (b : Array UInt8) : Obj := { cls := .type "bytearray", data := .bytearray b }
set_option maxRecDepth 1000000 in
set_option maxHeartbeats 4000000 in
theorem owner_ba : ("bytearray.__new__".splitOn ".__new__").headD "" = "bytearray" := by simp +decide [String.splitOn, String.splitOnAux]

section
variable {prog : Program} {w : World} {A : Around} {E : Value → Shared → Prop} {s : Shared}
theorem code_ba_new (a : Value) {Q₁ : Value → Shared → Prop}
    (h : Q₁ (.ref s.heap.objs.size) { s with heap := s.heap.push (baObj #[]) }) :
    codeAny (model prog w) A (.call (.builtin "bytearray.__new__") ⟨[.type "bytearray", a], []⟩) (wants Q₁ E) s := by
  refine codeAny_of_tree ?_
  show wpAny _ A.in1 (do checkBuiltinCall "bytearray.__new__" ⟨[.type "bytearray", a], []⟩; again (.builtin "bytearray.__new__" ⟨[.type "bytearray", a], []⟩)) _ _ s
  refine wpAny_bind (wpAny_of_eq (BA.newCall a) (wpAny_pure ⟨plainId_quiet BA.plain_new _, codeAny_builtin_stack BA.entry_new rfl fun p st => ?_⟩))
  rw [Around.under_plainId BA.plain_new _]
  have hsub := BA.sub
  have hown := owner_ba
  obtain ⟨hp, g, d, tk, os⟩ := s
  simp only [hown]
  wp_walk
  exact h

theorem any_exported {self : Value} {l : List (Code × Pos)} (h : ∀ x ∈ l, okCode x.1 = true) : (l.any fun
    | (.builtin "bytearray.__contains__" ⟨v :: _, _⟩, _) | (.builtin "bytearray.__mod__" ⟨v :: _, _⟩, _)
    | (.builtin "bytearray.__rmod__" ⟨_ :: v :: _, _⟩, _) | (.builtin "_struct.pack_into.held" ⟨v :: _, _⟩, _) => Builtin.Bytes.sameRef v self
    | (.builtin "bytearray.find.held" ⟨_ :: _ :: held, _⟩, _) => held.any (Builtin.Bytes.sameRef self)
    | (.builtin id ⟨v :: _, _⟩, _) => Builtin.Bytes.sameRef v self && Builtin.Bytes.decodersThatHold.contains id
    | _ => false) = false := by
  rw [List.any_eq_false]
  intro x hx
  have ho := h x hx
  obtain ⟨c, p⟩ := x
  split
  · rename_i heq; cases heq; exact absurd ho (by show ¬ ((!heldIds.contains "bytearray.__contains__") = true); decide +kernel)
  · rename_i heq; cases heq; exact absurd ho (by show ¬ ((!heldIds.contains "bytearray.__mod__") = true); decide +kernel)
  · rename_i heq; cases heq; exact absurd ho (by show ¬ ((!heldIds.contains "bytearray.__rmod__") = true); decide +kernel)
  · rename_i heq; cases heq; exact absurd ho (by show ¬ ((!heldIds.contains "_struct.pack_into.held") = true); decide +kernel)
  · rename_i heq; cases heq; exact absurd ho (by show ¬ ((!heldIds.contains "bytearray.find.held") = true); decide +kernel)
  · rename_i heq
    cases heq
    simp only [okCode, heldIds, Bool.not_eq_true', List.contains_append, Bool.or_eq_false_iff] at ho
    rw [ho.2, Bool.and_false]
    exact Bool.false_ne_true
  · simp
theorem exportedP {self : Value} {Q : Bool → Shared → Prop} (h : Q false s) : wpP (model prog w) A (Builtin.Bytes.exported self) Q E s := fun Γ p _ o => by
  unfold Builtin.Bytes.exported
  unfold stack
  rw [Sem.wp_bind', Sem.wp_stack]
  have e := any_exported (self := self) (l := (Γ.code, p) :: Γ.below) (fun x hx => by
    rcases List.mem_cons.mp hx with rfl | hx
    · exact o.1
    · exact o.2 x hx)
  exact Eq.mpr (congrArg (fun b => Q b s) e) h
end
end Mine
end
-- part P5
theorem Mine.anew_P5 : True ∧ True := by
  w_top off
  first | (walk1; all_goals trivial) | exact ⟨trivial, trivial⟩
section
namespace Mine
section
variable {prog : Program} {w : World} {A : Around} {E : Value → Shared → Prop} {s : Shared}
theorem write_ba {b : Addr} {arr : Array UInt8} {f : Array UInt8 → Array UInt8} {Q : Unit → Shared → Prop} (hb : s.heap.get? b = some (baObj arr)) (hz : (f arr).size ≤ sizeLine)
    (h : ∀ h', h'.get? b = some (baObj (f arr)) → Heap.SameBut b s.heap h' → Q () { s with heap := h' }) : wpAny (model prog w) A (Builtin.Bytes.write (.ref b) f) Q E s := by
  show wpAny _ _ (updateBytearray b f) _ _ _
  unfold updateBytearray
  refine wpAny_bind (wpAny_load hb ?_)
  show wpAny _ _ (update b (Obj.mapBytearray f) >>= fun _ => lookBehind b) _ _ _
  refine wpAny_bind (wpAny_update hb ?_)
  have hb₂ : (s.heap.update b (Obj.mapBytearray f)).get? b = some (baObj (f arr)) := Heap.get?_update_self (Obj.mapBytearray f) hb rfl
  refine wpAny_lookBehind hb₂ ?_ (h _ hb₂ (Heap.SameBut.update ..))
  show (if (f arr).size > sizeLine then some "bytearray:memory" else none) = none
  rw [if_neg (Nat.not_lt.mpr hz)]
theorem ba_own {b : Addr} {arr : Array UInt8} {Q : Bool → Shared → Prop} (hb : s.heap.get? b = some (baObj arr)) (h : Q false s) : wpAny (model prog w) A (Builtin.Bytes.ownRelease (.ref b)) Q E s := by
  have hT : s.TypeIs (.ref b) "bytearray" := ⟨_, hb, rfl⟩
  unfold Builtin.Bytes.ownRelease Builtin.Bytes.slotIsOwn
  refine wpAny_bind (wpAny_bind (wpAny_specialOf hT BA.look_release ?_))
  show wpAny _ _ (if (!("bytearray.__release_buffer__" : String).endsWith ("." ++ "__release_buffer__")) = true then pure false else isInstance (.ref b) (.type (("bytearray.__release_buffer__" : String).dropRight (("__release_buffer__" : String).length + 1)))) _ _ _
  rw [if_neg (by decide +kernel)]
  rw [show ("bytearray.__release_buffer__" : String).dropRight (("__release_buffer__" : String).length + 1) = "bytearray" from by decide +kernel]
  exact wpAny_isInstance hT BA.sub (wpAny_pure h)
end
end Mine
end
-- part P6
theorem Mine.anew_P6 : True ∧ True := by
  w_top off
  first | (walk1; all_goals trivial) | exact ⟨trivial, trivial⟩
section
namespace Mine
theorem BA.bind (v : Value) : Builtin.Bytes.bindOptional "bytearray.__init__" "bytearray" ["source", "encoding", "errors"] [v] [] = pure [some v, none, none] := by kernel_rfl
section
variable {prog : Program} {w : World} {A : Around} {E : Value → Shared → Prop} {s : Shared}
theorem any_no {α : Type} {M : Model} {c : Prop} [Decidable c] {a b : Sem α} {Q : α → Shared → Prop} (hc : ¬ c) (h : wpAny M A b Q E s) : wpAny M A (if c then a else b) Q E s := by rw [if_neg hc]; exact h
theorem any_yes {α : Type} {M : Model} {c : Prop} [Decidable c] {a b : Sem α} {Q : α → Shared → Prop} (hc : c) (h : wpAny M A a Q E s) : wpAny M A (if c then a else b) Q E s := by rw [if_pos hc]; exact h
theorem wpP_no {α : Type} {M : Model} {c : Prop} [Decidable c] {a b : Sem α} {Q : α → Shared → Prop} (hc : ¬ c) (h : wpP M A b Q E s) : wpP M A (if c then a else b) Q E s := by rw [if_neg hc]; exact h
theorem ba_init {b : Addr} {n : Int} {t : Tok} {Q : Fin → Shared → Prop} (hb : s.heap.get? b = some (baObj #[])) (h0 : 0 ≤ n) (hn : n ≤ 1048576)
    (h : ∀ h', h'.get? b = some (baObj (Array.replicate n.toNat 0)) → (∀ y o, y ≠ b → s.heap.get? y = some o → h'.get? y = some o) → Q (.done (.ret .none)) { s with heap := h' }) :
    wpP (model prog w) A (Builtin.«bytearray.__init__» ⟨[.ref b, .int n t], []⟩) Q E s := by
  unfold Builtin.«bytearray.__init__»
  show wpP _ _ (Builtin.Bytes.ownRelease (.ref b) >>= fun r => _) _ _ _
  refine wpP_then (ba_own hb ?_)
  refine wpP_no Bool.false_ne_true ?_
  refine wpP_then (wpAny_of_eq (BA.bind _) ?_)
  refine wpP_then (wpAny_of_eq (a := ()) rfl ?_)
  refine wpP_then (wpAny_of_eq (a := ()) rfl ?_)
  refine wpP_bind ?_
  show wpP _ _ (Builtin.Bytes.exported (Value.ref b) >>= fun r => _) _ _ _
  refine wpP_bind (exportedP ?_)
  refine wpP_any ?_
  show wpAny _ _ (Builtin.Bytes.exportsOf (Value.ref b) >>= fun r => pure _) _ _ _
  refine wpAny_bind ?_
  unfold Builtin.Bytes.exportsOf
  refine wpAny_bind (wpAny_load hb (wpAny_pure (wpAny_pure ?_)))
  refine wpP_no (by decide) (wpP_any ?_)
  refine wpAny_bind (write_ba hb (Nat.zero_le _) fun h₁ hb₁ hs₁ => ?_)
  dsimp only
  refine wpAny_bind (wpAny_of_eq (a := none) rfl ?_)
  refine any_no (by decide) ?_
  refine wpAny_bind (wpAny_of_eq (a := ()) rfl ?_)
  refine wpAny_bind (wpAny_specialOf (T := "int") (typeIs_int _ _ _) F.slot_int_index.lookup ?_)
  refine any_yes rfl ?_
  refine wpAny_bind (wpAny_attempt (wpAny_of_eq (rfl : asIndex (.int n t) = pure n) ?_))
  dsimp only
  have hf : Builtin.Bytes.fitsIndex n = true := by
    unfold Builtin.Bytes.fitsIndex
    simp only [Bool.and_eq_true, decide_eq_true_eq]
    omega
  refine any_no (by rw [hf]; decide) ?_
  refine any_no (by omega) ?_
  refine any_no (by simp only [beq_iff_eq]; omega) ?_
  refine any_no (by rw [KBy.tooLong_not (by omega)]; exact Bool.false_ne_true) ?_
  refine wpAny_bind (wpAny_rule ?_)
  by_cases hp : n > 0
  · refine any_yes hp ?_
    refine wpAny_bind (write_ba hb₁ (by rw [Array.size_replicate, sizeLine_eq]; omega) fun h₂ hb₂ hs₂ => ?_)
    exact wpAny_pure (h h₂ hb₂ fun y o hy e => (hs₂.2 y hy).trans ((hs₁.2 y hy).trans e))
  · refine any_no hp ?_
    have : n.toNat = 0 := by omega
    rw [this] at h
    exact wpAny_pure (h h₁ hb₁ fun y o hy e => (hs₁.2 y hy).trans e)
end
end Mine
end
-- part P7
theorem Mine.anew_P7 : True ∧ True := by
  w_top off
  first | (walk1; all_goals trivial) | exact ⟨trivial, trivial⟩
section
namespace Mine
section
variable {prog : Program} {w : World} {A : Around} {E : Value → Shared → Prop} {s : Shared}
theorem codeP_builtin {id : String} {args : Args} {b : Builtin} {R : Result → Shared → Prop} (hb : entryFor table id = some b)
    (h : wpP (model prog w) (A.under (.builtin id args)) (b args)
      (fun fin s' => match fin with | .done f => R (.ok f) s' | .again c' => c'.quiet = true ∧ okCode c' = true ∧ codeP (model prog w) A c' R s') (fun e s' => R (.error e) s') s) :
    codeP (model prog w) A (.builtin id args) R s := by
  refine codeP_of_tree ?_
  show wpP _ _ (match entryFor table id with | some b => b args | none => unsupported ((withoutEnding? id "#data").getD id)) _ _ s
  rw [hb]; exact h
theorem okType (args : Args) : okCode (.builtin "type.__call__" args) = true := by show (!heldIds.contains "type.__call__") = true; decide +kernel
theorem okInit (args : Args) : okCode (.builtin "bytearray.__init__" args) = true := by show (!heldIds.contains "bytearray.__init__") = true; decide +kernel
set_option maxHeartbeats 4000000 in
theorem call_ba {n : Int} {t : Tok} {Q : Value → Shared → Prop} (h0 : 0 ≤ n) (hn : n ≤ 1048576)
    (h : ∀ h', h'.get? s.heap.objs.size = some (baObj (Array.replicate n.toNat 0)) → (∀ y o, s.heap.get? y = some o → h'.get? y = some o) → Q (.ref s.heap.objs.size) { s with heap := h' }) :
    wpP (model prog w) A (call (.type "bytearray") [.int n t]) Q E s := by
  refine wpP_call (codeP_of_tree ?_)
  show wpP _ _ (callAny (.type "bytearray") _) _ _ _
  refine wpP_pure ⟨Code.quiet_builtin _ (by decide +kernel), okType _, codeP_builtin F.entry_type_call ?_⟩
  rw [Around.under_plain (weight_type_call_type _ _ []) rfl]
  unfold Builtin.«type.__call__»
  dsimp only
  refine wpP_no (by rw [BA.called.notType]; exact Bool.false_ne_true) ?_
  have h2 := BA.called.canCreate
  refine wpP_no (by rw [h2]; exact Bool.false_ne_true) ?_
  refine wpP_then (wpAny_of_eq (BA.typeCall _) ?_)
  refine wpP_then (wpAny_of_eq BA.mro ?_)
  refine wpP_no (by decide) ?_
  refine wpP_then (wpAny_of_eq BA.called.made ?_)
  dsimp only
  refine wpP_then (wpAny_of_eq (a := Value.builtin "bytearray.__new__") rfl ?_)
  refine wpP_then (wpAny_holding (wpAny_call ?_))
  refine codeAny_mono (code_ba_new (E := E) (Q₁ := fun obj s₁ => obj = .ref s.heap.objs.size ∧ s₁ = { s with heap := s.heap.push (baObj #[]) }) _ ⟨rfl, rfl⟩) fun r s₁ hr => ?_
  cases r with
  | error e => exact hr
  | ok fl =>
    cases fl with
    | ret obj =>
      obtain ⟨rfl, rfl⟩ := hr
      have hb : (s.heap.push (baObj #[])).get? s.heap.objs.size = some (baObj #[]) := Heap.get?_push_size _ rfl
      have hT : ({ s with heap := s.heap.push (baObj #[]) } : Shared).TypeIs (.ref s.heap.objs.size) "bytearray" := ⟨_, hb, rfl⟩
      show wpP _ _ _ _ _ _
      refine wpP_then (wpAny_isInstance hT BA.sub ?_)
      refine wpP_no (by decide) ?_
      refine wpP_bind (wpP_holding ?_)
      simp only [callSpecial?]
      refine wpP_then (wpAny_specialOf hT BA.slot_init.lookup ?_)
      simp only [BA.slot_init.bind]
      refine wpP_holding (wpP_then (wpAny_pure ?_))
      refine wpP_bind (wpP_call (codeP_of_tree ?_))
      show wpP _ A.in1.in1 (do checkBuiltinCall "bytearray.__init__" _; again (.builtin "bytearray.__init__" _)) _ _ _
      refine wpP_then (BA.slot_init.check _ _ _ _ _ _ _ _ hT (BA.args_init _ _) ?_)
      refine wpP_pure ⟨plainId_quiet BA.plain_init _, okInit _, codeP_builtin BA.entry_init ?_⟩
      refine ba_init hb h0 hn fun h' hb' hk => ?_
      show wpP _ _ (pure _) _ _ _
      refine wpP_pure ?_
      show wpP _ _ (if _ then _ else _) _ _ _
      refine wpP_no (by decide) ?_
      exact wpP_pure (h h' hb' fun y o e => hk y o (Nat.ne_of_lt (Heap.lt_size e)) (Heap.get?_push_of_some _ e))
    | _ => exact hr.elim
theorem ba_P {n : Int} {t : Tok} {h₀ : Heap} {L : Addr} {m : Str → Option Value} {news : List (Addr × Obj)} {Q : Value → Shared → Prop} (F : Fr h₀ L s.heap m) (N : News h₀ L s.heap news) (h0 : 0 ≤ n) (hn : n ≤ 1048576)
    (h : ∀ b h', Fr h₀ L h' m → News h₀ L h' ((b, baObj (Array.replicate n.toNat 0)) :: news) → (∀ p ∈ news, p.1 < b) → Q (.ref b) { s with heap := h' }) :
    wpP (model prog w) A (call (.type "bytearray") [.int n t]) Q E s := by
  refine call_ba h0 hn fun h' hb hk => ?_
  refine h _ h' ?_ (fun p hp => ?_) fun p hp => Heap.lt_size (N p hp).1
  · obtain ⟨oL, es, ep, hL, r⟩ := F.ns
    exact ⟨⟨oL, es, ep, hk _ _ hL, r⟩, fun b o e => hk b o (F.keep b o e), F.above⟩
  · rcases List.mem_cons.mp hp with rfl | hp
    · obtain ⟨oL, es, ep, hL, r⟩ := F.ns
      refine ⟨hb, fun e => absurd (Heap.lt_size hL) (by rw [← e]; exact Nat.lt_irrefl _), ?_⟩
      cases z : h₀.get? s.heap.objs.size with
      | none => rfl
      | some o => exact absurd (Heap.lt_size (F.keep _ _ z)) (Nat.lt_irrefl _)
    · exact ⟨hk _ _ (N p hp).1, (N p hp).2⟩
end
end Mine
end
-- part P8
theorem Mine.anew_P8 : True ∧ True := by
  w_top off
  first | (walk1; all_goals trivial) | exact ⟨trivial, trivial⟩
section
namespace Mine
section
variable {prog : Program} {w : World} {A : Around} {E : Value → Shared → Prop} {s : Shared}
/-- bytes(n) -/
theorem bytesN_new {n : Int} {t : Tok} {Q : Value → Shared → Prop} (h0 : 0 ≤ n) (hn : n ≤ 1048576)
    (hQ : Q (.bytes (Array.replicate n.toNat 0) s.toks) { s with toks := s.toks + 1 }) :
    codeAny (model prog w) A (.call (.builtin "bytes.__new__") ⟨[.type "bytes", .int n t], []⟩) (wants Q E) s := by
  refine codeAny_of_tree ?_
  show wpAny _ A.in1 (do checkBuiltinCall "bytes.__new__" ⟨[.type "bytes", .int n t], []⟩; again (.builtin "bytes.__new__" ⟨[.type "bytes", .int n t], []⟩)) _ _ s
  refine wpAny_bind (wpAny_of_eq (F.bm_newCall _) (wpAny_pure ⟨plainId_quiet F.bm_plain _, codeAny_builtin F.bm_entry ?_⟩))
  rw [Around.under_plainId F.bm_plain _]
  unfold Builtin.«bytes.__new__»
  refine wpAny_bind (wpAny_of_eq (a := true) rfl ?_)
  refine any_no (by decide) ?_
  refine wpAny_bind (wpAny_of_eq F.bm_sub ?_)
  refine any_no (by decide) ?_
  refine wpAny_bind (wpAny_of_eq (F.bm_bind _) ?_)
  refine wpAny_bind (wpAny_of_eq (a := ()) rfl ?_)
  refine wpAny_bind (wpAny_of_eq (a := ()) rfl ?_)
  refine any_no (by decide) ?_
  refine wpAny_bind (wpAny_specialOf (T := "int") (typeIs_int _ _ _) (show typeLookup (.type "int") "__bytes__" = pure none by rw [typeLookup_type, builtinLookup_eq_fast]; kernel_rfl) ?_)
  dsimp only
  refine wpAny_bind (wpAny_of_eq (a := false) rfl ?_)
  refine any_no (by decide) ?_
  refine wpAny_bind (wpAny_specialOf (T := "int") (typeIs_int _ _ _) F.slot_int_index.lookup ?_)
  refine any_no (by decide) ?_
  refine wpAny_bind (wpAny_attempt (wpAny_of_eq (rfl : asIndex (.int n t) = pure n) ?_))
  dsimp only
  have hf : Builtin.Bytes.fitsIndex n = true := by
    unfold Builtin.Bytes.fitsIndex
    simp only [Bool.and_eq_true, decide_eq_true_eq]
    omega
  refine any_no (by rw [hf]; decide) ?_
  refine any_no (by omega) ?_
  refine any_no (by omega) ?_
  refine any_no (by rw [KBy.tooLong_not (by omega)]; exact Bool.false_ne_true) ?_
  refine wpAny_bind (wpAny_rule ?_)
  refine wpAny_bind (wpAny_mkBytes ?_ (by rw [Array.size_replicate, sizeLine_eq]; omega))
  show wpAny _ _ (if (Value.type "bytes" == Value.type "bytes") = true then _ else _) _ _ _
  refine any_yes (by decide) ?_
  first
    | exact wpAny_pure hQ
    | exact wpAny_bind (wpAny_pure (wpAny_pure hQ))
theorem call_bytesN {n : Int} {t : Tok} {Q : Value → Shared → Prop} (h0 : 0 ≤ n) (hn : n ≤ 1048576)
    (hQ : Q (.bytes (Array.replicate n.toNat 0) s.toks) { s with toks := s.toks + 1 }) : wpAny (model prog w) A (call (.type "bytes") [.int n t]) Q E s := by
  refine callType_codes (Q₁ := fun obj s₁ => s₁.TypeIs obj "bytes" ∧ Q obj s₁) F.bm_called (F.bm_typeCall _) F.entry_object_init
    (bytesN_new h0 hn ⟨PySem.W.typeIs_bytes _ _ _, hQ⟩) fun obj s₁ h₁ => ?_
  exact ⟨h₁.1, F.args_object_init_2 obj _, object_init_meets F.bm_called.init.lookup F.bm_called.made (by decide) prog w A.in1 _ s₁ ⟨h₁.1, rfl, h₁.2⟩⟩

/-- bytes(bytearray) -/
theorem ba_own_buffer {b : Addr} {arr : Array UInt8} {Q : Bool → Shared → Prop} (hb : s.heap.get? b = some (baObj arr)) (h : Q true s) : wpAny (model prog w) A (Builtin.Bytes.slotIsOwn (.ref b) "__buffer__") Q E s := by
  have hT : s.TypeIs (.ref b) "bytearray" := ⟨_, hb, rfl⟩
  unfold Builtin.Bytes.slotIsOwn
  refine wpAny_bind (wpAny_specialOf hT BA.look_buffer ?_)
  show wpAny _ _ (if (!("bytearray.__buffer__" : String).endsWith ("." ++ "__buffer__")) = true then pure false else isInstance (.ref b) (.type (("bytearray.__buffer__" : String).dropRight (("__buffer__" : String).length + 1)))) _ _ _
  rw [if_neg (by decide +kernel)]
  rw [show ("bytearray.__buffer__" : String).dropRight (("__buffer__" : String).length + 1) = "bytearray" from by decide +kernel]
  exact wpAny_isInstance hT BA.sub h
theorem ba_payload {b : Addr} {arr : Array UInt8} {Q : Array UInt8 → Shared → Prop} (hb : s.heap.get? b = some (baObj arr)) (h : Q arr s) : wpAny (model prog w) A (Builtin.Bytes.payload (.ref b)) Q E s := by
  unfold Builtin.Bytes.payload Builtin.Bytes.payload?
  refine wpAny_bind (wpAny_bind (wpAny_load hb ?_))
  exact wpAny_pure (wpAny_pure h)
theorem bytesB_new {b : Addr} {arr : Array UInt8} {Q : Value → Shared → Prop} (hb : s.heap.get? b = some (baObj arr)) (hz : arr.size ≤ sizeLine)
    (hQ : Q (.bytes arr s.toks) { s with toks := s.toks + 1 }) :
    codeAny (model prog w) A (.call (.builtin "bytes.__new__") ⟨[.type "bytes", .ref b], []⟩) (wants Q E) s := by
  have hT : s.TypeIs (.ref b) "bytearray" := ⟨_, hb, rfl⟩
  refine codeAny_of_tree ?_
  show wpAny _ A.in1 (do checkBuiltinCall "bytes.__new__" ⟨[.type "bytes", .ref b], []⟩; again (.builtin "bytes.__new__" ⟨[.type "bytes", .ref b], []⟩)) _ _ s
  refine wpAny_bind (wpAny_of_eq (F.bm_newCall _) (wpAny_pure ⟨plainId_quiet F.bm_plain _, codeAny_builtin F.bm_entry ?_⟩))
  rw [Around.under_plainId F.bm_plain _]
  unfold Builtin.«bytes.__new__»
  refine wpAny_bind (wpAny_of_eq (a := true) rfl ?_)
  refine any_no (by decide) ?_
  refine wpAny_bind (wpAny_of_eq F.bm_sub ?_)
  refine any_no (by decide) ?_
  refine wpAny_bind (wpAny_of_eq (F.bm_bind _) ?_)
  refine wpAny_bind (wpAny_of_eq (a := ()) rfl ?_)
  refine wpAny_bind (wpAny_of_eq (a := ()) rfl ?_)
  refine any_no (by decide) ?_
  refine wpAny_bind (wpAny_specialOf hT BA.look_bytes ?_)
  dsimp only
  refine wpAny_bind (wpAny_bind ?_)
  show wpAny _ _ (load b >>= _) _ _ _
  refine wpAny_bind (wpAny_load hb ?_)
  refine wpAny_pure (wpAny_pure ?_)
  refine any_no (by decide) ?_
  refine wpAny_bind (wpAny_specialOf hT BA.look_index ?_)
  refine any_yes rfl ?_
  first
    | show wpAny _ _ (Builtin.Bytes.buffer? "bytes.__new__" (.ref b) true >>= _) _ _ _
    | (refine wpAny_bind ?_; show wpAny _ _ (Builtin.Bytes.buffer? "bytes.__new__" (.ref b) true >>= _) _ _ _)
  refine wpAny_bind ?_
  unfold Builtin.Bytes.buffer?
  refine wpAny_bind (wpAny_specialOf hT BA.look_buffer ?_)
  dsimp only
  refine wpAny_bind (ba_own_buffer hb ?_)
  refine any_no (by decide) ?_
  refine wpAny_bind (wpAny_specialOf hT BA.look_buffer ?_)
  show wpAny _ _ (Builtin.Bytes.ownRelease (.ref b) >>= _) _ _ _
  refine wpAny_bind (ba_own hb ?_)
  refine any_no (by decide) ?_
  refine wpAny_bind (ba_payload hb ?_)
  refine wpAny_pure ?_
  refine wpAny_bind (wpAny_rule ?_)
  refine wpAny_bind (wpAny_mkBytes ?_ hz)
  show wpAny _ _ (if (Value.type "bytes" == Value.type "bytes") = true then _ else _) _ _ _
  first
    | exact any_yes (by decide) (wpAny_pure hQ)
    | exact any_yes (by decide) (wpAny_bind (wpAny_pure (wpAny_pure hQ)))
    | exact any_yes (by decide) (wpAny_pure (wpAny_pure hQ))
theorem call_bytesB {b : Addr} {arr : Array UInt8} {Q : Value → Shared → Prop} (hb : s.heap.get? b = some (baObj arr)) (hz : arr.size ≤ sizeLine)
    (hQ : Q (.bytes arr s.toks) { s with toks := s.toks + 1 }) : wpAny (model prog w) A (call (.type "bytes") [.ref b]) Q E s := by
  refine callType_codes (Q₁ := fun obj s₁ => s₁.TypeIs obj "bytes" ∧ Q obj s₁) F.bm_called (F.bm_typeCall _) F.entry_object_init
    (bytesB_new hb hz ⟨PySem.W.typeIs_bytes _ _ _, hQ⟩) fun obj s₁ h₁ => ?_
  exact ⟨h₁.1, F.args_object_init_2 obj _, object_init_meets F.bm_called.init.lookup F.bm_called.made (by decide) prog w A.in1 _ s₁ ⟨h₁.1, rfl, h₁.2⟩⟩

/-- b[k] = v -/
theorem set_ba {b : Addr} {arr : Array UInt8} {k v : Int} {t u : Tok} {Q : Unit → Shared → Prop} (hb : s.heap.get? b = some (baObj arr)) (h0 : 0 ≤ k) (h1 : k < arr.size) (hz : arr.size ≤ 1048576) (v0 : 0 ≤ v) (v1 : v < 256)
    (h : ∀ h', h'.get? b = some (baObj (arr.setIfInBounds k.toNat v.toNat.toUInt8)) → Heap.SameBut b s.heap h' → Q () { s with heap := h' }) :
    wpAny (model prog w) A (setItem (.ref b) (.int k t) (.int v u)) Q E s := by
  have hT : s.TypeIs (.ref b) "bytearray" := ⟨_, hb, rfl⟩
  unfold setItem
  try with_reducible refine wpAny_holding ?_
  first | refine wpAny_bind (wpAny_pure ?_) | skip
  refine wpAny_bind (wpAny_sequenceKey hT (by decide) ?_)
  refine wpAny_bind (wpAny_callSpecial?_slot (name := Str.ofString "__setitem__") hT BA.slot_set
    (wpAny_call_entry BA.slot_set hT BA.entry_set ?_ (BA.args_set _ _ _)))
  show wpAny _ _ (Builtin.Bytes.subscript? (.int k t) >>= _) _ _ s
  refine wpAny_bind ?_
  unfold Builtin.Bytes.subscript?
  refine wpAny_bind (wpAny_specialOf (T := "int") (typeIs_int _ _ _) F.slot_int_index.lookup ?_)
  refine any_no (by decide) ?_
  refine wpAny_bind (wpAny_of_eq (rfl : asIndex (.int k t) = pure k) ?_)
  have hf : Builtin.Bytes.fitsIndex k = true := by
    unfold Builtin.Bytes.fitsIndex
    simp only [Bool.and_eq_true, decide_eq_true_eq]
    omega
  refine any_no (by rw [hf]; decide) (wpAny_pure ?_)
  dsimp only
  refine wpAny_bind ?_
  unfold Builtin.Bytes.byteValue
  refine wpAny_bind (wpAny_of_eq (rfl : asIndex (.int v u) = pure v) ?_)
  refine any_no (by simp only [Bool.or_eq_true, decide_eq_true_eq]; omega) (wpAny_pure ?_)
  refine wpAny_bind (ba_payload hb ?_)
  obtain ⟨j, rfl⟩ := Int.eq_ofNat_of_zero_le h0
  have hj : seqIndex? (j : Int) arr.size = some j := by
    unfold seqIndex?
    rw [if_neg (show ¬ ((j : Int) < 0) by omega), if_pos (by simp only [Bool.and_eq_true, decide_eq_true_eq]; omega), Int.toNat_natCast]
  rw [hj]
  dsimp only
  refine wpAny_bind (write_ba hb (by rw [Array.size_setIfInBounds, sizeLine_eq]; omega) fun h' hb' hs' => ?_)
  first
    | exact wpAny_bind (wpAny_pure (wpAny_pure ⟨.none, rfl, wpAny_pure (h h' hb' hs')⟩))
    | exact wpAny_pure ⟨.none, rfl, wpAny_pure (h h' hb' hs')⟩
    | exact wpAny_pure ⟨.none, rfl, h h' hb' hs'⟩
end
end Mine
end
-- part P9
theorem Mine.anew_P9 : True ∧ True := by
  w_top off
  first | (walk1; all_goals trivial) | exact ⟨trivial, trivial⟩
section
namespace Mine
/-- the end of a body: its own frame, the kept ledger, a word of the value -/
def EndS (g : Heap) (L' : Addr) (keep : List (Addr × Obj)) (P : Value → Prop) (s₀ : Shared) (v : Value) (s' : Shared) : Prop :=
  ∃ m' h tk, s' = { s₀ with heap := h, toks := tk } ∧ Fr g L' h m' ∧ News g L' h keep ∧ P v
theorem EndS.intro {g h : Heap} {L' : Addr} {keep news' : List (Addr × Obj)} {P : Value → Prop} {s₀ : Shared} {v : Value} {m' : Str → Option Value} {tk : Nat}
    (F : Fr g L' h m') (N : News g L' h news') (S : ∀ p ∈ keep, p ∈ news') (hP : P v) : EndS g L' keep P s₀ v { s₀ with heap := h, toks := tk } :=
  ⟨m', h, tk, rfl, F, fun p hp => N p (S p hp), hP⟩
/-- what the caller gets: all that stood stands, and a word of the value -/
abbrev RetS (s : Shared) (P : Value → Prop) (Q : Value → Shared → Prop) : Prop :=
  ∀ v h' tk', (∀ b o, s.heap.get? b = some o → h'.get? b = some o) → P v → Q v { s with heap := h', toks := tk' }

section
variable {prog : Program} {w : World} {A A₀ : Around} {E : Value → Shared → Prop} {s : Shared} {K : Frag} {L : Addr} {h₀ base : Heap} {m mg mb : Str → Option Value} {sub : List (Addr × Obj)} {p : Program} {loose : List Str} {mean : ExcName → Option Value}
theorem endS_back {L' : Addr} {P : Value → Prop} {v : Value} {s' : Shared} (N : News h₀ L s.heap sub) (e : EndS (hideAll s.heap (sub.map (·.1))) L' sub P s v s') :
    ∃ h' tk', s' = { s with heap := h', toks := tk' } ∧ (∀ b o, s.heap.get? b = some o → h'.get? b = some o) ∧ P v := by
  obtain ⟨m', h, tk, rfl, F', N', hP⟩ := e
  refine ⟨h, tk, rfl, fun b o q => ?_, hP⟩
  by_cases hb : b ∈ sub.map (·.1)
  · obtain ⟨x, hx, rfl⟩ := List.mem_map.mp hb
    have h1 := (N x hx).1
    rw [q] at h1
    cases h1
    exact (N' x hx).1
  · exact F'.keep b o (hideAll_get _ q hb)
/-- a def, its body in wpP -/
theorem specP {env : Env} {outer : List Env} {name qual : Str} {params : Arguments} {body : List Stmt} {scope : Scope} {dV kV doc pm cdv ct oc : Value} {an od : Option Addr} {osl : Array (Option Value)} {f : Addr} {pos : List Value} {binds : List (Str × Value)} {P : Value → Prop} {Q : Value → Shared → Prop}
    (B : Below A₀ base outer h₀) (F : Fr h₀ L s.heap m) (X₀ : K.In h₀) (N : News h₀ L s.heap sub) (T : Top p loose mean mg mb h₀) (hA : A.frames = some (env :: outer)) (hf : env.frame = some L) (hke : env.scope.kind = .function)
    (ho : K.lookup f = some ⟨oc, od, .func (fnOf name qual params body scope dV kV doc pm an cdv ct), osl⟩) (hcd : codeIn K cdv qual = true) (hroom : A.depth < recursionLimit)
    (hbind : BindsTo s (fnOf name qual params body scope dV kV doc pm an cdv ct) ⟨pos, []⟩ binds) (hloc : ∀ y ∈ binds, scope.names.lookup y.1 = some .local)
    (h : ∀ g L' h₁, Fr g L' h₁ (fun y => binds.reverse.lookup y) → News g L' h₁ sub → Below A base (env :: outer) g → K.In g → Top p loose mean mg mb g → (∀ p ∈ sub, p.1 < L') →
      wpP (model prog w) (A.deeper (envOf qual scope L' f cdv)) (execs body (envOf qual scope L' f cdv)) (fun fl s' => EndS g L' sub P s (match fl with | .ret v => v | _ => .none) s') (fun _ _ => False)
        { s with heap := h₁, toks := s.toks + binds.length })
    (hco : scope.isCoroutine = false) (hgen : scope.isGenerator = false) (hk : scope.kind = .function)
    (hcell : ∀ x ∈ scope.names, x.2 ≠ .cell) (ret : RetS s P Q) : wpP (model prog w) A (call (.ref f) pos) Q E s := by
  obtain ⟨FG, BG, st, lv⟩ := groundX (R := fun _ _ => True) B F N hA hf hke
  refine wpP_call (codeP_call_def (fd := fnOf name qual params body scope dV kV doc pm an cdv ct) (body := body) (binds := binds) hroom ((X₀.keeps F.keep) _ _ ho) rfl (T.nolimit.keeps F.keep) (codeRec_of (X₀.keeps F.keep) hcd) rfl hbind hcell hloc (fun h₁ hns hk₁ => ?_) hco hgen hk)
  refine wpP_mono (h _ s.heap.objs.size h₁ ⟨hns, fun b o e => hk₁ b o (of_hideAll _ e), Nat.le_of_eq (hideAll_size _ _)⟩
    (fun p hp => ⟨hk₁ _ _ (N p hp).1, Nat.ne_of_lt (Heap.lt_size (N p hp).1), hideAll_none _ (List.mem_map_of_mem hp)⟩) BG (X₀.keeps st) (T.keeps st) (fun p hp => Heap.lt_size (N p hp).1)) (fun fl s' hl => ?_) fun _ _ x => x.elim
  obtain ⟨h', tk', rfl, kp, hP⟩ := endS_back N hl
  cases fl <;> exact ret _ h' tk' kp hP
/-- the same in wpAny -/
theorem specA {env : Env} {outer : List Env} {name qual : Str} {params : Arguments} {body : List Stmt} {scope : Scope} {dV kV doc pm cdv ct oc : Value} {an od : Option Addr} {osl : Array (Option Value)} {f : Addr} {pos : List Value} {binds : List (Str × Value)} {P : Value → Prop} {Q : Value → Shared → Prop}
    (B : Below A₀ base outer h₀) (F : Fr h₀ L s.heap m) (X₀ : K.In h₀) (N : News h₀ L s.heap sub) (T : Top p loose mean mg mb h₀) (hA : A.frames = some (env :: outer)) (hf : env.frame = some L) (hke : env.scope.kind = .function)
    (ho : K.lookup f = some ⟨oc, od, .func (fnOf name qual params body scope dV kV doc pm an cdv ct), osl⟩) (hcd : codeIn K cdv qual = true) (hroom : A.depth < recursionLimit)
    (hbind : BindsTo s (fnOf name qual params body scope dV kV doc pm an cdv ct) ⟨pos, []⟩ binds) (hloc : ∀ y ∈ binds, scope.names.lookup y.1 = some .local)
    (h : ∀ g L' h₁, Fr g L' h₁ (fun y => binds.reverse.lookup y) → News g L' h₁ sub → Below A base (env :: outer) g → K.In g → Top p loose mean mg mb g → (∀ p ∈ sub, p.1 < L') →
      wpAny (model prog w) (A.deeper (envOf qual scope L' f cdv)) (execs body (envOf qual scope L' f cdv)) (fun fl s' => EndS g L' sub P s (match fl with | .ret v => v | _ => .none) s') (fun _ _ => False)
        { s with heap := h₁, toks := s.toks + binds.length })
    (hco : scope.isCoroutine = false) (hgen : scope.isGenerator = false) (hk : scope.kind = .function)
    (hcell : ∀ x ∈ scope.names, x.2 ≠ .cell) (ret : RetS s P Q) : wpAny (model prog w) A (call (.ref f) pos) Q E s := by
  obtain ⟨FG, BG, st, lv⟩ := groundX (R := fun _ _ => True) B F N hA hf hke
  refine wpAny_call (codeAny_call_def (fd := fnOf name qual params body scope dV kV doc pm an cdv ct) (body := body) (binds := binds) hroom ((X₀.keeps F.keep) _ _ ho) rfl (T.nolimit.keeps F.keep) (codeRec_of (X₀.keeps F.keep) hcd) rfl hbind hcell hloc (fun h₁ hns hk₁ => ?_) hco hgen hk)
  refine wpAny_mono (h _ s.heap.objs.size h₁ ⟨hns, fun b o e => hk₁ b o (of_hideAll _ e), Nat.le_of_eq (hideAll_size _ _)⟩
    (fun p hp => ⟨hk₁ _ _ (N p hp).1, Nat.ne_of_lt (Heap.lt_size (N p hp).1), hideAll_none _ (List.mem_map_of_mem hp)⟩) BG (X₀.keeps st) (T.keeps st) (fun p hp => Heap.lt_size (N p hp).1)) (fun fl s' hl => ?_) fun _ _ x => x.elim
  obtain ⟨h', tk', rfl, kp, hP⟩ := endS_back N hl
  cases fl <;> exact ret _ h' tk' kp hP
end

/-- a claim of a def: called anywhere, its answer is as P says -/
def SpecP (prog : Program) (K : Params → Frag) (f : Addr) (vs : List Value) (sub : List (Addr × Obj)) (c : Nat) (P : Value → Prop) : Prop :=
  ∀ (w : World) (p : Program) (loose : List Str) (mean : ExcName → Option Value) (mg mb : Str → Option Value) (dp un : Nat) (gd : Option (List Code)) (cn : Str) (cs : Scope) (a : Addr) (ccd : Value) (cl : List (Str × Addr)) (outer : List Env) (A₀ : Around) (base h₀ : Heap) (L : Addr) (m : Str → Option Value) (s : Shared) (Q E : Value → Shared → Prop),
    Below A₀ base outer h₀ → Fr h₀ L s.heap m → (K w.params).In h₀ → News h₀ L s.heap sub → Top p loose mean mg mb h₀ → cs.kind = .function → dp + c < recursionLimit → un + 8 * c < cLine → RetS s P Q →
      wpP (model prog w) (ktrTop dp un gd cn cs L a ccd cl outer) (call (.ref f) vs) Q E s
def SpecA (prog : Program) (K : Params → Frag) (f : Addr) (vs : List Value) (sub : List (Addr × Obj)) (c : Nat) (P : Value → Prop) : Prop :=
  ∀ (w : World) (p : Program) (loose : List Str) (mean : ExcName → Option Value) (mg mb : Str → Option Value) (dp un : Nat) (gd : Option (List Code)) (cn : Str) (cs : Scope) (a : Addr) (ccd : Value) (cl : List (Str × Addr)) (outer : List Env) (A₀ : Around) (base h₀ : Heap) (L : Addr) (m : Str → Option Value) (s : Shared) (Q E : Value → Shared → Prop),
    Below A₀ base outer h₀ → Fr h₀ L s.heap m → (K w.params).In h₀ → News h₀ L s.heap sub → Top p loose mean mg mb h₀ → cs.kind = .function → dp + c < recursionLimit → un + 8 * c < cLine → RetS s P Q →
      wpAny (model prog w) (ktrTop dp un gd cn cs L a ccd cl outer) (call (.ref f) vs) Q E s
theorem SpecA.toP {prog : Program} {K : Params → Frag} {f : Addr} {vs : List Value} {sub : List (Addr × Obj)} {c : Nat} {P : Value → Prop} (h : SpecA prog K f vs sub c P) : SpecP prog K f vs sub c P :=
  fun w p loose mean mg mb dp un gd cn cs a ccd cl outer A₀ base h₀ L m s Q E h1 h2 h3 h4 h5 h6 h7 h8 h9 =>
    wpP_any (h w p loose mean mg mb dp un gd cn cs a ccd cl outer A₀ base h₀ L m s Q E h1 h2 h3 h4 h5 h6 h7 h8 h9)

section
variable {prog : Program} {w : World} {A : Around} {E : Value → Shared → Prop} {s : Shared} {h₀ : Heap} {L : Addr} {m : Str → Option Value} {news news' : List (Addr × Obj)}
theorem set_ba_K {b : Addr} {arr : Array UInt8} {k v : Int} {t u : Tok} {Q : Unit → Shared → Prop} (F : Fr h₀ L s.heap m) (N : News h₀ L s.heap news)
    (U : Upd b (baObj arr) (baObj (arr.setIfInBounds k.toNat v.toNat.toUInt8)) news news') (h0 : 0 ≤ k) (h1 : k < arr.size) (hz : arr.size ≤ 1048576) (v0 : 0 ≤ v) (v1 : v < 256)
    (h : ∀ h', Fr h₀ L h' m → News h₀ L h' news' → Q () { s with heap := h' }) : wpAny (model prog w) A (setItem (.ref b) (.int k t) (.int v u)) Q E s := by
  obtain ⟨pre, post, rfl, rfl, a, c⟩ := U.split
  have z := N (b, baObj arr) (List.mem_append.mpr (.inr (.head _)))
  exact set_ba z.1 h0 h1 hz v0 v1 fun h' hb' hs => h h' (F.change hs z.2.1 z.2.2) (news_set N a c hs hb')
theorem bytesB_K {b : Addr} {arr : Array UInt8} {Q : Value → Shared → Prop} (N : News h₀ L s.heap news) (hm : (b, baObj arr) ∈ news) (hz : arr.size ≤ 1048576)
    (hQ : ∀ t k, Q (.bytes arr t) { s with toks := k }) : wpAny (model prog w) A (call (.type "bytes") [.ref b]) Q E s :=
  call_bytesB (N _ hm).1 (by rw [sizeLine_eq]; omega) (hQ _ _)
end
end Mine
end
-- part P10
theorem Mine.anew_P10 : True ∧ True := by
  w_top off
  first | (walk1; all_goals trivial) | exact ⟨trivial, trivial⟩
section
namespace Mine
theorem caller_ok : OkG ⟨.builtin "claim.caller" {}, none, none, [], none⟩ :=
  ⟨by show (!heldIds.contains "claim.caller") = true; decide +kernel, fun _ h => nomatch h⟩
/-- a thread that begins under claim.caller alone ends as wpP says -/
theorem endsP {prog : Program} {w : World} {t : Sem Fin} {s : Shared} {R : Result → Shared → Prop} (hreg : s.asleep)
    (h : wpP (model prog w) callerA t (fun fin s' => ∃ f, fin = .done f ∧ (R (.ok f) s' ∧ leftWithCleanup s'.gens = false)) (fun e s' => R (.error e) s' ∧ leftWithCleanup s'.gens = false) s) :
    ∃ n r s' s'', runN (denote table) prog w n s ⟨t, .builtin "claim.caller" {}, default, []⟩ = .halted (outcomeOf r) s' ∧
      schedN (denote table) prog w n (.single s ⟨t, .builtin "claim.caller" {}, default, []⟩) = .halted (outcomeOf r) s' ∧ s'.forget = s''.forget ∧ R r s'' := by
  have hw : Sem.wp (model prog w) ⟨.builtin "claim.caller" {}, none, none, [], none⟩ t
      (Sem.finPost (model prog w) ⟨.builtin "claim.caller" {}, none, none, [], none⟩ fun r s' => R r s' ∧ leftWithCleanup s'.gens = false)
      (fun e _ s' => R (.error e) s' ∧ leftWithCleanup s'.gens = false) default s := by
    refine Sem.wp_mono _ _ t (fun fin p' s' h' => ?_) (fun _ _ _ h' => h') default s (h _ default caller_in caller_ok)
    obtain ⟨f, rfl, hf⟩ := h'
    exact hf
  obtain ⟨n, r, s₁, s₂, hs, hn, hfo, hR⟩ := wp_halts_full (M := model prog w) (R := R) hreg hw
  exact ⟨n, r, s₂, s₁, hn, hs, hfo, hR⟩
theorem callFromP {c : ClaimW} {tree : List Value → Sem Fin} {w : World} {s : Shared} {free : Addr → Prop} {gens : Prop} {kept : Heap → Prop} (hz : s.asleep) (hgens : s.gens = #[])
    (hspec : ∀ args, c.pre args = true → WData.layableAll args = true → ∀ ord : List DictEntry → List DictEntry, (∀ l, (ord l).Perm l) →
      ∃ vs s₁, layAllW c.records (classAt s.heap) w.params ord args s = some (vs, s₁) ∧
        wpP (model c.prog w) callerA (tree vs) (fun fin s' => ∃ f, fin = .done f ∧ (c.Ends s args vs s₁ (.ok f) s' ∧ s'.os = s.os ∧ AllBare s'.gens ∧ kept s'.heap))
          (fun e s' => c.Ends s args vs s₁ (.error e) s' ∧ s'.os = s.os ∧ AllBare s'.gens ∧ kept s'.heap) s₁) :
    c.CallFrom (fun vs => ⟨tree vs, .builtin "claim.caller" {}, default, []⟩) w free gens kept s := by
  intro args hpre hlay ord hord
  obtain ⟨vs, s₁, hlaid, hcode⟩ := hspec args hpre hlay ord hord
  have hal := layAllW_rest _ _ _ hlaid
  obtain ⟨k, r, s', s'', hrun, hsched, hfo, hcase, hos, hkp⟩ := endsP (prog := c.prog) (w := w) (t := tree vs) (s := s₁)
    (R := fun r s' => c.Ends s args vs s₁ r s' ∧ s'.os = s.os ∧ kept s'.heap) (Shared.asleep_of_life hal.2.2.2 hz)
    (wpP_mono hcode (fun fin s' ⟨f, e, h1, h2, h3, h4⟩ => ⟨f, e, ⟨h1, h2, h4⟩, leftWithCleanup_false_of_bare h3⟩)
      fun e s' ⟨h1, h2, h3, h4⟩ => ⟨⟨h1, h2, h4⟩, leftWithCleanup_false_of_bare h3⟩)
  obtain ⟨eh, _, _, eo, _⟩ := Shared.forget_eq hfo
  have hcase := hcase.congr eh
  have hkp : kept s'.heap := eh.symm ▸ hkp
  rw [← eo] at hos
  have hlife : s'.heap.life = s.heap.life := (runN_life _ _ _ hrun).trans hal.2.2.2
  refine ⟨vs, s₁, hlaid, k, _, s', hsched, ?_, (fun _ i x hx => by rw [hgens] at hx; simp at hx), hkp, by rw [hlife], Shared.rest_eq hos⟩
  rcases hcase with ⟨v, rfl, d1, d2, d3, d4, d5⟩ | ⟨e, ob, cls, rfl, d1, d2, d3, d4, d5⟩
  · exact .inl ⟨v, rfl, d1, d2, d3, fun b o y _ => d4 b o y, d5⟩
  · exact .inr ⟨e, ob, cls, rfl, d1, d2, d3, d4, fun b o y _ => d5 b o y⟩

/-- what is asked of the law's call: WalkO's words, in wpP -/
abbrev WalkP (q : Program) (loose : List Str) (XP : (Str → Option Value) → Heap → Prop) (YP : World → Heap → Prop) (r : RowW) (d : DefRec) (kwd : List (Str × PySem.Expr)) : Prop :=
  ∀ (w : World) (s₀ s₁ : Shared) (mg mb : Str → Option Value), Ground q loose r.records XP w s₀ mg mb s₁.heap → YP w s₁.heap → ∀ (a : Addr) (o : Obj) (pm cd doc dV kV : Value), s₁.heap.get? a = some o →
    o.data = .func { docDef d.name d.params d.body d.scope pm cd doc with defaults := dV, kwdefaults := kV } → s₁.heap.CodeRec cd d.name → Dflts mg s₁.heap d.params kwd dV kV → mg d.name = some (.ref a) → s₁.gens = #[] →
    ∀ (args : List WData) (vals : List Value) (as : List Addr), r.claim.pre args = true → WData.layableAll args = true → ReadsAllW r.records (classAt s₀.heap) s₁.heap vals args as → WellAll w.params s₁.heap vals args → (∀ a ∈ as, (a == sysModules) = false) →
      codeP (model r.prog w) callerA (.call (.ref a) ⟨vals, []⟩) (GoodWG r.claim (classAt s₀.heap) (ExcName.means s₀.heap) args s₁) s₁

theorem PySem.W.holds_open {r : OpenRow} {q : Program} {loose : List Str} {Xt : Shared → Bool} {XP : (Str → Option Value) → Heap → Prop} {α : Type} {Yf : Shared → α} {Ya : World → α} {YP : World → Heap → Prop} {d : DefRec} {kwd : List (Str × PySem.Expr)} {N : Nat}
    (left : LeftO r.prog q loose Xt Yf Ya N) (hY : ∀ w s, Yf s = Ya w → YP w s.heap) (hYk : ∀ w h h', YP w h → (∀ b o, h.get? b = some o → h'.get? b = some o) → YP w h')
    (hX : ∀ s, Xt s = true → XP (s.heap.nsMap mainGlobals) s.heap) (hXk : ∀ mg h h', XP mg h → (∀ b o, h.get? b = some o → h'.get? b = some o) → XP mg h')
    (hdef : defOf q r.name = some (d, kwd)) (hp : r.prog.theDef r.name = some (d.params, d.body, d.scope)) (hk : kwWritten? d.params.kwonlyargs d.params.kw_defaults = some kwd) (hRf : ∀ s, Xt s = true → RecFacts r.records s.heap) (hwr : (!r.writes || r.records.isEmpty) = true)
    (k1 : r.wellSaid = true) (ok : (chainsOk q && opensWell r.prog && (frees r.toRowW && r.within.isEmpty)) = true) (hb : r.prog.bare) (hw : r.toRowW.promised)
    (call : WalkP q loose XP YP r.toRowW d kwd) : r.Holds := by
  refine ⟨k1, hw, ?_⟩
  obtain ⟨ok, k5⟩ := Bool.and_eq_true_iff.mp ok
  obtain ⟨hch, o1⟩ := Bool.and_eq_true_iff.mp ok
  obtain ⟨k5, k6⟩ := Bool.and_eq_true_iff.mp k5
  obtain ⟨hsame, hu, ha, hap, hm⟩ := frees_parts k5
  refine ⟨⟨hb, o1, by show r.makers.map _ = []; rw [hm]; rfl⟩, hw.witness, fun w => ⟨(left.behind hX hch w).1, fun s' hs' => ?_⟩⟩
  obtain ⟨s₀, hf, hg0, s, hT, hz, hgens, hg, G00, y⟩ := (left.behind (XP := fun mg h => XP mg h ∧ RecFacts r.records h) (fun s hs => ⟨hX s hs, hRf s hs⟩) hch w).2 s' hs'
  have G0 : Ground q loose [] XP w s (s.heap.nsMap mainGlobals) (s.heap.nsMap builtinsNs) s.heap := ⟨G00.T, G00.B, G00.D, G00.TE, G00.TD, G00.W, G00.X.1, G00.cls, G00.has, G00.apart, G00.once, G00.K⟩
  have RF := G00.X.2
  refine ⟨s₀, hf, hg0, s, hT, fun n hn => ?_, RF.1, RF.2.1, ?_⟩
  · obtain rfl : n = r.name := by split at hn <;> simp_all
    exact pinned_of_view hg G0 hdef hp hk
  have hgens : s.gens = #[] := Array.eq_empty_of_size_eq_zero (beq_iff_eq.mp hgens)
  have G : Ground q loose r.records XP w s _ _ s.heap := RF.ground G0
  refine callFromP (c := r.toRowW.claim) hz hgens fun args hpre hlay ord hord => ?_
  obtain ⟨⟨vs, s₁⟩, hlaid⟩ := Option.isSome_iff_exists.mp (layAllW_isSome (P := w.params) (ord := ord) G.has args r.args s (pre_splitW hpre).1)
  have keeps := layAllW_keeps _ _ _ hlaid
  have hal := layAllW_rest _ _ _ hlaid
  obtain ⟨as, hrd, hin, hold⟩ := reads_layAllW hord _ _ _ hlaid hlay s₁.heap (fun _ _ e => e)
  have L : Laid r.records w s s₁ args vs as := ⟨⟨ord, hord, hlaid⟩, hrd, hin, hold, keeps, hal.1.trans hgens, hal.2.2.1⟩
  have G₁ := G.keeps hXk keeps
  have hi := ident_freeW hu ha hap
  have hwi : r.toRowW.claim.within = [] := List.isEmpty_iff.mp k6
  obtain ⟨a, o, pm, cd, doc, dV, kV, h1, h2, h3, h4, h5⟩ := G₁.fn hdef
  have hc := call w s s₁ _ _ G₁ (hYk _ _ _ (hY w s y) keeps) a o pm cd doc dV kV h2 h3 h4 h5 (defOf_name hdef ▸ h1) L.gens args vs as hpre hlay L.reads L.well (L.low G.low)
  refine ⟨vs, s₁, hlaid, ?_⟩
  show wpP _ _ (do match ← nsGet mainNs r.name with | some f => do ret (← PySem.call f vs) | none => unsupported "claim.caller:no-such-global") _ _ _
  refine wpP_then (wpAny_nsGet G₁.T.g ?_)
  rw [h1]
  refine wpP_bind (wpP_call (codeP_mono hc fun res s' g => ?_))
  rcases g.1 with ⟨v, _, _, rfl, _⟩ | ⟨e, _, _, rfl, _⟩
  · refine wpP_pure ⟨_, rfl, ?_⟩
    have z := g.laid (c := r.toRowW.claim) hsame hwi hi L
    exact ⟨z.1, z.2.1, z.2.2, fun q => ⟨namesKept_of hT hg _ keeps g.2.1.old, noTable hwr q⟩⟩
  · have z := g.laid (c := r.toRowW.claim) hsame hwi hi L
    exact ⟨z.1, z.2.1, z.2.2, fun q => ⟨namesKept_of hT hg _ keeps g.2.1.old, noTable hwr q⟩⟩
end Mine
end
-- part HK
theorem Mine.anew_HK : True ∧ True := by
  w_top off
  first | (walk1; all_goals trivial) | exact ⟨trivial, trivial⟩
section
namespace Mine
noncomputable abbrev hdPw : Program := PySem.Challenge.pw_pf0271_01
/-- a def's words, its lines and its scope -/
noncomputable def hdFn : Option Stmt → Option (Arguments × List Stmt × Scope)
  | some (.FunctionDef _ a b _ _ _ s _ _ _) => some (a, b, s)
  | _ => none
noncomputable def hdCls : Option Stmt → List Stmt
  | some (.ClassDef _ _ _ b _ _ _ _ _ _ _) => b
  | _ => []
noncomputable def hdFnAt (i : Nat) : Option (Arguments × List Stmt × Scope) := hdFn hdPw.main.body[i]?
noncomputable def hdMethAt (i j : Nat) : Option (Arguments × List Stmt × Scope) := hdFn (hdCls hdPw.main.body[i]?)[j]?
noncomputable abbrev hdSame {α : Type} {o : Option α} (a : α) (_ : o = some a) : α := a
noncomputable abbrev hda0 : Arguments := hdSame _ (rfl : (hdFnAt 0).map (·.1) = some _)
noncomputable abbrev hdb0 : List Stmt := hdSame _ (rfl : (hdFnAt 0).map (·.2.1) = some _)
noncomputable abbrev hds0 : Scope := hdSame _ (rfl : (hdFnAt 0).map (·.2.2) = some _)
noncomputable abbrev hda2 : Arguments := hdSame _ (rfl : (hdFnAt 2).map (·.1) = some _)
noncomputable abbrev hdb2 : List Stmt := hdSame _ (rfl : (hdFnAt 2).map (·.2.1) = some _)
noncomputable abbrev hds2 : Scope := hdSame _ (rfl : (hdFnAt 2).map (·.2.2) = some _)
noncomputable abbrev hda9_0 : Arguments := hdSame _ (rfl : (hdMethAt 9 0).map (·.1) = some _)
noncomputable abbrev hdb9_0 : List Stmt := hdSame _ (rfl : (hdMethAt 9 0).map (·.2.1) = some _)
noncomputable abbrev hds9_0 : Scope := hdSame _ (rfl : (hdMethAt 9 0).map (·.2.2) = some _)
noncomputable abbrev hda9_1 : Arguments := hdSame _ (rfl : (hdMethAt 9 1).map (·.1) = some _)
noncomputable abbrev hdb9_1 : List Stmt := hdSame _ (rfl : (hdMethAt 9 1).map (·.2.1) = some _)
noncomputable abbrev hds9_1 : Scope := hdSame _ (rfl : (hdMethAt 9 1).map (·.2.2) = some _)
noncomputable abbrev hda9_2 : Arguments := hdSame _ (rfl : (hdMethAt 9 2).map (·.1) = some _)
noncomputable abbrev hdb9_2 : List Stmt := hdSame _ (rfl : (hdMethAt 9 2).map (·.2.1) = some _)
noncomputable abbrev hds9_2 : Scope := hdSame _ (rfl : (hdMethAt 9 2).map (·.2.2) = some _)
noncomputable abbrev hda9_3 : Arguments := hdSame _ (rfl : (hdMethAt 9 3).map (·.1) = some _)
noncomputable abbrev hdb9_3 : List Stmt := hdSame _ (rfl : (hdMethAt 9 3).map (·.2.1) = some _)
noncomputable abbrev hds9_3 : Scope := hdSame _ (rfl : (hdMethAt 9 3).map (·.2.2) = some _)
noncomputable abbrev hda9_4 : Arguments := hdSame _ (rfl : (hdMethAt 9 4).map (·.1) = some _)
noncomputable abbrev hdb9_4 : List Stmt := hdSame _ (rfl : (hdMethAt 9 4).map (·.2.1) = some _)
noncomputable abbrev hds9_4 : Scope := hdSame _ (rfl : (hdMethAt 9 4).map (·.2.2) = some _)
noncomputable abbrev hda9_5 : Arguments := hdSame _ (rfl : (hdMethAt 9 5).map (·.1) = some _)
noncomputable abbrev hdb9_5 : List Stmt := hdSame _ (rfl : (hdMethAt 9 5).map (·.2.1) = some _)
noncomputable abbrev hds9_5 : Scope := hdSame _ (rfl : (hdMethAt 9 5).map (·.2.2) = some _)
noncomputable abbrev hda9_6 : Arguments := hdSame _ (rfl : (hdMethAt 9 6).map (·.1) = some _)
noncomputable abbrev hdb9_6 : List Stmt := hdSame _ (rfl : (hdMethAt 9 6).map (·.2.1) = some _)
noncomputable abbrev hds9_6 : Scope := hdSame _ (rfl : (hdMethAt 9 6).map (·.2.2) = some _)
noncomputable abbrev hda9_7 : Arguments := hdSame _ (rfl : (hdMethAt 9 7).map (·.1) = some _)
noncomputable abbrev hdb9_7 : List Stmt := hdSame _ (rfl : (hdMethAt 9 7).map (·.2.1) = some _)
noncomputable abbrev hds9_7 : Scope := hdSame _ (rfl : (hdMethAt 9 7).map (·.2.2) = some _)
noncomputable abbrev hda9_8 : Arguments := hdSame _ (rfl : (hdMethAt 9 8).map (·.1) = some _)
noncomputable abbrev hdb9_8 : List Stmt := hdSame _ (rfl : (hdMethAt 9 8).map (·.2.1) = some _)
noncomputable abbrev hds9_8 : Scope := hdSame _ (rfl : (hdMethAt 9 8).map (·.2.2) = some _)
noncomputable abbrev hda12_0 : Arguments := hdSame _ (rfl : (hdMethAt 12 0).map (·.1) = some _)
noncomputable abbrev hdb12_0 : List Stmt := hdSame _ (rfl : (hdMethAt 12 0).map (·.2.1) = some _)
noncomputable abbrev hds12_0 : Scope := hdSame _ (rfl : (hdMethAt 12 0).map (·.2.2) = some _)
noncomputable abbrev hda15 : Arguments := hdSame _ (rfl : (hdFnAt 15).map (·.1) = some _)
noncomputable abbrev hdb15 : List Stmt := hdSame _ (rfl : (hdFnAt 15).map (·.2.1) = some _)
noncomputable abbrev hds15 : Scope := hdSame _ (rfl : (hdFnAt 15).map (·.2.2) = some _)
noncomputable abbrev hda16 : Arguments := hdSame _ (rfl : (hdFnAt 16).map (·.1) = some _)
noncomputable abbrev hdb16 : List Stmt := hdSame _ (rfl : (hdFnAt 16).map (·.2.1) = some _)
noncomputable abbrev hds16 : Scope := hdSame _ (rfl : (hdFnAt 16).map (·.2.2) = some _)
noncomputable abbrev hda17 : Arguments := hdSame _ (rfl : (hdFnAt 17).map (·.1) = some _)
noncomputable abbrev hdb17 : List Stmt := hdSame _ (rfl : (hdFnAt 17).map (·.2.1) = some _)
noncomputable abbrev hds17 : Scope := hdSame _ (rfl : (hdFnAt 17).map (·.2.2) = some _)
noncomputable abbrev hda20 : Arguments := hdSame _ (rfl : (hdFnAt 20).map (·.1) = some _)
noncomputable abbrev hdb20 : List Stmt := hdSame _ (rfl : (hdFnAt 20).map (·.2.1) = some _)
noncomputable abbrev hds20 : Scope := hdSame _ (rfl : (hdFnAt 20).map (·.2.2) = some _)
noncomputable abbrev hda21 : Arguments := hdSame _ (rfl : (hdFnAt 21).map (·.1) = some _)
noncomputable abbrev hdb21 : List Stmt := hdSame _ (rfl : (hdFnAt 21).map (·.2.1) = some _)
noncomputable abbrev hds21 : Scope := hdSame _ (rfl : (hdFnAt 21).map (·.2.2) = some _)
noncomputable abbrev hda22 : Arguments := hdSame _ (rfl : (hdFnAt 22).map (·.1) = some _)
noncomputable abbrev hdb22 : List Stmt := hdSame _ (rfl : (hdFnAt 22).map (·.2.1) = some _)
noncomputable abbrev hds22 : Scope := hdSame _ (rfl : (hdFnAt 22).map (·.2.2) = some _)
noncomputable abbrev hda25 : Arguments := hdSame _ (rfl : (hdFnAt 25).map (·.1) = some _)
noncomputable abbrev hdb25 : List Stmt := hdSame _ (rfl : (hdFnAt 25).map (·.2.1) = some _)
noncomputable abbrev hds25 : Scope := hdSame _ (rfl : (hdFnAt 25).map (·.2.2) = some _)
noncomputable abbrev hda26 : Arguments := hdSame _ (rfl : (hdFnAt 26).map (·.1) = some _)
noncomputable abbrev hdb26 : List Stmt := hdSame _ (rfl : (hdFnAt 26).map (·.2.1) = some _)
noncomputable abbrev hds26 : Scope := hdSame _ (rfl : (hdFnAt 26).map (·.2.2) = some _)
noncomputable abbrev hda29 : Arguments := hdSame _ (rfl : (hdFnAt 29).map (·.1) = some _)
noncomputable abbrev hdb29 : List Stmt := hdSame _ (rfl : (hdFnAt 29).map (·.2.1) = some _)
noncomputable abbrev hds29 : Scope := hdSame _ (rfl : (hdFnAt 29).map (·.2.2) = some _)
noncomputable abbrev hda31 : Arguments := hdSame _ (rfl : (hdFnAt 31).map (·.1) = some _)
noncomputable abbrev hdb31 : List Stmt := hdSame _ (rfl : (hdFnAt 31).map (·.2.1) = some _)
noncomputable abbrev hds31 : Scope := hdSame _ (rfl : (hdFnAt 31).map (·.2.2) = some _)
noncomputable abbrev hda32 : Arguments := hdSame _ (rfl : (hdFnAt 32).map (·.1) = some _)
noncomputable abbrev hdb32 : List Stmt := hdSame _ (rfl : (hdFnAt 32).map (·.2.1) = some _)
noncomputable abbrev hds32 : Scope := hdSame _ (rfl : (hdFnAt 32).map (·.2.2) = some _)
noncomputable abbrev hda33 : Arguments := hdSame _ (rfl : (hdFnAt 33).map (·.1) = some _)
noncomputable abbrev hdb33 : List Stmt := hdSame _ (rfl : (hdFnAt 33).map (·.2.1) = some _)
noncomputable abbrev hds33 : Scope := hdSame _ (rfl : (hdFnAt 33).map (·.2.2) = some _)
noncomputable abbrev hda34 : Arguments := hdSame _ (rfl : (hdFnAt 34).map (·.1) = some _)
noncomputable abbrev hdb34 : List Stmt := hdSame _ (rfl : (hdFnAt 34).map (·.2.1) = some _)
noncomputable abbrev hds34 : Scope := hdSame _ (rfl : (hdFnAt 34).map (·.2.2) = some _)
noncomputable abbrev hda37 : Arguments := hdSame _ (rfl : (hdFnAt 37).map (·.1) = some _)
noncomputable abbrev hdb37 : List Stmt := hdSame _ (rfl : (hdFnAt 37).map (·.2.1) = some _)
noncomputable abbrev hds37 : Scope := hdSame _ (rfl : (hdFnAt 37).map (·.2.2) = some _)
noncomputable abbrev hda38 : Arguments := hdSame _ (rfl : (hdFnAt 38).map (·.1) = some _)
noncomputable abbrev hdb38 : List Stmt := hdSame _ (rfl : (hdFnAt 38).map (·.2.1) = some _)
noncomputable abbrev hds38 : Scope := hdSame _ (rfl : (hdFnAt 38).map (·.2.2) = some _)
noncomputable abbrev hda40_0 : Arguments := hdSame _ (rfl : (hdMethAt 40 0).map (·.1) = some _)
noncomputable abbrev hdb40_0 : List Stmt := hdSame _ (rfl : (hdMethAt 40 0).map (·.2.1) = some _)
noncomputable abbrev hds40_0 : Scope := hdSame _ (rfl : (hdMethAt 40 0).map (·.2.2) = some _)
noncomputable abbrev hda40_1 : Arguments := hdSame _ (rfl : (hdMethAt 40 1).map (·.1) = some _)
noncomputable abbrev hdb40_1 : List Stmt := hdSame _ (rfl : (hdMethAt 40 1).map (·.2.1) = some _)
noncomputable abbrev hds40_1 : Scope := hdSame _ (rfl : (hdMethAt 40 1).map (·.2.2) = some _)
noncomputable abbrev hda40_2 : Arguments := hdSame _ (rfl : (hdMethAt 40 2).map (·.1) = some _)
noncomputable abbrev hdb40_2 : List Stmt := hdSame _ (rfl : (hdMethAt 40 2).map (·.2.1) = some _)
noncomputable abbrev hds40_2 : Scope := hdSame _ (rfl : (hdMethAt 40 2).map (·.2.2) = some _)
noncomputable abbrev hda40_3 : Arguments := hdSame _ (rfl : (hdMethAt 40 3).map (·.1) = some _)
noncomputable abbrev hdb40_3 : List Stmt := hdSame _ (rfl : (hdMethAt 40 3).map (·.2.1) = some _)
noncomputable abbrev hds40_3 : Scope := hdSame _ (rfl : (hdMethAt 40 3).map (·.2.2) = some _)
noncomputable abbrev hda40_4 : Arguments := hdSame _ (rfl : (hdMethAt 40 4).map (·.1) = some _)
noncomputable abbrev hdb40_4 : List Stmt := hdSame _ (rfl : (hdMethAt 40 4).map (·.2.1) = some _)
noncomputable abbrev hds40_4 : Scope := hdSame _ (rfl : (hdMethAt 40 4).map (·.2.2) = some _)
noncomputable abbrev hda40_5 : Arguments := hdSame _ (rfl : (hdMethAt 40 5).map (·.1) = some _)
noncomputable abbrev hdb40_5 : List Stmt := hdSame _ (rfl : (hdMethAt 40 5).map (·.2.1) = some _)
noncomputable abbrev hds40_5 : Scope := hdSame _ (rfl : (hdMethAt 40 5).map (·.2.2) = some _)
noncomputable abbrev hda40_6 : Arguments := hdSame _ (rfl : (hdMethAt 40 6).map (·.1) = some _)
noncomputable abbrev hdb40_6 : List Stmt := hdSame _ (rfl : (hdMethAt 40 6).map (·.2.1) = some _)
noncomputable abbrev hds40_6 : Scope := hdSame _ (rfl : (hdMethAt 40 6).map (·.2.2) = some _)
noncomputable abbrev hda40_7 : Arguments := hdSame _ (rfl : (hdMethAt 40 7).map (·.1) = some _)
noncomputable abbrev hdb40_7 : List Stmt := hdSame _ (rfl : (hdMethAt 40 7).map (·.2.1) = some _)
noncomputable abbrev hds40_7 : Scope := hdSame _ (rfl : (hdMethAt 40 7).map (·.2.2) = some _)
noncomputable abbrev hda40_8 : Arguments := hdSame _ (rfl : (hdMethAt 40 8).map (·.1) = some _)
noncomputable abbrev hdb40_8 : List Stmt := hdSame _ (rfl : (hdMethAt 40 8).map (·.2.1) = some _)
noncomputable abbrev hds40_8 : Scope := hdSame _ (rfl : (hdMethAt 40 8).map (·.2.2) = some _)
noncomputable abbrev hda40_9 : Arguments := hdSame _ (rfl : (hdMethAt 40 9).map (·.1) = some _)
noncomputable abbrev hdb40_9 : List Stmt := hdSame _ (rfl : (hdMethAt 40 9).map (·.2.1) = some _)
noncomputable abbrev hds40_9 : Scope := hdSame _ (rfl : (hdMethAt 40 9).map (·.2.2) = some _)
noncomputable abbrev hda40_10 : Arguments := hdSame _ (rfl : (hdMethAt 40 10).map (·.1) = some _)
noncomputable abbrev hdb40_10 : List Stmt := hdSame _ (rfl : (hdMethAt 40 10).map (·.2.1) = some _)
noncomputable abbrev hds40_10 : Scope := hdSame _ (rfl : (hdMethAt 40 10).map (·.2.2) = some _)
noncomputable abbrev hda40_11 : Arguments := hdSame _ (rfl : (hdMethAt 40 11).map (·.1) = some _)
noncomputable abbrev hdb40_11 : List Stmt := hdSame _ (rfl : (hdMethAt 40 11).map (·.2.1) = some _)
noncomputable abbrev hds40_11 : Scope := hdSame _ (rfl : (hdMethAt 40 11).map (·.2.2) = some _)
noncomputable abbrev hda40_12 : Arguments := hdSame _ (rfl : (hdMethAt 40 12).map (·.1) = some _)
noncomputable abbrev hdb40_12 : List Stmt := hdSame _ (rfl : (hdMethAt 40 12).map (·.2.1) = some _)
noncomputable abbrev hds40_12 : Scope := hdSame _ (rfl : (hdMethAt 40 12).map (·.2.2) = some _)
noncomputable abbrev hda40_13 : Arguments := hdSame _ (rfl : (hdMethAt 40 13).map (·.1) = some _)
noncomputable abbrev hdb40_13 : List Stmt := hdSame _ (rfl : (hdMethAt 40 13).map (·.2.1) = some _)
noncomputable abbrev hds40_13 : Scope := hdSame _ (rfl : (hdMethAt 40 13).map (·.2.2) = some _)
noncomputable abbrev hda40_14 : Arguments := hdSame _ (rfl : (hdMethAt 40 14).map (·.1) = some _)
noncomputable abbrev hdb40_14 : List Stmt := hdSame _ (rfl : (hdMethAt 40 14).map (·.2.1) = some _)
noncomputable abbrev hds40_14 : Scope := hdSame _ (rfl : (hdMethAt 40 14).map (·.2.2) = some _)
noncomputable abbrev hda40_15 : Arguments := hdSame _ (rfl : (hdMethAt 40 15).map (·.1) = some _)
noncomputable abbrev hdb40_15 : List Stmt := hdSame _ (rfl : (hdMethAt 40 15).map (·.2.1) = some _)
noncomputable abbrev hds40_15 : Scope := hdSame _ (rfl : (hdMethAt 40 15).map (·.2.2) = some _)
noncomputable abbrev hda40_16 : Arguments := hdSame _ (rfl : (hdMethAt 40 16).map (·.1) = some _)
noncomputable abbrev hdb40_16 : List Stmt := hdSame _ (rfl : (hdMethAt 40 16).map (·.2.1) = some _)
noncomputable abbrev hds40_16 : Scope := hdSame _ (rfl : (hdMethAt 40 16).map (·.2.2) = some _)
noncomputable abbrev hda40_17 : Arguments := hdSame _ (rfl : (hdMethAt 40 17).map (·.1) = some _)
noncomputable abbrev hdb40_17 : List Stmt := hdSame _ (rfl : (hdMethAt 40 17).map (·.2.1) = some _)
noncomputable abbrev hds40_17 : Scope := hdSame _ (rfl : (hdMethAt 40 17).map (·.2.2) = some _)
noncomputable abbrev hda40_18 : Arguments := hdSame _ (rfl : (hdMethAt 40 18).map (·.1) = some _)
noncomputable abbrev hdb40_18 : List Stmt := hdSame _ (rfl : (hdMethAt 40 18).map (·.2.1) = some _)
noncomputable abbrev hds40_18 : Scope := hdSame _ (rfl : (hdMethAt 40 18).map (·.2.2) = some _)
noncomputable abbrev hda42 : Arguments := hdSame _ (rfl : (hdFnAt 42).map (·.1) = some _)
noncomputable abbrev hdb42 : List Stmt := hdSame _ (rfl : (hdFnAt 42).map (·.2.1) = some _)
noncomputable abbrev hds42 : Scope := hdSame _ (rfl : (hdFnAt 42).map (·.2.2) = some _)
noncomputable abbrev hda43 : Arguments := hdSame _ (rfl : (hdFnAt 43).map (·.1) = some _)
noncomputable abbrev hdb43 : List Stmt := hdSame _ (rfl : (hdFnAt 43).map (·.2.1) = some _)
noncomputable abbrev hds43 : Scope := hdSame _ (rfl : (hdFnAt 43).map (·.2.2) = some _)
set_option maxHeartbeats 4000000 in
noncomputable def hd.heap_39 : Params → Frag := fun P =>
  (@Prod.mk Nat Obj (nat_lit 2) (Obj.mk Value.none none (Data.dict #[DictEntry.mk (PyData.keyHash P (Str.ofString "type.__subclasses__.Exception.0")) (Value.str (Str.ofString "type.__subclasses__.Exception.0") 346) (Value.int 122 0), DictEntry.mk (PyData.keyHash P (Str.ofString "type.__subclasses__.Exception.n")) (Value.str (Str.ofString "type.__subclasses__.Exception.n") 347) (Value.int 1 0)] 2) #[])) ::
  (@Prod.mk Nat Obj (nat_lit 3) (Obj.mk (Value.type "dict") none (Data.dict #[DictEntry.mk (PyData.keyHash P (Str.ofString "__name__")) (Value.str (Str.ofString "__name__") 165) (Value.str (Str.ofString "law_pf0271_01") 715), DictEntry.mk (PyData.keyHash P (Str.ofString "__doc__")) (Value.str (Str.ofString "__doc__") 166) Value.none, DictEntry.mk (PyData.keyHash P (Str.ofString "__package__")) (Value.str (Str.ofString "__package__") 167) Value.none, DictEntry.mk (PyData.keyHash P (Str.ofString "__loader__")) (Value.str (Str.ofString "__loader__") 168) (Value.builtin "__main__.__loader__#opaque"), DictEntry.mk (PyData.keyHash P (Str.ofString "__spec__")) (Value.str (Str.ofString "__spec__") 169) Value.none, DictEntry.mk (PyData.keyHash P (Str.ofString "__annotations__")) (Value.str (Str.ofString "__annotations__") 170) (Value.ref 6), DictEntry.mk (PyData.keyHash P (Str.ofString "__builtins__")) (Value.str (Str.ofString "__builtins__") 171) (Value.ref 4), DictEntry.mk (PyData.keyHash P (Str.ofString "__file__")) (Value.str (Str.ofString "__file__") 173) (Value.str (Str.ofString "/claim/cut.py") 172), DictEntry.mk (PyData.keyHash P (Str.ofString "__cached__")) (Value.str (Str.ofString "__cached__") 174) Value.none, DictEntry.mk (PyData.keyHash P (Str.ofString "_wall")) (Value.str (Str.ofString "_wall") 193) (Value.ref 21), DictEntry.mk (PyData.keyHash P (Str.ofString "take_reset")) (Value.str (Str.ofString "take_reset") 203) (Value.ref 28), DictEntry.mk (PyData.keyHash P (Str.ofString "OPEN")) (Value.str (Str.ofString "OPEN") 207) (Value.str (Str.ofString "open") 206), DictEntry.mk (PyData.keyHash P (Str.ofString "CLOSING")) (Value.str (Str.ofString "CLOSING") 209) (Value.str (Str.ofString "closing") 208), DictEntry.mk (PyData.keyHash P (Str.ofString "DRAINING")) (Value.str (Str.ofString "DRAINING") 211) (Value.str (Str.ofString "draining") 210), DictEntry.mk (PyData.keyHash P (Str.ofString "CLOSED")) (Value.str (Str.ofString "CLOSED") 213) (Value.str (Str.ofString "closed") 212), DictEntry.mk (PyData.keyHash P (Str.ofString "PERIODS")) (Value.str (Str.ofString "PERIODS") 215) (Value.int 3 214), DictEntry.mk (PyData.keyHash P (Str.ofString "Closing")) (Value.str (Str.ofString "Closing") 312) (Value.ref 101), DictEntry.mk (PyData.keyHash P (Str.ofString "INTERNAL_ERROR")) (Value.str (Str.ofString "INTERNAL_ERROR") 316) (Value.int 1 315), DictEntry.mk (PyData.keyHash P (Str.ofString "QuicError")) (Value.str (Str.ofString "QuicError") 349) (Value.ref 122), DictEntry.mk (PyData.keyHash P (Str.ofString "VARINT_SIZES")) (Value.str (Str.ofString "VARINT_SIZES") 356) (Value.ref 126), DictEntry.mk (PyData.keyHash P (Str.ofString "put_whole")) (Value.str (Str.ofString "put_whole") 366) (Value.ref 133), DictEntry.mk (PyData.keyHash P (Str.ofString "varint_size")) (Value.str (Str.ofString "varint_size") 374) (Value.ref 140), DictEntry.mk (PyData.keyHash P (Str.ofString "put_varint")) (Value.str (Str.ofString "put_varint") 383) (Value.ref 147), DictEntry.mk (PyData.keyHash P (Str.ofString "LONG_KINDS")) (Value.str (Str.ofString "LONG_KINDS") 390) (Value.ref 148), DictEntry.mk (PyData.keyHash P (Str.ofString "put_ids")) (Value.str (Str.ofString "put_ids") 398) (Value.ref 155), DictEntry.mk (PyData.keyHash P (Str.ofString "long_first")) (Value.str (Str.ofString "long_first") 406) (Value.ref 162), DictEntry.mk (PyData.keyHash P (Str.ofString "long_head")) (Value.str (Str.ofString "long_head") 420) (Value.ref 169), DictEntry.mk (PyData.keyHash P (Str.ofString "MOST_OCTETS")) (Value.str (Str.ofString "MOST_OCTETS") 424) (Value.int 4 423), DictEntry.mk (PyData.keyHash P (Str.ofString "number_size")) (Value.str (Str.ofString "number_size") 434) (Value.ref 176), DictEntry.mk (PyData.keyHash P (Str.ofString "cut_number")) (Value.str (Str.ofString "cut_number") 443) (Value.ref 183), DictEntry.mk (PyData.keyHash P (Str.ofString "TAG_SIZE")) (Value.str (Str.ofString "TAG_SIZE") 447) (Value.int 16 446), DictEntry.mk (PyData.keyHash P (Str.ofString "padded_payload")) (Value.str (Str.ofString "padded_payload") 456) (Value.ref 190), DictEntry.mk (PyData.keyHash P (Str.ofString "short_head")) (Value.str (Str.ofString "short_head") 468) (Value.ref 197), DictEntry.mk (PyData.keyHash P (Str.ofString "head_of")) (Value.str (Str.ofString "head_of") 480) (Value.ref 204), DictEntry.mk (PyData.keyHash P (Str.ofString "number_in")) (Value.str (Str.ofString "number_in") 487) (Value.ref 211), DictEntry.mk (PyData.keyHash P (Str.ofString "packet_size")) (Value.str (Str.ofString "packet_size") 497) (Value.ref 218), DictEntry.mk (PyData.keyHash P (Str.ofString "LEAST_PAYLOAD")) (Value.str (Str.ofString "LEAST_PAYLOAD") 501) (Value.int 4 500), DictEntry.mk (PyData.keyHash P (Str.ofString "packet_with")) (Value.str (Str.ofString "packet_with") 513) (Value.ref 225), DictEntry.mk (PyData.keyHash P (Str.ofString "head_octets")) (Value.str (Str.ofString "head_octets") 524) (Value.ref 232), DictEntry.mk (PyData.keyHash P (Str.ofString "Space")) (Value.str (Str.ofString "Space") 714) (Value.ref 375), DictEntry.mk (PyData.keyHash P (Str.ofString "_law_take")) (Value.str (Str.ofString "_law_take") 724) (Value.ref 386), DictEntry.mk (PyData.keyHash P (Str.ofString "law")) (Value.str (Str.ofString "law") 743) (Value.ref 393)] 42) #[])) ::
  (@Prod.mk Nat Obj (nat_lit 15) (Obj.mk (Value.type "tuple") none (Data.seq #[]) #[])) ::
  (@Prod.mk Nat Obj (nat_lit 17) (Obj.mk (Value.type "tuple") none (Data.seq #[Value.str (Str.ofString "k") 190]) #[])) ::
  (@Prod.mk Nat Obj (nat_lit 18) (Obj.mk (Value.type "tuple") none (Data.seq #[]) #[])) ::
  (@Prod.mk Nat Obj (nat_lit 20) (Obj.mk (Value.type "code") none (Data.fields #[Value.str (Str.ofString "_wall") 187, Value.str (Str.ofString "_wall") 188, Value.str (Str.ofString "/claim/cut.py") 189, Value.int 1 0, Value.int 1 0, Value.int 0 0, Value.int 0 0, Value.int 3 0, Value.ref 15, Value.bool true, Value.int 181 0, Value.ref 16, Value.none, Value.ref 17, Value.ref 18, Value.ref 19, Value.int 191 0, Value.int 1 0, Value.str (Str.ofString "/claim/cut.py") 192]) #[])) ::
  (@Prod.mk Nat Obj (nat_lit 21) (Obj.mk (Value.type "function") none (Data.func (FuncData.mk (Str.ofString "_wall") (Str.ofString "_wall") hda0 (FuncBody.stmts hdb0) hds0 3 [] Value.none Value.none Value.none (Value.str (Str.ofString "__main__") 164) none (Value.ref 20) Value.none 0)) #[])) ::
  (@Prod.mk Nat Obj (nat_lit 22) (Obj.mk (Value.type "tuple") none (Data.seq #[]) #[])) ::
  (@Prod.mk Nat Obj (nat_lit 24) (Obj.mk (Value.type "tuple") none (Data.seq #[Value.str (Str.ofString "conn") 199, Value.str (Str.ofString "now") 200]) #[])) ::
  (@Prod.mk Nat Obj (nat_lit 25) (Obj.mk (Value.type "tuple") none (Data.seq #[]) #[])) ::
  (@Prod.mk Nat Obj (nat_lit 27) (Obj.mk (Value.type "code") none (Data.fields #[Value.str (Str.ofString "take_reset") 196, Value.str (Str.ofString "take_reset") 197, Value.str (Str.ofString "/claim/cut.py") 198, Value.int 5 0, Value.int 2 0, Value.int 0 0, Value.int 0 0, Value.int 3 0, Value.ref 22, Value.bool true, Value.int 181 0, Value.ref 23, Value.none, Value.ref 24, Value.ref 25, Value.ref 26, Value.int 201 0, Value.int 5 0, Value.str (Str.ofString "/claim/cut.py") 202]) #[])) ::
  (@Prod.mk Nat Obj (nat_lit 28) (Obj.mk (Value.type "function") none (Data.func (FuncData.mk (Str.ofString "take_reset") (Str.ofString "take_reset") hda2 (FuncBody.stmts hdb2) hds2 3 [] Value.none Value.none Value.none (Value.str (Str.ofString "quic.connin") 194) none (Value.ref 27) Value.none 0)) #[])) ::
  (@Prod.mk Nat Obj (nat_lit 36) (Obj.mk (Value.type "tuple") none (Data.seq #[]) #[])) ::
  (@Prod.mk Nat Obj (nat_lit 38) (Obj.mk (Value.type "tuple") none (Data.seq #[Value.str (Str.ofString "self") 231]) #[])) ::
  (@Prod.mk Nat Obj (nat_lit 39) (Obj.mk (Value.type "tuple") none (Data.seq #[]) #[])) ::
  (@Prod.mk Nat Obj (nat_lit 41) (Obj.mk (Value.type "code") none (Data.fields #[Value.str (Str.ofString "__init__") 228, Value.str (Str.ofString "Closing.__init__") 229, Value.str (Str.ofString "/claim/cut.py") 230, Value.int 17 0, Value.int 1 0, Value.int 0 0, Value.int 0 0, Value.int 3 0, Value.ref 36, Value.bool true, Value.int 181 0, Value.ref 37, Value.none, Value.ref 38, Value.ref 39, Value.ref 40, Value.int 232 0, Value.int 17 0, Value.str (Str.ofString "/claim/cut.py") 233]) #[])) ::
  (@Prod.mk Nat Obj (nat_lit 42) (Obj.mk (Value.type "function") none (Data.func (FuncData.mk (Str.ofString "__init__") (Str.ofString "Closing.__init__") hda9_0 (FuncBody.stmts hdb9_0) hds9_0 3 [] Value.none Value.none Value.none (Value.str (Str.ofString "quic.closing") 204) none (Value.ref 41) Value.none 0)) #[])) ::
  (@Prod.mk Nat Obj (nat_lit 43) (Obj.mk (Value.type "tuple") none (Data.seq #[]) #[])) ::
  (@Prod.mk Nat Obj (nat_lit 45) (Obj.mk (Value.type "tuple") none (Data.seq #[Value.str (Str.ofString "self") 238]) #[])) ::
  (@Prod.mk Nat Obj (nat_lit 46) (Obj.mk (Value.type "tuple") none (Data.seq #[]) #[])) ::
  (@Prod.mk Nat Obj (nat_lit 48) (Obj.mk (Value.type "code") none (Data.fields #[Value.str (Str.ofString "is_open") 235, Value.str (Str.ofString "Closing.is_open") 236, Value.str (Str.ofString "/claim/cut.py") 237, Value.int 24 0, Value.int 1 0, Value.int 0 0, Value.int 0 0, Value.int 3 0, Value.ref 43, Value.bool true, Value.int 181 0, Value.ref 44, Value.none, Value.ref 45, Value.ref 46, Value.ref 47, Value.int 239 0, Value.int 24 0, Value.str (Str.ofString "/claim/cut.py") 240]) #[])) ::
  (@Prod.mk Nat Obj (nat_lit 49) (Obj.mk (Value.type "function") none (Data.func (FuncData.mk (Str.ofString "is_open") (Str.ofString "Closing.is_open") hda9_1 (FuncBody.stmts hdb9_1) hds9_1 3 [] Value.none Value.none Value.none (Value.str (Str.ofString "quic.closing") 204) none (Value.ref 48) Value.none 0)) #[])) ::
  (@Prod.mk Nat Obj (nat_lit 50) (Obj.mk (Value.type "tuple") none (Data.seq #[]) #[])) ::
  (@Prod.mk Nat Obj (nat_lit 52) (Obj.mk (Value.type "tuple") none (Data.seq #[Value.str (Str.ofString "self") 245, Value.str (Str.ofString "frame") 246, Value.str (Str.ofString "now") 247, Value.str (Str.ofString "probe_wait") 248]) #[])) ::
  (@Prod.mk Nat Obj (nat_lit 53) (Obj.mk (Value.type "tuple") none (Data.seq #[]) #[])) ::
  (@Prod.mk Nat Obj (nat_lit 55) (Obj.mk (Value.type "code") none (Data.fields #[Value.str (Str.ofString "close_now") 242, Value.str (Str.ofString "Closing.close_now") 243, Value.str (Str.ofString "/claim/cut.py") 244, Value.int 27 0, Value.int 4 0, Value.int 0 0, Value.int 0 0, Value.int 3 0, Value.ref 50, Value.bool true, Value.int 181 0, Value.ref 51, Value.none, Value.ref 52, Value.ref 53, Value.ref 54, Value.int 249 0, Value.int 27 0, Value.str (Str.ofString "/claim/cut.py") 250]) #[])) ::
  (@Prod.mk Nat Obj (nat_lit 56) (Obj.mk (Value.type "function") none (Data.func (FuncData.mk (Str.ofString "close_now") (Str.ofString "Closing.close_now") hda9_2 (FuncBody.stmts hdb9_2) hds9_2 3 [] Value.none Value.none Value.none (Value.str (Str.ofString "quic.closing") 204) none (Value.ref 55) Value.none 0)) #[])) ::
  (@Prod.mk Nat Obj (nat_lit 57) (Obj.mk (Value.type "tuple") none (Data.seq #[]) #[])) ::
  (@Prod.mk Nat Obj (nat_lit 59) (Obj.mk (Value.type "tuple") none (Data.seq #[Value.str (Str.ofString "self") 255, Value.str (Str.ofString "now") 256, Value.str (Str.ofString "probe_wait") 257, Value.str (Str.ofString "was_open") 258]) #[])) ::
  (@Prod.mk Nat Obj (nat_lit 60) (Obj.mk (Value.type "tuple") none (Data.seq #[]) #[])) ::
  (@Prod.mk Nat Obj (nat_lit 62) (Obj.mk (Value.type "code") none (Data.fields #[Value.str (Str.ofString "on_close") 252, Value.str (Str.ofString "Closing.on_close") 253, Value.str (Str.ofString "/claim/cut.py") 254, Value.int 35 0, Value.int 3 0, Value.int 0 0, Value.int 0 0, Value.int 3 0, Value.ref 57, Value.bool true, Value.int 181 0, Value.ref 58, Value.none, Value.ref 59, Value.ref 60, Value.ref 61, Value.int 259 0, Value.int 35 0, Value.str (Str.ofString "/claim/cut.py") 260]) #[])) ::
  (@Prod.mk Nat Obj (nat_lit 63) (Obj.mk (Value.type "function") none (Data.func (FuncData.mk (Str.ofString "on_close") (Str.ofString "Closing.on_close") hda9_3 (FuncBody.stmts hdb9_3) hds9_3 3 [] Value.none Value.none Value.none (Value.str (Str.ofString "quic.closing") 204) none (Value.ref 62) Value.none 0)) #[])) ::
  (@Prod.mk Nat Obj (nat_lit 64) (Obj.mk (Value.type "tuple") none (Data.seq #[]) #[])) ::
  (@Prod.mk Nat Obj (nat_lit 66) (Obj.mk (Value.type "tuple") none (Data.seq #[Value.str (Str.ofString "self") 265, Value.str (Str.ofString "now") 266, Value.str (Str.ofString "probe_wait") 267]) #[])) ::
  (@Prod.mk Nat Obj (nat_lit 67) (Obj.mk (Value.type "tuple") none (Data.seq #[]) #[])) ::
  (@Prod.mk Nat Obj (nat_lit 69) (Obj.mk (Value.type "code") none (Data.fields #[Value.str (Str.ofString "on_reset") 262, Value.str (Str.ofString "Closing.on_reset") 263, Value.str (Str.ofString "/claim/cut.py") 264, Value.int 44 0, Value.int 3 0, Value.int 0 0, Value.int 0 0, Value.int 3 0, Value.ref 64, Value.bool true, Value.int 181 0, Value.ref 65, Value.none, Value.ref 66, Value.ref 67, Value.ref 68, Value.int 268 0, Value.int 44 0, Value.str (Str.ofString "/claim/cut.py") 269]) #[])) ::
  (@Prod.mk Nat Obj (nat_lit 70) (Obj.mk (Value.type "function") none (Data.func (FuncData.mk (Str.ofString "on_reset") (Str.ofString "Closing.on_reset") hda9_4 (FuncBody.stmts hdb9_4) hds9_4 3 [] Value.none Value.none Value.none (Value.str (Str.ofString "quic.closing") 204) none (Value.ref 69) Value.none 0)) #[])) ::
  (@Prod.mk Nat Obj (nat_lit 71) (Obj.mk (Value.type "tuple") none (Data.seq #[]) #[])) ::
  (@Prod.mk Nat Obj (nat_lit 73) (Obj.mk (Value.type "tuple") none (Data.seq #[Value.str (Str.ofString "self") 274]) #[])) ::
  (@Prod.mk Nat Obj (nat_lit 74) (Obj.mk (Value.type "tuple") none (Data.seq #[]) #[])) ::
  (@Prod.mk Nat Obj (nat_lit 76) (Obj.mk (Value.type "code") none (Data.fields #[Value.str (Str.ofString "on_packet") 271, Value.str (Str.ofString "Closing.on_packet") 272, Value.str (Str.ofString "/claim/cut.py") 273, Value.int 49 0, Value.int 1 0, Value.int 0 0, Value.int 0 0, Value.int 3 0, Value.ref 71, Value.bool true, Value.int 181 0, Value.ref 72, Value.none, Value.ref 73, Value.ref 74, Value.ref 75, Value.int 275 0, Value.int 49 0, Value.str (Str.ofString "/claim/cut.py") 276]) #[])) ::
  (@Prod.mk Nat Obj (nat_lit 77) (Obj.mk (Value.type "function") none (Data.func (FuncData.mk (Str.ofString "on_packet") (Str.ofString "Closing.on_packet") hda9_5 (FuncBody.stmts hdb9_5) hds9_5 3 [] Value.none Value.none Value.none (Value.str (Str.ofString "quic.closing") 204) none (Value.ref 76) Value.none 0)) #[])) ::
  (@Prod.mk Nat Obj (nat_lit 78) (Obj.mk (Value.type "tuple") none (Data.seq #[]) #[])) ::
  (@Prod.mk Nat Obj (nat_lit 80) (Obj.mk (Value.type "tuple") none (Data.seq #[Value.str (Str.ofString "self") 281, Value.str (Str.ofString "now") 282]) #[])) ::
  (@Prod.mk Nat Obj (nat_lit 81) (Obj.mk (Value.type "tuple") none (Data.seq #[]) #[])) ::
  (@Prod.mk Nat Obj (nat_lit 83) (Obj.mk (Value.type "code") none (Data.fields #[Value.str (Str.ofString "on_time") 278, Value.str (Str.ofString "Closing.on_time") 279, Value.str (Str.ofString "/claim/cut.py") 280, Value.int 52 0, Value.int 2 0, Value.int 0 0, Value.int 0 0, Value.int 3 0, Value.ref 78, Value.bool true, Value.int 181 0, Value.ref 79, Value.none, Value.ref 80, Value.ref 81, Value.ref 82, Value.int 283 0, Value.int 52 0, Value.str (Str.ofString "/claim/cut.py") 284]) #[])) ::
  (@Prod.mk Nat Obj (nat_lit 84) (Obj.mk (Value.type "function") none (Data.func (FuncData.mk (Str.ofString "on_time") (Str.ofString "Closing.on_time") hda9_6 (FuncBody.stmts hdb9_6) hds9_6 3 [] Value.none Value.none Value.none (Value.str (Str.ofString "quic.closing") 204) none (Value.ref 83) Value.none 0)) #[])) ::
  (@Prod.mk Nat Obj (nat_lit 85) (Obj.mk (Value.type "tuple") none (Data.seq #[]) #[])) ::
  (@Prod.mk Nat Obj (nat_lit 87) (Obj.mk (Value.type "tuple") none (Data.seq #[Value.str (Str.ofString "self") 289]) #[])) ::
  (@Prod.mk Nat Obj (nat_lit 88) (Obj.mk (Value.type "tuple") none (Data.seq #[]) #[])) ::
  (@Prod.mk Nat Obj (nat_lit 90) (Obj.mk (Value.type "code") none (Data.fields #[Value.str (Str.ofString "give_up") 286, Value.str (Str.ofString "Closing.give_up") 287, Value.str (Str.ofString "/claim/cut.py") 288, Value.int 55 0, Value.int 1 0, Value.int 0 0, Value.int 0 0, Value.int 3 0, Value.ref 85, Value.bool true, Value.int 181 0, Value.ref 86, Value.none, Value.ref 87, Value.ref 88, Value.ref 89, Value.int 290 0, Value.int 55 0, Value.str (Str.ofString "/claim/cut.py") 291]) #[])) ::
  (@Prod.mk Nat Obj (nat_lit 91) (Obj.mk (Value.type "function") none (Data.func (FuncData.mk (Str.ofString "give_up") (Str.ofString "Closing.give_up") hda9_7 (FuncBody.stmts hdb9_7) hds9_7 3 [] Value.none Value.none Value.none (Value.str (Str.ofString "quic.closing") 204) none (Value.ref 90) Value.none 0)) #[])) ::
  (@Prod.mk Nat Obj (nat_lit 92) (Obj.mk (Value.type "tuple") none (Data.seq #[]) #[])) ::
  (@Prod.mk Nat Obj (nat_lit 94) (Obj.mk (Value.type "tuple") none (Data.seq #[Value.str (Str.ofString "self") 296]) #[])) ::
  (@Prod.mk Nat Obj (nat_lit 95) (Obj.mk (Value.type "tuple") none (Data.seq #[]) #[])) ::
  (@Prod.mk Nat Obj (nat_lit 97) (Obj.mk (Value.type "code") none (Data.fields #[Value.str (Str.ofString "next_time") 293, Value.str (Str.ofString "Closing.next_time") 294, Value.str (Str.ofString "/claim/cut.py") 295, Value.int 58 0, Value.int 1 0, Value.int 0 0, Value.int 0 0, Value.int 3 0, Value.ref 92, Value.bool true, Value.int 181 0, Value.ref 93, Value.none, Value.ref 94, Value.ref 95, Value.ref 96, Value.int 297 0, Value.int 58 0, Value.str (Str.ofString "/claim/cut.py") 298]) #[])) ::
  (@Prod.mk Nat Obj (nat_lit 98) (Obj.mk (Value.type "function") none (Data.func (FuncData.mk (Str.ofString "next_time") (Str.ofString "Closing.next_time") hda9_8 (FuncBody.stmts hdb9_8) hds9_8 3 [] Value.none Value.none Value.none (Value.str (Str.ofString "quic.closing") 204) none (Value.ref 97) Value.none 0)) #[])) ::
  (@Prod.mk Nat Obj (nat_lit 99) (Obj.mk (Value.type "tuple") none (Data.seq #[Value.str (Str.ofString "came") 300, Value.str (Str.ofString "end") 301, Value.str (Str.ofString "frame") 302, Value.str (Str.ofString "next_reply") 303, Value.str (Str.ofString "state") 304]) #[])) ::
  (@Prod.mk Nat Obj (nat_lit 100) (Obj.mk (Value.type "dict") none (Data.dict #[DictEntry.mk (PyData.keyHash P (Str.ofString "__module__")) (Value.str (Str.ofString "__module__") 223) (Value.str (Str.ofString "quic.closing") 204), DictEntry.mk (PyData.keyHash P (Str.ofString "__firstlineno__")) (Value.str (Str.ofString "__firstlineno__") 227) (Value.int 15 226), DictEntry.mk (PyData.keyHash P (Str.ofString "__init__")) (Value.str (Str.ofString "__init__") 234) (Value.ref 42), DictEntry.mk (PyData.keyHash P (Str.ofString "is_open")) (Value.str (Str.ofString "is_open") 241) (Value.ref 49), DictEntry.mk (PyData.keyHash P (Str.ofString "close_now")) (Value.str (Str.ofString "close_now") 251) (Value.ref 56), DictEntry.mk (PyData.keyHash P (Str.ofString "on_close")) (Value.str (Str.ofString "on_close") 261) (Value.ref 63), DictEntry.mk (PyData.keyHash P (Str.ofString "on_reset")) (Value.str (Str.ofString "on_reset") 270) (Value.ref 70), DictEntry.mk (PyData.keyHash P (Str.ofString "on_packet")) (Value.str (Str.ofString "on_packet") 277) (Value.ref 77), DictEntry.mk (PyData.keyHash P (Str.ofString "on_time")) (Value.str (Str.ofString "on_time") 285) (Value.ref 84), DictEntry.mk (PyData.keyHash P (Str.ofString "give_up")) (Value.str (Str.ofString "give_up") 292) (Value.ref 91), DictEntry.mk (PyData.keyHash P (Str.ofString "next_time")) (Value.str (Str.ofString "next_time") 299) (Value.ref 98), DictEntry.mk (PyData.keyHash P (Str.ofString "__static_attributes__")) (Value.str (Str.ofString "__static_attributes__") 305) (Value.ref 99), DictEntry.mk (PyData.keyHash P (Str.ofString "__dict__")) (Value.str (Str.ofString "__dict__") 307) (Value.ref 102), DictEntry.mk (PyData.keyHash P (Str.ofString "__weakref__")) (Value.str (Str.ofString "__weakref__") 309) (Value.ref 103), DictEntry.mk (PyData.keyHash P (Str.ofString "__doc__")) (Value.str (Str.ofString "__doc__") 310) Value.none] 4) #[])) ::
  (@Prod.mk Nat Obj (nat_lit 101) (Obj.mk (Value.type "type") none (Data.cls (ClassData.mk (Str.ofString "Closing") [Value.type "object"] [Value.ref 101, Value.type "object"] 100 (Str.ofString "Closing") true [] [] false none false)) #[none, none, some (Value.str (Str.ofString "Closing") 216), some (Value.str (Str.ofString "Closing") 224), some (Value.builtin "object.__new__"), some (Value.bool true)])) ::
  (@Prod.mk Nat Obj (nat_lit 102) (Obj.mk (Value.type "getset_descriptor") none (Data.fields #[Value.str (Str.ofString "__dict__") 306, Value.ref 101, Value.builtin "function.__dict__", Value.builtin "function.__dict__#set"]) #[])) ::
  (@Prod.mk Nat Obj (nat_lit 103) (Obj.mk (Value.type "getset_descriptor") none (Data.fields #[Value.str (Str.ofString "__weakref__") 308, Value.ref 101, Value.builtin "ExceptionGroup.__weakref__", Value.none]) #[])) ::
  (@Prod.mk Nat Obj (nat_lit 106) (Obj.mk (Value.type "tuple") none (Data.seq #[Value.type "Exception"]) #[])) ::
  (@Prod.mk Nat Obj (nat_lit 113) (Obj.mk (Value.type "tuple") none (Data.seq #[]) #[])) ::
  (@Prod.mk Nat Obj (nat_lit 115) (Obj.mk (Value.type "tuple") none (Data.seq #[Value.str (Str.ofString "self") 332, Value.str (Str.ofString "code") 333, Value.str (Str.ofString "frame_type") 334, Value.str (Str.ofString "text") 335]) #[])) ::
  (@Prod.mk Nat Obj (nat_lit 116) (Obj.mk (Value.type "tuple") none (Data.seq #[]) #[])) ::
  (@Prod.mk Nat Obj (nat_lit 118) (Obj.mk (Value.type "code") none (Data.fields #[Value.str (Str.ofString "__init__") 329, Value.str (Str.ofString "QuicError.__init__") 330, Value.str (Str.ofString "/claim/cut.py") 331, Value.int 64 0, Value.int 4 0, Value.int 0 0, Value.int 0 0, Value.int 3 0, Value.ref 113, Value.bool true, Value.int 181 0, Value.ref 114, Value.none, Value.ref 115, Value.ref 116, Value.ref 117, Value.int 336 0, Value.int 64 0, Value.str (Str.ofString "/claim/cut.py") 337]) #[])) ::
  (@Prod.mk Nat Obj (nat_lit 119) (Obj.mk (Value.type "function") none (Data.func (FuncData.mk (Str.ofString "__init__") (Str.ofString "QuicError.__init__") hda12_0 (FuncBody.stmts hdb12_0) hds12_0 3 [] Value.none Value.none Value.none (Value.str (Str.ofString "quic.errors") 313) none (Value.ref 118) Value.none 0)) #[])) ::
  (@Prod.mk Nat Obj (nat_lit 120) (Obj.mk (Value.type "tuple") none (Data.seq #[Value.str (Str.ofString "code") 339, Value.str (Str.ofString "frame_type") 340, Value.str (Str.ofString "text") 341]) #[])) ::
  (@Prod.mk Nat Obj (nat_lit 121) (Obj.mk (Value.type "dict") none (Data.dict #[DictEntry.mk (PyData.keyHash P (Str.ofString "__module__")) (Value.str (Str.ofString "__module__") 324) (Value.str (Str.ofString "quic.errors") 313), DictEntry.mk (PyData.keyHash P (Str.ofString "__firstlineno__")) (Value.str (Str.ofString "__firstlineno__") 328) (Value.int 62 327), DictEntry.mk (PyData.keyHash P (Str.ofString "__init__")) (Value.str (Str.ofString "__init__") 338) (Value.ref 119), DictEntry.mk (PyData.keyHash P (Str.ofString "__static_attributes__")) (Value.str (Str.ofString "__static_attributes__") 342) (Value.ref 120), DictEntry.mk (PyData.keyHash P (Str.ofString "__weakref__")) (Value.str (Str.ofString "__weakref__") 344) (Value.ref 123), DictEntry.mk (PyData.keyHash P (Str.ofString "__doc__")) (Value.str (Str.ofString "__doc__") 345) Value.none] 3) #[])) ::
  (@Prod.mk Nat Obj (nat_lit 122) (Obj.mk (Value.type "type") none (Data.cls (ClassData.mk (Str.ofString "QuicError") [Value.type "Exception"] [Value.ref 122, Value.type "Exception", Value.type "BaseException", Value.type "object"] 121 (Str.ofString "QuicError") true [] [] false none false)) #[some (Value.ref 106), none, some (Value.str (Str.ofString "QuicError") 317), some (Value.str (Str.ofString "QuicError") 325), some (Value.builtin "Exception.__new__"), some (Value.bool true)])) ::
  (@Prod.mk Nat Obj (nat_lit 123) (Obj.mk (Value.type "getset_descriptor") none (Data.fields #[Value.str (Str.ofString "__weakref__") 343, Value.ref 122, Value.builtin "ExceptionGroup.__weakref__", Value.none]) #[])) ::
  (@Prod.mk Nat Obj (nat_lit 126) (Obj.mk (Value.type "tuple") none (Data.seq #[Value.int 1 352, Value.int 2 353, Value.int 4 354, Value.int 8 355]) #[])) ::
  (@Prod.mk Nat Obj (nat_lit 127) (Obj.mk (Value.type "tuple") none (Data.seq #[]) #[])) ::
  (@Prod.mk Nat Obj (nat_lit 129) (Obj.mk (Value.type "tuple") none (Data.seq #[Value.str (Str.ofString "n") 360, Value.str (Str.ofString "size") 361, Value.str (Str.ofString "found") 362, Value.str (Str.ofString "place") 363]) #[])) ::
  (@Prod.mk Nat Obj (nat_lit 130) (Obj.mk (Value.type "tuple") none (Data.seq #[]) #[])) ::
  (@Prod.mk Nat Obj (nat_lit 132) (Obj.mk (Value.type "code") none (Data.fields #[Value.str (Str.ofString "put_whole") 357, Value.str (Str.ofString "put_whole") 358, Value.str (Str.ofString "/claim/cut.py") 359, Value.int 71 0, Value.int 2 0, Value.int 0 0, Value.int 0 0, Value.int 3 0, Value.ref 127, Value.bool true, Value.int 181 0, Value.ref 128, Value.none, Value.ref 129, Value.ref 130, Value.ref 131, Value.int 364 0, Value.int 71 0, Value.str (Str.ofString "/claim/cut.py") 365]) #[])) ::
  (@Prod.mk Nat Obj (nat_lit 133) (Obj.mk (Value.type "function") none (Data.func (FuncData.mk (Str.ofString "put_whole") (Str.ofString "put_whole") hda15 (FuncBody.stmts hdb15) hds15 3 [] Value.none Value.none Value.none (Value.str (Str.ofString "quic.varint") 350) none (Value.ref 132) Value.none 0)) #[])) ::
  (@Prod.mk Nat Obj (nat_lit 134) (Obj.mk (Value.type "tuple") none (Data.seq #[]) #[])) ::
  (@Prod.mk Nat Obj (nat_lit 136) (Obj.mk (Value.type "tuple") none (Data.seq #[Value.str (Str.ofString "n") 370, Value.str (Str.ofString "size") 371]) #[])) ::
  (@Prod.mk Nat Obj (nat_lit 137) (Obj.mk (Value.type "tuple") none (Data.seq #[]) #[])) ::
  (@Prod.mk Nat Obj (nat_lit 139) (Obj.mk (Value.type "code") none (Data.fields #[Value.str (Str.ofString "varint_size") 367, Value.str (Str.ofString "varint_size") 368, Value.str (Str.ofString "/claim/cut.py") 369, Value.int 79 0, Value.int 1 0, Value.int 0 0, Value.int 0 0, Value.int 3 0, Value.ref 134, Value.bool true, Value.int 181 0, Value.ref 135, Value.none, Value.ref 136, Value.ref 137, Value.ref 138, Value.int 372 0, Value.int 79 0, Value.str (Str.ofString "/claim/cut.py") 373]) #[])) ::
  (@Prod.mk Nat Obj (nat_lit 140) (Obj.mk (Value.type "function") none (Data.func (FuncData.mk (Str.ofString "varint_size") (Str.ofString "varint_size") hda16 (FuncBody.stmts hdb16) hds16 3 [] Value.none Value.none Value.none (Value.str (Str.ofString "quic.varint") 350) none (Value.ref 139) Value.none 0)) #[])) ::
  (@Prod.mk Nat Obj (nat_lit 141) (Obj.mk (Value.type "tuple") none (Data.seq #[]) #[])) ::
  (@Prod.mk Nat Obj (nat_lit 143) (Obj.mk (Value.type "tuple") none (Data.seq #[Value.str (Str.ofString "n") 378, Value.str (Str.ofString "size") 379, Value.str (Str.ofString "least") 380]) #[])) ::
  (@Prod.mk Nat Obj (nat_lit 144) (Obj.mk (Value.type "tuple") none (Data.seq #[]) #[])) ::
  (@Prod.mk Nat Obj (nat_lit 146) (Obj.mk (Value.type "code") none (Data.fields #[Value.str (Str.ofString "put_varint") 375, Value.str (Str.ofString "put_varint") 376, Value.str (Str.ofString "/claim/cut.py") 377, Value.int 84 0, Value.int 2 0, Value.int 0 0, Value.int 0 0, Value.int 3 0, Value.ref 141, Value.bool true, Value.int 181 0, Value.ref 142, Value.none, Value.ref 143, Value.ref 144, Value.ref 145, Value.int 381 0, Value.int 84 0, Value.str (Str.ofString "/claim/cut.py") 382]) #[])) ::
  (@Prod.mk Nat Obj (nat_lit 147) (Obj.mk (Value.type "function") none (Data.func (FuncData.mk (Str.ofString "put_varint") (Str.ofString "put_varint") hda17 (FuncBody.stmts hdb17) hds17 3 [] Value.none Value.none Value.none (Value.str (Str.ofString "quic.varint") 350) none (Value.ref 146) Value.none 0)) #[])) ::
  (@Prod.mk Nat Obj (nat_lit 148) (Obj.mk (Value.type "list") none (Data.seq #[Value.str (Str.ofString "initial") 386, Value.str (Str.ofString "zero") 387, Value.str (Str.ofString "handshake") 388, Value.str (Str.ofString "retry") 389]) #[])) ::
  (@Prod.mk Nat Obj (nat_lit 149) (Obj.mk (Value.type "tuple") none (Data.seq #[]) #[])) ::
  (@Prod.mk Nat Obj (nat_lit 151) (Obj.mk (Value.type "tuple") none (Data.seq #[Value.str (Str.ofString "dcid") 394, Value.str (Str.ofString "scid") 395]) #[])) ::
  (@Prod.mk Nat Obj (nat_lit 152) (Obj.mk (Value.type "tuple") none (Data.seq #[]) #[])) ::
  (@Prod.mk Nat Obj (nat_lit 154) (Obj.mk (Value.type "code") none (Data.fields #[Value.str (Str.ofString "put_ids") 391, Value.str (Str.ofString "put_ids") 392, Value.str (Str.ofString "/claim/cut.py") 393, Value.int 93 0, Value.int 2 0, Value.int 0 0, Value.int 0 0, Value.int 3 0, Value.ref 149, Value.bool true, Value.int 181 0, Value.ref 150, Value.none, Value.ref 151, Value.ref 152, Value.ref 153, Value.int 396 0, Value.int 93 0, Value.str (Str.ofString "/claim/cut.py") 397]) #[])) ::
  (@Prod.mk Nat Obj (nat_lit 155) (Obj.mk (Value.type "function") none (Data.func (FuncData.mk (Str.ofString "put_ids") (Str.ofString "put_ids") hda20 (FuncBody.stmts hdb20) hds20 3 [] Value.none Value.none Value.none (Value.str (Str.ofString "quic.longheads") 384) none (Value.ref 154) Value.none 0)) #[])) ::
  (@Prod.mk Nat Obj (nat_lit 156) (Obj.mk (Value.type "tuple") none (Data.seq #[]) #[])) ::
  (@Prod.mk Nat Obj (nat_lit 158) (Obj.mk (Value.type "tuple") none (Data.seq #[Value.str (Str.ofString "kind") 402, Value.str (Str.ofString "low_bits") 403]) #[])) ::
  (@Prod.mk Nat Obj (nat_lit 159) (Obj.mk (Value.type "tuple") none (Data.seq #[]) #[])) ::
  (@Prod.mk Nat Obj (nat_lit 161) (Obj.mk (Value.type "code") none (Data.fields #[Value.str (Str.ofString "long_first") 399, Value.str (Str.ofString "long_first") 400, Value.str (Str.ofString "/claim/cut.py") 401, Value.int 95 0, Value.int 2 0, Value.int 0 0, Value.int 0 0, Value.int 3 0, Value.ref 156, Value.bool true, Value.int 181 0, Value.ref 157, Value.none, Value.ref 158, Value.ref 159, Value.ref 160, Value.int 404 0, Value.int 95 0, Value.str (Str.ofString "/claim/cut.py") 405]) #[])) ::
  (@Prod.mk Nat Obj (nat_lit 162) (Obj.mk (Value.type "function") none (Data.func (FuncData.mk (Str.ofString "long_first") (Str.ofString "long_first") hda21 (FuncBody.stmts hdb21) hds21 3 [] Value.none Value.none Value.none (Value.str (Str.ofString "quic.longheads") 384) none (Value.ref 161) Value.none 0)) #[])) ::
  (@Prod.mk Nat Obj (nat_lit 163) (Obj.mk (Value.type "tuple") none (Data.seq #[]) #[])) ::
  (@Prod.mk Nat Obj (nat_lit 165) (Obj.mk (Value.type "tuple") none (Data.seq #[Value.str (Str.ofString "kind") 410, Value.str (Str.ofString "version") 411, Value.str (Str.ofString "dcid") 412, Value.str (Str.ofString "scid") 413, Value.str (Str.ofString "token") 414, Value.str (Str.ofString "rest_size") 415, Value.str (Str.ofString "number_size") 416, Value.str (Str.ofString "head") 417]) #[])) ::
  (@Prod.mk Nat Obj (nat_lit 166) (Obj.mk (Value.type "tuple") none (Data.seq #[]) #[])) ::
  (@Prod.mk Nat Obj (nat_lit 168) (Obj.mk (Value.type "code") none (Data.fields #[Value.str (Str.ofString "long_head") 407, Value.str (Str.ofString "long_head") 408, Value.str (Str.ofString "/claim/cut.py") 409, Value.int 97 0, Value.int 7 0, Value.int 0 0, Value.int 0 0, Value.int 3 0, Value.ref 163, Value.bool true, Value.int 181 0, Value.ref 164, Value.none, Value.ref 165, Value.ref 166, Value.ref 167, Value.int 418 0, Value.int 97 0, Value.str (Str.ofString "/claim/cut.py") 419]) #[])) ::
  (@Prod.mk Nat Obj (nat_lit 169) (Obj.mk (Value.type "function") none (Data.func (FuncData.mk (Str.ofString "long_head") (Str.ofString "long_head") hda22 (FuncBody.stmts hdb22) hds22 3 [] Value.none Value.none Value.none (Value.str (Str.ofString "quic.longheads") 384) none (Value.ref 168) Value.none 0)) #[])) ::
  (@Prod.mk Nat Obj (nat_lit 170) (Obj.mk (Value.type "tuple") none (Data.seq #[]) #[])) ::
  (@Prod.mk Nat Obj (nat_lit 172) (Obj.mk (Value.type "tuple") none (Data.seq #[Value.str (Str.ofString "full") 428, Value.str (Str.ofString "largest_acked") 429, Value.str (Str.ofString "apart") 430, Value.str (Str.ofString "size") 431]) #[])) ::
  (@Prod.mk Nat Obj (nat_lit 173) (Obj.mk (Value.type "tuple") none (Data.seq #[]) #[])) ::
  (@Prod.mk Nat Obj (nat_lit 175) (Obj.mk (Value.type "code") none (Data.fields #[Value.str (Str.ofString "number_size") 425, Value.str (Str.ofString "number_size") 426, Value.str (Str.ofString "/claim/cut.py") 427, Value.int 104 0, Value.int 2 0, Value.int 0 0, Value.int 0 0, Value.int 3 0, Value.ref 170, Value.bool true, Value.int 181 0, Value.ref 171, Value.none, Value.ref 172, Value.ref 173, Value.ref 174, Value.int 432 0, Value.int 104 0, Value.str (Str.ofString "/claim/cut.py") 433]) #[])) ::
  (@Prod.mk Nat Obj (nat_lit 176) (Obj.mk (Value.type "function") none (Data.func (FuncData.mk (Str.ofString "number_size") (Str.ofString "number_size") hda25 (FuncBody.stmts hdb25) hds25 3 [] Value.none Value.none Value.none (Value.str (Str.ofString "quic.pnum") 421) none (Value.ref 175) Value.none 0)) #[])) ::
  (@Prod.mk Nat Obj (nat_lit 177) (Obj.mk (Value.type "tuple") none (Data.seq #[]) #[])) ::
  (@Prod.mk Nat Obj (nat_lit 179) (Obj.mk (Value.type "tuple") none (Data.seq #[Value.str (Str.ofString "full") 438, Value.str (Str.ofString "largest_acked") 439, Value.str (Str.ofString "size") 440]) #[])) ::
  (@Prod.mk Nat Obj (nat_lit 180) (Obj.mk (Value.type "tuple") none (Data.seq #[]) #[])) ::
  (@Prod.mk Nat Obj (nat_lit 182) (Obj.mk (Value.type "code") none (Data.fields #[Value.str (Str.ofString "cut_number") 435, Value.str (Str.ofString "cut_number") 436, Value.str (Str.ofString "/claim/cut.py") 437, Value.int 110 0, Value.int 2 0, Value.int 0 0, Value.int 0 0, Value.int 3 0, Value.ref 177, Value.bool true, Value.int 181 0, Value.ref 178, Value.none, Value.ref 179, Value.ref 180, Value.ref 181, Value.int 441 0, Value.int 110 0, Value.str (Str.ofString "/claim/cut.py") 442]) #[])) ::
  (@Prod.mk Nat Obj (nat_lit 183) (Obj.mk (Value.type "function") none (Data.func (FuncData.mk (Str.ofString "cut_number") (Str.ofString "cut_number") hda26 (FuncBody.stmts hdb26) hds26 3 [] Value.none Value.none Value.none (Value.str (Str.ofString "quic.pnum") 421) none (Value.ref 182) Value.none 0)) #[])) ::
  (@Prod.mk Nat Obj (nat_lit 184) (Obj.mk (Value.type "tuple") none (Data.seq #[]) #[])) ::
  (@Prod.mk Nat Obj (nat_lit 186) (Obj.mk (Value.type "tuple") none (Data.seq #[Value.str (Str.ofString "payload") 451, Value.str (Str.ofString "number_size") 452, Value.str (Str.ofString "lacking") 453]) #[])) ::
  (@Prod.mk Nat Obj (nat_lit 187) (Obj.mk (Value.type "tuple") none (Data.seq #[]) #[])) ::
  (@Prod.mk Nat Obj (nat_lit 189) (Obj.mk (Value.type "code") none (Data.fields #[Value.str (Str.ofString "padded_payload") 448, Value.str (Str.ofString "padded_payload") 449, Value.str (Str.ofString "/claim/cut.py") 450, Value.int 115 0, Value.int 2 0, Value.int 0 0, Value.int 0 0, Value.int 3 0, Value.ref 184, Value.bool true, Value.int 181 0, Value.ref 185, Value.none, Value.ref 186, Value.ref 187, Value.ref 188, Value.int 454 0, Value.int 115 0, Value.str (Str.ofString "/claim/cut.py") 455]) #[])) ::
  (@Prod.mk Nat Obj (nat_lit 190) (Obj.mk (Value.type "function") none (Data.func (FuncData.mk (Str.ofString "padded_payload") (Str.ofString "padded_payload") hda29 (FuncBody.stmts hdb29) hds29 3 [] Value.none Value.none Value.none (Value.str (Str.ofString "quic.seal") 444) none (Value.ref 189) Value.none 0)) #[])) ::
  (@Prod.mk Nat Obj (nat_lit 191) (Obj.mk (Value.type "tuple") none (Data.seq #[]) #[])) ::
  (@Prod.mk Nat Obj (nat_lit 193) (Obj.mk (Value.type "tuple") none (Data.seq #[Value.str (Str.ofString "spin") 462, Value.str (Str.ofString "key_phase") 463, Value.str (Str.ofString "dcid") 464, Value.str (Str.ofString "number_size") 465]) #[])) ::
  (@Prod.mk Nat Obj (nat_lit 194) (Obj.mk (Value.type "tuple") none (Data.seq #[]) #[])) ::
  (@Prod.mk Nat Obj (nat_lit 196) (Obj.mk (Value.type "code") none (Data.fields #[Value.str (Str.ofString "short_head") 459, Value.str (Str.ofString "short_head") 460, Value.str (Str.ofString "/claim/cut.py") 461, Value.int 119 0, Value.int 4 0, Value.int 0 0, Value.int 0 0, Value.int 3 0, Value.ref 191, Value.bool true, Value.int 181 0, Value.ref 192, Value.none, Value.ref 193, Value.ref 194, Value.ref 195, Value.int 466 0, Value.int 119 0, Value.str (Str.ofString "/claim/cut.py") 467]) #[])) ::
  (@Prod.mk Nat Obj (nat_lit 197) (Obj.mk (Value.type "function") none (Data.func (FuncData.mk (Str.ofString "short_head") (Str.ofString "short_head") hda31 (FuncBody.stmts hdb31) hds31 3 [] Value.none Value.none Value.none (Value.str (Str.ofString "quic.shorthead") 457) none (Value.ref 196) Value.none 0)) #[])) ::
  (@Prod.mk Nat Obj (nat_lit 198) (Obj.mk (Value.type "tuple") none (Data.seq #[]) #[])) ::
  (@Prod.mk Nat Obj (nat_lit 200) (Obj.mk (Value.type "tuple") none (Data.seq #[Value.str (Str.ofString "packet") 472, Value.str (Str.ofString "number_size") 473, Value.str (Str.ofString "payload") 474, Value.str (Str.ofString "kind") 475, Value.str (Str.ofString "rest") 476, Value.str (Str.ofString "token") 477]) #[])) ::
  (@Prod.mk Nat Obj (nat_lit 201) (Obj.mk (Value.type "tuple") none (Data.seq #[]) #[])) ::
  (@Prod.mk Nat Obj (nat_lit 203) (Obj.mk (Value.type "code") none (Data.fields #[Value.str (Str.ofString "head_of") 469, Value.str (Str.ofString "head_of") 470, Value.str (Str.ofString "/claim/cut.py") 471, Value.int 121 0, Value.int 3 0, Value.int 0 0, Value.int 0 0, Value.int 3 0, Value.ref 198, Value.bool true, Value.int 181 0, Value.ref 199, Value.none, Value.ref 200, Value.ref 201, Value.ref 202, Value.int 478 0, Value.int 121 0, Value.str (Str.ofString "/claim/cut.py") 479]) #[])) ::
  (@Prod.mk Nat Obj (nat_lit 204) (Obj.mk (Value.type "function") none (Data.func (FuncData.mk (Str.ofString "head_of") (Str.ofString "head_of") hda32 (FuncBody.stmts hdb32) hds32 3 [] Value.none Value.none Value.none (Value.str (Str.ofString "quic.shorthead") 457) none (Value.ref 203) Value.none 0)) #[])) ::
  (@Prod.mk Nat Obj (nat_lit 205) (Obj.mk (Value.type "tuple") none (Data.seq #[]) #[])) ::
  (@Prod.mk Nat Obj (nat_lit 207) (Obj.mk (Value.type "tuple") none (Data.seq #[Value.str (Str.ofString "packet") 484]) #[])) ::
  (@Prod.mk Nat Obj (nat_lit 208) (Obj.mk (Value.type "tuple") none (Data.seq #[]) #[])) ::
  (@Prod.mk Nat Obj (nat_lit 210) (Obj.mk (Value.type "code") none (Data.fields #[Value.str (Str.ofString "number_in") 481, Value.str (Str.ofString "number_in") 482, Value.str (Str.ofString "/claim/cut.py") 483, Value.int 128 0, Value.int 1 0, Value.int 0 0, Value.int 0 0, Value.int 3 0, Value.ref 205, Value.bool true, Value.int 181 0, Value.ref 206, Value.none, Value.ref 207, Value.ref 208, Value.ref 209, Value.int 485 0, Value.int 128 0, Value.str (Str.ofString "/claim/cut.py") 486]) #[])) ::
  (@Prod.mk Nat Obj (nat_lit 211) (Obj.mk (Value.type "function") none (Data.func (FuncData.mk (Str.ofString "number_in") (Str.ofString "number_in") hda33 (FuncBody.stmts hdb33) hds33 3 [] Value.none Value.none Value.none (Value.str (Str.ofString "quic.shorthead") 457) none (Value.ref 210) Value.none 0)) #[])) ::
  (@Prod.mk Nat Obj (nat_lit 212) (Obj.mk (Value.type "tuple") none (Data.seq #[]) #[])) ::
  (@Prod.mk Nat Obj (nat_lit 214) (Obj.mk (Value.type "tuple") none (Data.seq #[Value.str (Str.ofString "packet") 491, Value.str (Str.ofString "largest_acked") 492, Value.str (Str.ofString "cut") 493, Value.str (Str.ofString "payload") 494]) #[])) ::
  (@Prod.mk Nat Obj (nat_lit 215) (Obj.mk (Value.type "tuple") none (Data.seq #[]) #[])) ::
  (@Prod.mk Nat Obj (nat_lit 217) (Obj.mk (Value.type "code") none (Data.fields #[Value.str (Str.ofString "packet_size") 488, Value.str (Str.ofString "packet_size") 489, Value.str (Str.ofString "/claim/cut.py") 490, Value.int 130 0, Value.int 2 0, Value.int 0 0, Value.int 0 0, Value.int 3 0, Value.ref 212, Value.bool true, Value.int 181 0, Value.ref 213, Value.none, Value.ref 214, Value.ref 215, Value.ref 216, Value.int 495 0, Value.int 130 0, Value.str (Str.ofString "/claim/cut.py") 496]) #[])) ::
  (@Prod.mk Nat Obj (nat_lit 218) (Obj.mk (Value.type "function") none (Data.func (FuncData.mk (Str.ofString "packet_size") (Str.ofString "packet_size") hda34 (FuncBody.stmts hdb34) hds34 3 [] Value.none Value.none Value.none (Value.str (Str.ofString "quic.shorthead") 457) none (Value.ref 217) Value.none 0)) #[])) ::
  (@Prod.mk Nat Obj (nat_lit 219) (Obj.mk (Value.type "tuple") none (Data.seq #[]) #[])) ::
  (@Prod.mk Nat Obj (nat_lit 221) (Obj.mk (Value.type "tuple") none (Data.seq #[Value.str (Str.ofString "ids") 505, Value.str (Str.ofString "space") 506, Value.str (Str.ofString "number") 507, Value.str (Str.ofString "payload") 508, Value.str (Str.ofString "dcid") 509, Value.str (Str.ofString "scid") 510]) #[])) ::
  (@Prod.mk Nat Obj (nat_lit 222) (Obj.mk (Value.type "tuple") none (Data.seq #[]) #[])) ::
  (@Prod.mk Nat Obj (nat_lit 224) (Obj.mk (Value.type "code") none (Data.fields #[Value.str (Str.ofString "packet_with") 502, Value.str (Str.ofString "packet_with") 503, Value.str (Str.ofString "/claim/cut.py") 504, Value.int 136 0, Value.int 4 0, Value.int 0 0, Value.int 0 0, Value.int 3 0, Value.ref 219, Value.bool true, Value.int 181 0, Value.ref 220, Value.none, Value.ref 221, Value.ref 222, Value.ref 223, Value.int 511 0, Value.int 136 0, Value.str (Str.ofString "/claim/cut.py") 512]) #[])) ::
  (@Prod.mk Nat Obj (nat_lit 225) (Obj.mk (Value.type "function") none (Data.func (FuncData.mk (Str.ofString "packet_with") (Str.ofString "packet_with") hda37 (FuncBody.stmts hdb37) hds37 3 [] Value.none Value.none Value.none (Value.str (Str.ofString "quic.datagrams") 498) none (Value.ref 224) Value.none 0)) #[])) ::
  (@Prod.mk Nat Obj (nat_lit 226) (Obj.mk (Value.type "tuple") none (Data.seq #[]) #[])) ::
  (@Prod.mk Nat Obj (nat_lit 228) (Obj.mk (Value.type "tuple") none (Data.seq #[Value.str (Str.ofString "ids") 517, Value.str (Str.ofString "places") 518, Value.str (Str.ofString "space") 519, Value.str (Str.ofString "number") 520, Value.str (Str.ofString "acked") 521]) #[])) ::
  (@Prod.mk Nat Obj (nat_lit 229) (Obj.mk (Value.type "tuple") none (Data.seq #[]) #[])) ::
  (@Prod.mk Nat Obj (nat_lit 231) (Obj.mk (Value.type "code") none (Data.fields #[Value.str (Str.ofString "head_octets") 514, Value.str (Str.ofString "head_octets") 515, Value.str (Str.ofString "/claim/cut.py") 516, Value.int 143 0, Value.int 3 0, Value.int 0 0, Value.int 0 0, Value.int 3 0, Value.ref 226, Value.bool true, Value.int 181 0, Value.ref 227, Value.none, Value.ref 228, Value.ref 229, Value.ref 230, Value.int 522 0, Value.int 143 0, Value.str (Str.ofString "/claim/cut.py") 523]) #[])) ::
  (@Prod.mk Nat Obj (nat_lit 232) (Obj.mk (Value.type "function") none (Data.func (FuncData.mk (Str.ofString "head_octets") (Str.ofString "head_octets") hda38 (FuncBody.stmts hdb38) hds38 3 [] Value.none Value.none Value.none (Value.str (Str.ofString "quic.datagrams") 498) none (Value.ref 231) Value.none 0)) #[])) ::
  (@Prod.mk Nat Obj (nat_lit 240) (Obj.mk (Value.type "tuple") none (Data.seq #[]) #[])) ::
  (@Prod.mk Nat Obj (nat_lit 242) (Obj.mk (Value.type "tuple") none (Data.seq #[Value.str (Str.ofString "self") 542, Value.str (Str.ofString "name") 543]) #[])) ::
  (@Prod.mk Nat Obj (nat_lit 243) (Obj.mk (Value.type "tuple") none (Data.seq #[]) #[])) ::
  (@Prod.mk Nat Obj (nat_lit 245) (Obj.mk (Value.type "code") none (Data.fields #[Value.str (Str.ofString "__init__") 539, Value.str (Str.ofString "Space.__init__") 540, Value.str (Str.ofString "/claim/cut.py") 541, Value.int 149 0, Value.int 2 0, Value.int 0 0, Value.int 0 0, Value.int 3 0, Value.ref 240, Value.bool true, Value.int 181 0, Value.ref 241, Value.none, Value.ref 242, Value.ref 243, Value.ref 244, Value.int 544 0, Value.int 149 0, Value.str (Str.ofString "/claim/cut.py") 545]) #[])) ::
  (@Prod.mk Nat Obj (nat_lit 246) (Obj.mk (Value.type "function") none (Data.func (FuncData.mk (Str.ofString "__init__") (Str.ofString "Space.__init__") hda40_0 (FuncBody.stmts hdb40_0) hds40_0 3 [] Value.none Value.none Value.none (Value.str (Str.ofString "quic.spaces") 525) none (Value.ref 245) Value.none 0)) #[])) ::
  (@Prod.mk Nat Obj (nat_lit 247) (Obj.mk (Value.type "tuple") none (Data.seq #[]) #[])) ::
  (@Prod.mk Nat Obj (nat_lit 249) (Obj.mk (Value.type "tuple") none (Data.seq #[Value.str (Str.ofString "self") 550, Value.str (Str.ofString "number") 551]) #[])) ::
  (@Prod.mk Nat Obj (nat_lit 250) (Obj.mk (Value.type "tuple") none (Data.seq #[]) #[])) ::
  (@Prod.mk Nat Obj (nat_lit 252) (Obj.mk (Value.type "code") none (Data.fields #[Value.str (Str.ofString "is_known") 547, Value.str (Str.ofString "Space.is_known") 548, Value.str (Str.ofString "/claim/cut.py") 549, Value.int 168 0, Value.int 2 0, Value.int 0 0, Value.int 0 0, Value.int 3 0, Value.ref 247, Value.bool true, Value.int 181 0, Value.ref 248, Value.none, Value.ref 249, Value.ref 250, Value.ref 251, Value.int 552 0, Value.int 168 0, Value.str (Str.ofString "/claim/cut.py") 553]) #[])) ::
  (@Prod.mk Nat Obj (nat_lit 253) (Obj.mk (Value.type "function") none (Data.func (FuncData.mk (Str.ofString "is_known") (Str.ofString "Space.is_known") hda40_1 (FuncBody.stmts hdb40_1) hds40_1 3 [] Value.none Value.none Value.none (Value.str (Str.ofString "quic.spaces") 525) none (Value.ref 252) Value.none 0)) #[])) ::
  (@Prod.mk Nat Obj (nat_lit 254) (Obj.mk (Value.type "tuple") none (Data.seq #[]) #[])) ::
  (@Prod.mk Nat Obj (nat_lit 256) (Obj.mk (Value.type "tuple") none (Data.seq #[Value.str (Str.ofString "self") 558, Value.str (Str.ofString "number") 559, Value.str (Str.ofString "now") 560, Value.str (Str.ofString "has_eliciting") 561, Value.str (Str.ofString "mark") 562]) #[])) ::
  (@Prod.mk Nat Obj (nat_lit 257) (Obj.mk (Value.type "tuple") none (Data.seq #[]) #[])) ::
  (@Prod.mk Nat Obj (nat_lit 259) (Obj.mk (Value.type "code") none (Data.fields #[Value.str (Str.ofString "on_received") 555, Value.str (Str.ofString "Space.on_received") 556, Value.str (Str.ofString "/claim/cut.py") 557, Value.int 171 0, Value.int 5 0, Value.int 0 0, Value.int 0 0, Value.int 3 0, Value.ref 254, Value.bool true, Value.int 181 0, Value.ref 255, Value.none, Value.ref 256, Value.ref 257, Value.ref 258, Value.int 563 0, Value.int 171 0, Value.str (Str.ofString "/claim/cut.py") 564]) #[])) ::
  (@Prod.mk Nat Obj (nat_lit 260) (Obj.mk (Value.type "function") none (Data.func (FuncData.mk (Str.ofString "on_received") (Str.ofString "Space.on_received") hda40_2 (FuncBody.stmts hdb40_2) hds40_2 3 [] Value.none Value.none Value.none (Value.str (Str.ofString "quic.spaces") 525) none (Value.ref 259) Value.none 0)) #[])) ::
  (@Prod.mk Nat Obj (nat_lit 261) (Obj.mk (Value.type "tuple") none (Data.seq #[]) #[])) ::
  (@Prod.mk Nat Obj (nat_lit 263) (Obj.mk (Value.type "tuple") none (Data.seq #[Value.str (Str.ofString "self") 569, Value.str (Str.ofString "now") 570, Value.str (Str.ofString "exponent") 571]) #[])) ::
  (@Prod.mk Nat Obj (nat_lit 264) (Obj.mk (Value.type "tuple") none (Data.seq #[]) #[])) ::
  (@Prod.mk Nat Obj (nat_lit 266) (Obj.mk (Value.type "code") none (Data.fields #[Value.str (Str.ofString "ack_frame") 566, Value.str (Str.ofString "Space.ack_frame") 567, Value.str (Str.ofString "/claim/cut.py") 568, Value.int 174 0, Value.int 3 0, Value.int 0 0, Value.int 0 0, Value.int 3 0, Value.ref 261, Value.bool true, Value.int 181 0, Value.ref 262, Value.none, Value.ref 263, Value.ref 264, Value.ref 265, Value.int 572 0, Value.int 174 0, Value.str (Str.ofString "/claim/cut.py") 573]) #[])) ::
  (@Prod.mk Nat Obj (nat_lit 267) (Obj.mk (Value.type "function") none (Data.func (FuncData.mk (Str.ofString "ack_frame") (Str.ofString "Space.ack_frame") hda40_3 (FuncBody.stmts hdb40_3) hds40_3 3 [] Value.none Value.none Value.none (Value.str (Str.ofString "quic.spaces") 525) none (Value.ref 266) Value.none 0)) #[])) ::
  (@Prod.mk Nat Obj (nat_lit 268) (Obj.mk (Value.type "tuple") none (Data.seq #[]) #[])) ::
  (@Prod.mk Nat Obj (nat_lit 270) (Obj.mk (Value.type "tuple") none (Data.seq #[Value.str (Str.ofString "self") 578]) #[])) ::
  (@Prod.mk Nat Obj (nat_lit 271) (Obj.mk (Value.type "tuple") none (Data.seq #[]) #[])) ::
  (@Prod.mk Nat Obj (nat_lit 273) (Obj.mk (Value.type "code") none (Data.fields #[Value.str (Str.ofString "on_ack_sent") 575, Value.str (Str.ofString "Space.on_ack_sent") 576, Value.str (Str.ofString "/claim/cut.py") 577, Value.int 177 0, Value.int 1 0, Value.int 0 0, Value.int 0 0, Value.int 3 0, Value.ref 268, Value.bool true, Value.int 181 0, Value.ref 269, Value.none, Value.ref 270, Value.ref 271, Value.ref 272, Value.int 579 0, Value.int 177 0, Value.str (Str.ofString "/claim/cut.py") 580]) #[])) ::
  (@Prod.mk Nat Obj (nat_lit 274) (Obj.mk (Value.type "function") none (Data.func (FuncData.mk (Str.ofString "on_ack_sent") (Str.ofString "Space.on_ack_sent") hda40_4 (FuncBody.stmts hdb40_4) hds40_4 3 [] Value.none Value.none Value.none (Value.str (Str.ofString "quic.spaces") 525) none (Value.ref 273) Value.none 0)) #[])) ::
  (@Prod.mk Nat Obj (nat_lit 275) (Obj.mk (Value.type "tuple") none (Data.seq #[]) #[])) ::
  (@Prod.mk Nat Obj (nat_lit 277) (Obj.mk (Value.type "tuple") none (Data.seq #[Value.str (Str.ofString "self") 585]) #[])) ::
  (@Prod.mk Nat Obj (nat_lit 278) (Obj.mk (Value.type "tuple") none (Data.seq #[]) #[])) ::
  (@Prod.mk Nat Obj (nat_lit 280) (Obj.mk (Value.type "code") none (Data.fields #[Value.str (Str.ofString "owes_ack") 582, Value.str (Str.ofString "Space.owes_ack") 583, Value.str (Str.ofString "/claim/cut.py") 584, Value.int 180 0, Value.int 1 0, Value.int 0 0, Value.int 0 0, Value.int 3 0, Value.ref 275, Value.bool true, Value.int 181 0, Value.ref 276, Value.none, Value.ref 277, Value.ref 278, Value.ref 279, Value.int 586 0, Value.int 180 0, Value.str (Str.ofString "/claim/cut.py") 587]) #[])) ::
  (@Prod.mk Nat Obj (nat_lit 281) (Obj.mk (Value.type "function") none (Data.func (FuncData.mk (Str.ofString "owes_ack") (Str.ofString "Space.owes_ack") hda40_5 (FuncBody.stmts hdb40_5) hds40_5 3 [] Value.none Value.none Value.none (Value.str (Str.ofString "quic.spaces") 525) none (Value.ref 280) Value.none 0)) #[])) ::
  (@Prod.mk Nat Obj (nat_lit 282) (Obj.mk (Value.type "tuple") none (Data.seq #[]) #[])) ::
  (@Prod.mk Nat Obj (nat_lit 284) (Obj.mk (Value.type "tuple") none (Data.seq #[Value.str (Str.ofString "self") 592]) #[])) ::
  (@Prod.mk Nat Obj (nat_lit 285) (Obj.mk (Value.type "tuple") none (Data.seq #[]) #[])) ::
  (@Prod.mk Nat Obj (nat_lit 287) (Obj.mk (Value.type "code") none (Data.fields #[Value.str (Str.ofString "take_number") 589, Value.str (Str.ofString "Space.take_number") 590, Value.str (Str.ofString "/claim/cut.py") 591, Value.int 183 0, Value.int 1 0, Value.int 0 0, Value.int 0 0, Value.int 3 0, Value.ref 282, Value.bool true, Value.int 181 0, Value.ref 283, Value.none, Value.ref 284, Value.ref 285, Value.ref 286, Value.int 593 0, Value.int 183 0, Value.str (Str.ofString "/claim/cut.py") 594]) #[])) ::
  (@Prod.mk Nat Obj (nat_lit 288) (Obj.mk (Value.type "function") none (Data.func (FuncData.mk (Str.ofString "take_number") (Str.ofString "Space.take_number") hda40_6 (FuncBody.stmts hdb40_6) hds40_6 3 [] Value.none Value.none Value.none (Value.str (Str.ofString "quic.spaces") 525) none (Value.ref 287) Value.none 0)) #[])) ::
  (@Prod.mk Nat Obj (nat_lit 289) (Obj.mk (Value.type "tuple") none (Data.seq #[]) #[])) ::
  (@Prod.mk Nat Obj (nat_lit 291) (Obj.mk (Value.type "tuple") none (Data.seq #[Value.str (Str.ofString "self") 599, Value.str (Str.ofString "number") 600, Value.str (Str.ofString "now") 601, Value.str (Str.ofString "size") 602, Value.str (Str.ofString "frames") 603]) #[])) ::
  (@Prod.mk Nat Obj (nat_lit 292) (Obj.mk (Value.type "tuple") none (Data.seq #[]) #[])) ::
  (@Prod.mk Nat Obj (nat_lit 294) (Obj.mk (Value.type "code") none (Data.fields #[Value.str (Str.ofString "on_sent") 596, Value.str (Str.ofString "Space.on_sent") 597, Value.str (Str.ofString "/claim/cut.py") 598, Value.int 186 0, Value.int 5 0, Value.int 0 0, Value.int 0 0, Value.int 3 0, Value.ref 289, Value.bool true, Value.int 181 0, Value.ref 290, Value.none, Value.ref 291, Value.ref 292, Value.ref 293, Value.int 604 0, Value.int 186 0, Value.str (Str.ofString "/claim/cut.py") 605]) #[])) ::
  (@Prod.mk Nat Obj (nat_lit 295) (Obj.mk (Value.type "function") none (Data.func (FuncData.mk (Str.ofString "on_sent") (Str.ofString "Space.on_sent") hda40_7 (FuncBody.stmts hdb40_7) hds40_7 3 [] Value.none Value.none Value.none (Value.str (Str.ofString "quic.spaces") 525) none (Value.ref 294) Value.none 0)) #[])) ::
  (@Prod.mk Nat Obj (nat_lit 296) (Obj.mk (Value.type "tuple") none (Data.seq #[]) #[])) ::
  (@Prod.mk Nat Obj (nat_lit 298) (Obj.mk (Value.type "tuple") none (Data.seq #[Value.str (Str.ofString "self") 610, Value.str (Str.ofString "numbers") 611]) #[])) ::
  (@Prod.mk Nat Obj (nat_lit 299) (Obj.mk (Value.type "tuple") none (Data.seq #[]) #[])) ::
  (@Prod.mk Nat Obj (nat_lit 301) (Obj.mk (Value.type "code") none (Data.fields #[Value.str (Str.ofString "take") 607, Value.str (Str.ofString "Space.take") 608, Value.str (Str.ofString "/claim/cut.py") 609, Value.int 189 0, Value.int 2 0, Value.int 0 0, Value.int 0 0, Value.int 3 0, Value.ref 296, Value.bool true, Value.int 181 0, Value.ref 297, Value.none, Value.ref 298, Value.ref 299, Value.ref 300, Value.int 612 0, Value.int 189 0, Value.str (Str.ofString "/claim/cut.py") 613]) #[])) ::
  (@Prod.mk Nat Obj (nat_lit 302) (Obj.mk (Value.type "function") none (Data.func (FuncData.mk (Str.ofString "take") (Str.ofString "Space.take") hda40_8 (FuncBody.stmts hdb40_8) hds40_8 3 [] Value.none Value.none Value.none (Value.str (Str.ofString "quic.spaces") 525) none (Value.ref 301) Value.none 0)) #[])) ::
  (@Prod.mk Nat Obj (nat_lit 303) (Obj.mk (Value.type "tuple") none (Data.seq #[]) #[])) ::
  (@Prod.mk Nat Obj (nat_lit 305) (Obj.mk (Value.type "tuple") none (Data.seq #[Value.str (Str.ofString "self") 618, Value.str (Str.ofString "ranges") 619]) #[])) ::
  (@Prod.mk Nat Obj (nat_lit 306) (Obj.mk (Value.type "tuple") none (Data.seq #[]) #[])) ::
  (@Prod.mk Nat Obj (nat_lit 308) (Obj.mk (Value.type "code") none (Data.fields #[Value.str (Str.ofString "acked_by") 615, Value.str (Str.ofString "Space.acked_by") 616, Value.str (Str.ofString "/claim/cut.py") 617, Value.int 192 0, Value.int 2 0, Value.int 0 0, Value.int 0 0, Value.int 3 0, Value.ref 303, Value.bool true, Value.int 181 0, Value.ref 304, Value.none, Value.ref 305, Value.ref 306, Value.ref 307, Value.int 620 0, Value.int 192 0, Value.str (Str.ofString "/claim/cut.py") 621]) #[])) ::
  (@Prod.mk Nat Obj (nat_lit 309) (Obj.mk (Value.type "function") none (Data.func (FuncData.mk (Str.ofString "acked_by") (Str.ofString "Space.acked_by") hda40_9 (FuncBody.stmts hdb40_9) hds40_9 3 [] Value.none Value.none Value.none (Value.str (Str.ofString "quic.spaces") 525) none (Value.ref 308) Value.none 0)) #[])) ::
  (@Prod.mk Nat Obj (nat_lit 310) (Obj.mk (Value.type "tuple") none (Data.seq #[]) #[])) ::
  (@Prod.mk Nat Obj (nat_lit 312) (Obj.mk (Value.type "tuple") none (Data.seq #[Value.str (Str.ofString "self") 626, Value.str (Str.ofString "numbers") 627]) #[])) ::
  (@Prod.mk Nat Obj (nat_lit 313) (Obj.mk (Value.type "tuple") none (Data.seq #[]) #[])) ::
  (@Prod.mk Nat Obj (nat_lit 315) (Obj.mk (Value.type "code") none (Data.fields #[Value.str (Str.ofString "note_acked") 623, Value.str (Str.ofString "Space.note_acked") 624, Value.str (Str.ofString "/claim/cut.py") 625, Value.int 195 0, Value.int 2 0, Value.int 0 0, Value.int 0 0, Value.int 3 0, Value.ref 310, Value.bool true, Value.int 181 0, Value.ref 311, Value.none, Value.ref 312, Value.ref 313, Value.ref 314, Value.int 628 0, Value.int 195 0, Value.str (Str.ofString "/claim/cut.py") 629]) #[])) ::
  (@Prod.mk Nat Obj (nat_lit 316) (Obj.mk (Value.type "function") none (Data.func (FuncData.mk (Str.ofString "note_acked") (Str.ofString "Space.note_acked") hda40_10 (FuncBody.stmts hdb40_10) hds40_10 3 [] Value.none Value.none Value.none (Value.str (Str.ofString "quic.spaces") 525) none (Value.ref 315) Value.none 0)) #[])) ::
  (@Prod.mk Nat Obj (nat_lit 317) (Obj.mk (Value.type "tuple") none (Data.seq #[]) #[])) ::
  (@Prod.mk Nat Obj (nat_lit 319) (Obj.mk (Value.type "tuple") none (Data.seq #[Value.str (Str.ofString "self") 634, Value.str (Str.ofString "ranges") 635]) #[])) ::
  (@Prod.mk Nat Obj (nat_lit 320) (Obj.mk (Value.type "tuple") none (Data.seq #[]) #[])) ::
  (@Prod.mk Nat Obj (nat_lit 322) (Obj.mk (Value.type "code") none (Data.fields #[Value.str (Str.ofString "note_ranges") 631, Value.str (Str.ofString "Space.note_ranges") 632, Value.str (Str.ofString "/claim/cut.py") 633, Value.int 198 0, Value.int 2 0, Value.int 0 0, Value.int 0 0, Value.int 3 0, Value.ref 317, Value.bool true, Value.int 181 0, Value.ref 318, Value.none, Value.ref 319, Value.ref 320, Value.ref 321, Value.int 636 0, Value.int 198 0, Value.str (Str.ofString "/claim/cut.py") 637]) #[])) ::
  (@Prod.mk Nat Obj (nat_lit 323) (Obj.mk (Value.type "function") none (Data.func (FuncData.mk (Str.ofString "note_ranges") (Str.ofString "Space.note_ranges") hda40_11 (FuncBody.stmts hdb40_11) hds40_11 3 [] Value.none Value.none Value.none (Value.str (Str.ofString "quic.spaces") 525) none (Value.ref 322) Value.none 0)) #[])) ::
  (@Prod.mk Nat Obj (nat_lit 324) (Obj.mk (Value.type "tuple") none (Data.seq #[]) #[])) ::
  (@Prod.mk Nat Obj (nat_lit 326) (Obj.mk (Value.type "tuple") none (Data.seq #[Value.str (Str.ofString "self") 642, Value.str (Str.ofString "ranges") 643]) #[])) ::
  (@Prod.mk Nat Obj (nat_lit 327) (Obj.mk (Value.type "tuple") none (Data.seq #[]) #[])) ::
  (@Prod.mk Nat Obj (nat_lit 329) (Obj.mk (Value.type "code") none (Data.fields #[Value.str (Str.ofString "is_beyond") 639, Value.str (Str.ofString "Space.is_beyond") 640, Value.str (Str.ofString "/claim/cut.py") 641, Value.int 201 0, Value.int 2 0, Value.int 0 0, Value.int 0 0, Value.int 3 0, Value.ref 324, Value.bool true, Value.int 181 0, Value.ref 325, Value.none, Value.ref 326, Value.ref 327, Value.ref 328, Value.int 644 0, Value.int 201 0, Value.str (Str.ofString "/claim/cut.py") 645]) #[])) ::
  (@Prod.mk Nat Obj (nat_lit 330) (Obj.mk (Value.type "function") none (Data.func (FuncData.mk (Str.ofString "is_beyond") (Str.ofString "Space.is_beyond") hda40_12 (FuncBody.stmts hdb40_12) hds40_12 3 [] Value.none Value.none Value.none (Value.str (Str.ofString "quic.spaces") 525) none (Value.ref 329) Value.none 0)) #[])) ::
  (@Prod.mk Nat Obj (nat_lit 331) (Obj.mk (Value.type "tuple") none (Data.seq #[]) #[])) ::
  (@Prod.mk Nat Obj (nat_lit 333) (Obj.mk (Value.type "tuple") none (Data.seq #[Value.str (Str.ofString "self") 650, Value.str (Str.ofString "number") 651]) #[])) ::
  (@Prod.mk Nat Obj (nat_lit 334) (Obj.mk (Value.type "tuple") none (Data.seq #[]) #[])) ::
  (@Prod.mk Nat Obj (nat_lit 336) (Obj.mk (Value.type "code") none (Data.fields #[Value.str (Str.ofString "note_largest") 647, Value.str (Str.ofString "Space.note_largest") 648, Value.str (Str.ofString "/claim/cut.py") 649, Value.int 204 0, Value.int 2 0, Value.int 0 0, Value.int 0 0, Value.int 3 0, Value.ref 331, Value.bool true, Value.int 181 0, Value.ref 332, Value.none, Value.ref 333, Value.ref 334, Value.ref 335, Value.int 652 0, Value.int 204 0, Value.str (Str.ofString "/claim/cut.py") 653]) #[])) ::
  (@Prod.mk Nat Obj (nat_lit 337) (Obj.mk (Value.type "function") none (Data.func (FuncData.mk (Str.ofString "note_largest") (Str.ofString "Space.note_largest") hda40_13 (FuncBody.stmts hdb40_13) hds40_13 3 [] Value.none Value.none Value.none (Value.str (Str.ofString "quic.spaces") 525) none (Value.ref 336) Value.none 0)) #[])) ::
  (@Prod.mk Nat Obj (nat_lit 338) (Obj.mk (Value.type "tuple") none (Data.seq #[]) #[])) ::
  (@Prod.mk Nat Obj (nat_lit 340) (Obj.mk (Value.type "tuple") none (Data.seq #[Value.str (Str.ofString "self") 658]) #[])) ::
  (@Prod.mk Nat Obj (nat_lit 341) (Obj.mk (Value.type "tuple") none (Data.seq #[]) #[])) ::
  (@Prod.mk Nat Obj (nat_lit 343) (Obj.mk (Value.type "code") none (Data.fields #[Value.str (Str.ofString "eliciting_left") 655, Value.str (Str.ofString "Space.eliciting_left") 656, Value.str (Str.ofString "/claim/cut.py") 657, Value.int 207 0, Value.int 1 0, Value.int 0 0, Value.int 0 0, Value.int 3 0, Value.ref 338, Value.bool true, Value.int 181 0, Value.ref 339, Value.none, Value.ref 340, Value.ref 341, Value.ref 342, Value.int 659 0, Value.int 207 0, Value.str (Str.ofString "/claim/cut.py") 660]) #[])) ::
  (@Prod.mk Nat Obj (nat_lit 344) (Obj.mk (Value.type "function") none (Data.func (FuncData.mk (Str.ofString "eliciting_left") (Str.ofString "Space.eliciting_left") hda40_14 (FuncBody.stmts hdb40_14) hds40_14 3 [] Value.none Value.none Value.none (Value.str (Str.ofString "quic.spaces") 525) none (Value.ref 343) Value.none 0)) #[])) ::
  (@Prod.mk Nat Obj (nat_lit 345) (Obj.mk (Value.type "tuple") none (Data.seq #[]) #[])) ::
  (@Prod.mk Nat Obj (nat_lit 347) (Obj.mk (Value.type "tuple") none (Data.seq #[Value.str (Str.ofString "self") 665]) #[])) ::
  (@Prod.mk Nat Obj (nat_lit 348) (Obj.mk (Value.type "tuple") none (Data.seq #[]) #[])) ::
  (@Prod.mk Nat Obj (nat_lit 350) (Obj.mk (Value.type "code") none (Data.fields #[Value.str (Str.ofString "bare_numbers") 662, Value.str (Str.ofString "Space.bare_numbers") 663, Value.str (Str.ofString "/claim/cut.py") 664, Value.int 210 0, Value.int 1 0, Value.int 0 0, Value.int 0 0, Value.int 3 0, Value.ref 345, Value.bool true, Value.int 181 0, Value.ref 346, Value.none, Value.ref 347, Value.ref 348, Value.ref 349, Value.int 666 0, Value.int 210 0, Value.str (Str.ofString "/claim/cut.py") 667]) #[])) ::
  (@Prod.mk Nat Obj (nat_lit 351) (Obj.mk (Value.type "function") none (Data.func (FuncData.mk (Str.ofString "bare_numbers") (Str.ofString "Space.bare_numbers") hda40_15 (FuncBody.stmts hdb40_15) hds40_15 3 [] Value.none Value.none Value.none (Value.str (Str.ofString "quic.spaces") 525) none (Value.ref 350) Value.none 0)) #[])) ::
  (@Prod.mk Nat Obj (nat_lit 352) (Obj.mk (Value.type "tuple") none (Data.seq #[]) #[])) ::
  (@Prod.mk Nat Obj (nat_lit 354) (Obj.mk (Value.type "tuple") none (Data.seq #[Value.str (Str.ofString "self") 672]) #[])) ::
  (@Prod.mk Nat Obj (nat_lit 355) (Obj.mk (Value.type "tuple") none (Data.seq #[]) #[])) ::
  (@Prod.mk Nat Obj (nat_lit 357) (Obj.mk (Value.type "code") none (Data.fields #[Value.str (Str.ofString "octets_out") 669, Value.str (Str.ofString "Space.octets_out") 670, Value.str (Str.ofString "/claim/cut.py") 671, Value.int 213 0, Value.int 1 0, Value.int 0 0, Value.int 0 0, Value.int 3 0, Value.ref 352, Value.bool true, Value.int 181 0, Value.ref 353, Value.none, Value.ref 354, Value.ref 355, Value.ref 356, Value.int 673 0, Value.int 213 0, Value.str (Str.ofString "/claim/cut.py") 674]) #[])) ::
  (@Prod.mk Nat Obj (nat_lit 358) (Obj.mk (Value.type "function") none (Data.func (FuncData.mk (Str.ofString "octets_out") (Str.ofString "Space.octets_out") hda40_16 (FuncBody.stmts hdb40_16) hds40_16 3 [] Value.none Value.none Value.none (Value.str (Str.ofString "quic.spaces") 525) none (Value.ref 357) Value.none 0)) #[])) ::
  (@Prod.mk Nat Obj (nat_lit 359) (Obj.mk (Value.type "tuple") none (Data.seq #[]) #[])) ::
  (@Prod.mk Nat Obj (nat_lit 361) (Obj.mk (Value.type "tuple") none (Data.seq #[Value.str (Str.ofString "self") 679]) #[])) ::
  (@Prod.mk Nat Obj (nat_lit 362) (Obj.mk (Value.type "tuple") none (Data.seq #[]) #[])) ::
  (@Prod.mk Nat Obj (nat_lit 364) (Obj.mk (Value.type "code") none (Data.fields #[Value.str (Str.ofString "sent_rows") 676, Value.str (Str.ofString "Space.sent_rows") 677, Value.str (Str.ofString "/claim/cut.py") 678, Value.int 216 0, Value.int 1 0, Value.int 0 0, Value.int 0 0, Value.int 3 0, Value.ref 359, Value.bool true, Value.int 181 0, Value.ref 360, Value.none, Value.ref 361, Value.ref 362, Value.ref 363, Value.int 680 0, Value.int 216 0, Value.str (Str.ofString "/claim/cut.py") 681]) #[])) ::
  (@Prod.mk Nat Obj (nat_lit 365) (Obj.mk (Value.type "function") none (Data.func (FuncData.mk (Str.ofString "sent_rows") (Str.ofString "Space.sent_rows") hda40_17 (FuncBody.stmts hdb40_17) hds40_17 3 [] Value.none Value.none Value.none (Value.str (Str.ofString "quic.spaces") 525) none (Value.ref 364) Value.none 0)) #[])) ::
  (@Prod.mk Nat Obj (nat_lit 366) (Obj.mk (Value.type "tuple") none (Data.seq #[]) #[])) ::
  (@Prod.mk Nat Obj (nat_lit 368) (Obj.mk (Value.type "tuple") none (Data.seq #[Value.str (Str.ofString "self") 686]) #[])) ::
  (@Prod.mk Nat Obj (nat_lit 369) (Obj.mk (Value.type "tuple") none (Data.seq #[]) #[])) ::
  (@Prod.mk Nat Obj (nat_lit 371) (Obj.mk (Value.type "code") none (Data.fields #[Value.str (Str.ofString "forget") 683, Value.str (Str.ofString "Space.forget") 684, Value.str (Str.ofString "/claim/cut.py") 685, Value.int 219 0, Value.int 1 0, Value.int 0 0, Value.int 0 0, Value.int 3 0, Value.ref 366, Value.bool true, Value.int 181 0, Value.ref 367, Value.none, Value.ref 368, Value.ref 369, Value.ref 370, Value.int 687 0, Value.int 219 0, Value.str (Str.ofString "/claim/cut.py") 688]) #[])) ::
  (@Prod.mk Nat Obj (nat_lit 372) (Obj.mk (Value.type "function") none (Data.func (FuncData.mk (Str.ofString "forget") (Str.ofString "Space.forget") hda40_18 (FuncBody.stmts hdb40_18) hds40_18 3 [] Value.none Value.none Value.none (Value.str (Str.ofString "quic.spaces") 525) none (Value.ref 371) Value.none 0)) #[])) ::
  (@Prod.mk Nat Obj (nat_lit 373) (Obj.mk (Value.type "tuple") none (Data.seq #[Value.str (Str.ofString "acked") 690, Value.str (Str.ofString "ecn") 691, Value.str (Str.ofString "first_unacked") 692, Value.str (Str.ofString "floor") 693, Value.str (Str.ofString "has_new") 694, Value.str (Str.ofString "is_gone") 695, Value.str (Str.ofString "largest_acked") 696, Value.str (Str.ofString "largest_seen") 697, Value.str (Str.ofString "largest_time") 698, Value.str (Str.ofString "last_eliciting_time") 699, Value.str (Str.ofString "loss_time") 700, Value.str (Str.ofString "name") 701, Value.str (Str.ofString "next_number") 702, Value.str (Str.ofString "received") 703, Value.str (Str.ofString "sent") 704, Value.str (Str.ofString "unacked") 705, Value.str (Str.ofString "wants_now") 706]) #[])) ::
  (@Prod.mk Nat Obj (nat_lit 374) (Obj.mk (Value.type "dict") none (Data.dict #[DictEntry.mk (PyData.keyHash P (Str.ofString "__module__")) (Value.str (Str.ofString "__module__") 534) (Value.str (Str.ofString "quic.spaces") 525), DictEntry.mk (PyData.keyHash P (Str.ofString "__firstlineno__")) (Value.str (Str.ofString "__firstlineno__") 538) (Value.int 147 537), DictEntry.mk (PyData.keyHash P (Str.ofString "__init__")) (Value.str (Str.ofString "__init__") 546) (Value.ref 246), DictEntry.mk (PyData.keyHash P (Str.ofString "is_known")) (Value.str (Str.ofString "is_known") 554) (Value.ref 253), DictEntry.mk (PyData.keyHash P (Str.ofString "on_received")) (Value.str (Str.ofString "on_received") 565) (Value.ref 260), DictEntry.mk (PyData.keyHash P (Str.ofString "ack_frame")) (Value.str (Str.ofString "ack_frame") 574) (Value.ref 267), DictEntry.mk (PyData.keyHash P (Str.ofString "on_ack_sent")) (Value.str (Str.ofString "on_ack_sent") 581) (Value.ref 274), DictEntry.mk (PyData.keyHash P (Str.ofString "owes_ack")) (Value.str (Str.ofString "owes_ack") 588) (Value.ref 281), DictEntry.mk (PyData.keyHash P (Str.ofString "take_number")) (Value.str (Str.ofString "take_number") 595) (Value.ref 288), DictEntry.mk (PyData.keyHash P (Str.ofString "on_sent")) (Value.str (Str.ofString "on_sent") 606) (Value.ref 295), DictEntry.mk (PyData.keyHash P (Str.ofString "take")) (Value.str (Str.ofString "take") 614) (Value.ref 302), DictEntry.mk (PyData.keyHash P (Str.ofString "acked_by")) (Value.str (Str.ofString "acked_by") 622) (Value.ref 309), DictEntry.mk (PyData.keyHash P (Str.ofString "note_acked")) (Value.str (Str.ofString "note_acked") 630) (Value.ref 316), DictEntry.mk (PyData.keyHash P (Str.ofString "note_ranges")) (Value.str (Str.ofString "note_ranges") 638) (Value.ref 323), DictEntry.mk (PyData.keyHash P (Str.ofString "is_beyond")) (Value.str (Str.ofString "is_beyond") 646) (Value.ref 330), DictEntry.mk (PyData.keyHash P (Str.ofString "note_largest")) (Value.str (Str.ofString "note_largest") 654) (Value.ref 337), DictEntry.mk (PyData.keyHash P (Str.ofString "eliciting_left")) (Value.str (Str.ofString "eliciting_left") 661) (Value.ref 344), DictEntry.mk (PyData.keyHash P (Str.ofString "bare_numbers")) (Value.str (Str.ofString "bare_numbers") 668) (Value.ref 351), DictEntry.mk (PyData.keyHash P (Str.ofString "octets_out")) (Value.str (Str.ofString "octets_out") 675) (Value.ref 358), DictEntry.mk (PyData.keyHash P (Str.ofString "sent_rows")) (Value.str (Str.ofString "sent_rows") 682) (Value.ref 365), DictEntry.mk (PyData.keyHash P (Str.ofString "forget")) (Value.str (Str.ofString "forget") 689) (Value.ref 372), DictEntry.mk (PyData.keyHash P (Str.ofString "__static_attributes__")) (Value.str (Str.ofString "__static_attributes__") 707) (Value.ref 373), DictEntry.mk (PyData.keyHash P (Str.ofString "__dict__")) (Value.str (Str.ofString "__dict__") 709) (Value.ref 376), DictEntry.mk (PyData.keyHash P (Str.ofString "__weakref__")) (Value.str (Str.ofString "__weakref__") 711) (Value.ref 377), DictEntry.mk (PyData.keyHash P (Str.ofString "__doc__")) (Value.str (Str.ofString "__doc__") 712) Value.none] 4) #[])) ::
  (@Prod.mk Nat Obj (nat_lit 375) (Obj.mk (Value.type "type") none (Data.cls (ClassData.mk (Str.ofString "Space") [Value.type "object"] [Value.ref 375, Value.type "object"] 374 (Str.ofString "Space") true [] [] false none false)) #[none, none, some (Value.str (Str.ofString "Space") 527), some (Value.str (Str.ofString "Space") 535), some (Value.builtin "object.__new__"), some (Value.bool true)])) ::
  (@Prod.mk Nat Obj (nat_lit 376) (Obj.mk (Value.type "getset_descriptor") none (Data.fields #[Value.str (Str.ofString "__dict__") 708, Value.ref 375, Value.builtin "function.__dict__", Value.builtin "function.__dict__#set"]) #[])) ::
  (@Prod.mk Nat Obj (nat_lit 377) (Obj.mk (Value.type "getset_descriptor") none (Data.fields #[Value.str (Str.ofString "__weakref__") 710, Value.ref 375, Value.builtin "ExceptionGroup.__weakref__", Value.none]) #[])) ::
  (@Prod.mk Nat Obj (nat_lit 380) (Obj.mk (Value.type "tuple") none (Data.seq #[]) #[])) ::
  (@Prod.mk Nat Obj (nat_lit 382) (Obj.mk (Value.type "tuple") none (Data.seq #[Value.str (Str.ofString "box") 720, Value.str (Str.ofString "many") 721]) #[])) ::
  (@Prod.mk Nat Obj (nat_lit 383) (Obj.mk (Value.type "tuple") none (Data.seq #[]) #[])) ::
  (@Prod.mk Nat Obj (nat_lit 385) (Obj.mk (Value.type "code") none (Data.fields #[Value.str (Str.ofString "_law_take") 717, Value.str (Str.ofString "_law_take") 718, Value.str (Str.ofString "/claim/cut.py") 719, Value.int 222 0, Value.int 2 0, Value.int 0 0, Value.int 0 0, Value.int 3 0, Value.ref 380, Value.bool true, Value.int 181 0, Value.ref 381, Value.none, Value.ref 382, Value.ref 383, Value.ref 384, Value.int 722 0, Value.int 222 0, Value.str (Str.ofString "/claim/cut.py") 723]) #[])) ::
  (@Prod.mk Nat Obj (nat_lit 386) (Obj.mk (Value.type "function") none (Data.func (FuncData.mk (Str.ofString "_law_take") (Str.ofString "_law_take") hda42 (FuncBody.stmts hdb42) hds42 3 [] Value.none Value.none Value.none (Value.str (Str.ofString "law_pf0271_01") 715) none (Value.ref 385) Value.none 0)) #[])) ::
  (@Prod.mk Nat Obj (nat_lit 387) (Obj.mk (Value.type "tuple") none (Data.seq #[]) #[])) ::
  (@Prod.mk Nat Obj (nat_lit 389) (Obj.mk (Value.type "tuple") none (Data.seq #[Value.str (Str.ofString "script") 728, Value.str (Str.ofString "box") 729, Value.str (Str.ofString "space") 730, Value.str (Str.ofString "ids") 731, Value.str (Str.ofString "acked") 732, Value.str (Str.ofString "places") 733, Value.str (Str.ofString "base") 734, Value.str (Str.ofString "size") 735, Value.str (Str.ofString "octets") 736, Value.str (Str.ofString "conn") 737, Value.str (Str.ofString "form") 738, Value.str (Str.ofString "now") 739, Value.str (Str.ofString "turn") 740]) #[])) ::
  (@Prod.mk Nat Obj (nat_lit 390) (Obj.mk (Value.type "tuple") none (Data.seq #[]) #[])) ::
  (@Prod.mk Nat Obj (nat_lit 392) (Obj.mk (Value.type "code") none (Data.fields #[Value.str (Str.ofString "law") 725, Value.str (Str.ofString "law") 726, Value.str (Str.ofString "/claim/cut.py") 727, Value.int 227 0, Value.int 1 0, Value.int 0 0, Value.int 0 0, Value.int 3 0, Value.ref 387, Value.bool true, Value.int 181 0, Value.ref 388, Value.none, Value.ref 389, Value.ref 390, Value.ref 391, Value.int 741 0, Value.int 227 0, Value.str (Str.ofString "/claim/cut.py") 742]) #[])) ::
  (@Prod.mk Nat Obj (nat_lit 393) (Obj.mk (Value.type "function") none (Data.func (FuncData.mk (Str.ofString "law") (Str.ofString "law") hda43 (FuncBody.stmts hdb43) hds43 3 [] Value.none Value.none Value.none (Value.str (Str.ofString "law_pf0271_01") 715) none (Value.ref 392) Value.none 0)) #[])) ::
  (@List.nil (Nat × Obj))
noncomputable abbrev hd.as : List Addr := nat_lit 2 :: nat_lit 3 :: nat_lit 15 :: nat_lit 17 :: nat_lit 18 :: nat_lit 20 :: nat_lit 21 :: nat_lit 22 :: nat_lit 24 :: nat_lit 25 :: nat_lit 27 :: nat_lit 28 :: nat_lit 36 :: nat_lit 38 :: nat_lit 39 :: nat_lit 41 :: nat_lit 42 :: nat_lit 43 :: nat_lit 45 :: nat_lit 46 :: nat_lit 48 :: nat_lit 49 :: nat_lit 50 :: nat_lit 52 :: nat_lit 53 :: nat_lit 55 :: nat_lit 56 :: nat_lit 57 :: nat_lit 59 :: nat_lit 60 :: nat_lit 62 :: nat_lit 63 :: nat_lit 64 :: nat_lit 66 :: nat_lit 67 :: nat_lit 69 :: nat_lit 70 :: nat_lit 71 :: nat_lit 73 :: nat_lit 74 :: nat_lit 76 :: nat_lit 77 :: nat_lit 78 :: nat_lit 80 :: nat_lit 81 :: nat_lit 83 :: nat_lit 84 :: nat_lit 85 :: nat_lit 87 :: nat_lit 88 :: nat_lit 90 :: nat_lit 91 :: nat_lit 92 :: nat_lit 94 :: nat_lit 95 :: nat_lit 97 :: nat_lit 98 :: nat_lit 99 :: nat_lit 100 :: nat_lit 101 :: nat_lit 102 :: nat_lit 103 :: nat_lit 106 :: nat_lit 113 :: nat_lit 115 :: nat_lit 116 :: nat_lit 118 :: nat_lit 119 :: nat_lit 120 :: nat_lit 121 :: nat_lit 122 :: nat_lit 123 :: nat_lit 126 :: nat_lit 127 :: nat_lit 129 :: nat_lit 130 :: nat_lit 132 :: nat_lit 133 :: nat_lit 134 :: nat_lit 136 :: nat_lit 137 :: nat_lit 139 :: nat_lit 140 :: nat_lit 141 :: nat_lit 143 :: nat_lit 144 :: nat_lit 146 :: nat_lit 147 :: nat_lit 148 :: nat_lit 149 :: nat_lit 151 :: nat_lit 152 :: nat_lit 154 :: nat_lit 155 :: nat_lit 156 :: nat_lit 158 :: nat_lit 159 :: nat_lit 161 :: nat_lit 162 :: nat_lit 163 :: nat_lit 165 :: nat_lit 166 :: nat_lit 168 :: nat_lit 169 :: nat_lit 170 :: nat_lit 172 :: nat_lit 173 :: nat_lit 175 :: nat_lit 176 :: nat_lit 177 :: nat_lit 179 :: nat_lit 180 :: nat_lit 182 :: nat_lit 183 :: nat_lit 184 :: nat_lit 186 :: nat_lit 187 :: nat_lit 189 :: nat_lit 190 :: nat_lit 191 :: nat_lit 193 :: nat_lit 194 :: nat_lit 196 :: nat_lit 197 :: nat_lit 198 :: nat_lit 200 :: nat_lit 201 :: nat_lit 203 :: nat_lit 204 :: nat_lit 205 :: nat_lit 207 :: nat_lit 208 :: nat_lit 210 :: nat_lit 211 :: nat_lit 212 :: nat_lit 214 :: nat_lit 215 :: nat_lit 217 :: nat_lit 218 :: nat_lit 219 :: nat_lit 221 :: nat_lit 222 :: nat_lit 224 :: nat_lit 225 :: nat_lit 226 :: nat_lit 228 :: nat_lit 229 :: nat_lit 231 :: nat_lit 232 :: nat_lit 240 :: nat_lit 242 :: nat_lit 243 :: nat_lit 245 :: nat_lit 246 :: nat_lit 247 :: nat_lit 249 :: nat_lit 250 :: nat_lit 252 :: nat_lit 253 :: nat_lit 254 :: nat_lit 256 :: nat_lit 257 :: nat_lit 259 :: nat_lit 260 :: nat_lit 261 :: nat_lit 263 :: nat_lit 264 :: nat_lit 266 :: nat_lit 267 :: nat_lit 268 :: nat_lit 270 :: nat_lit 271 :: nat_lit 273 :: nat_lit 274 :: nat_lit 275 :: nat_lit 277 :: nat_lit 278 :: nat_lit 280 :: nat_lit 281 :: nat_lit 282 :: nat_lit 284 :: nat_lit 285 :: nat_lit 287 :: nat_lit 288 :: nat_lit 289 :: nat_lit 291 :: nat_lit 292 :: nat_lit 294 :: nat_lit 295 :: nat_lit 296 :: nat_lit 298 :: nat_lit 299 :: nat_lit 301 :: nat_lit 302 :: nat_lit 303 :: nat_lit 305 :: nat_lit 306 :: nat_lit 308 :: nat_lit 309 :: nat_lit 310 :: nat_lit 312 :: nat_lit 313 :: nat_lit 315 :: nat_lit 316 :: nat_lit 317 :: nat_lit 319 :: nat_lit 320 :: nat_lit 322 :: nat_lit 323 :: nat_lit 324 :: nat_lit 326 :: nat_lit 327 :: nat_lit 329 :: nat_lit 330 :: nat_lit 331 :: nat_lit 333 :: nat_lit 334 :: nat_lit 336 :: nat_lit 337 :: nat_lit 338 :: nat_lit 340 :: nat_lit 341 :: nat_lit 343 :: nat_lit 344 :: nat_lit 345 :: nat_lit 347 :: nat_lit 348 :: nat_lit 350 :: nat_lit 351 :: nat_lit 352 :: nat_lit 354 :: nat_lit 355 :: nat_lit 357 :: nat_lit 358 :: nat_lit 359 :: nat_lit 361 :: nat_lit 362 :: nat_lit 364 :: nat_lit 365 :: nat_lit 366 :: nat_lit 368 :: nat_lit 369 :: nat_lit 371 :: nat_lit 372 :: nat_lit 373 :: nat_lit 374 :: nat_lit 375 :: nat_lit 376 :: nat_lit 377 :: nat_lit 380 :: nat_lit 382 :: nat_lit 383 :: nat_lit 385 :: nat_lit 386 :: nat_lit 387 :: nat_lit 389 :: nat_lit 390 :: nat_lit 392 :: nat_lit 393 :: []
/-- the place i of the written part -/
noncomputable def hdAt (i : Nat) (l : Frag) : Obj := List.rec (motive := fun _ => Nat → Obj) (fun _ => default) (fun x _ f j => Nat.rec (motive := fun _ => Obj) x.2 (fun k _ => f k) j) l i
/-- the heap within the top's run, as a tree -/
noncomputable def hd.T1 : Params → BT := fun P => .node (boot_o_0 P)
 (.node (boot_o_1 P)
 (.node (Obj.mk (Value.type "dict") none (Data.dict #[DictEntry.mk (PyData.keyHash P (Str.ofString "__name__")) (Value.str (Str.ofString "__name__") 165) (Value.str (Str.ofString "quic.spaces") 525), DictEntry.mk (PyData.keyHash P (Str.ofString "__doc__")) (Value.str (Str.ofString "__doc__") 166) Value.none, DictEntry.mk (PyData.keyHash P (Str.ofString "__package__")) (Value.str (Str.ofString "__package__") 167) Value.none, DictEntry.mk (PyData.keyHash P (Str.ofString "__loader__")) (Value.str (Str.ofString "__loader__") 168) (Value.builtin "__main__.__loader__#opaque"), DictEntry.mk (PyData.keyHash P (Str.ofString "__spec__")) (Value.str (Str.ofString "__spec__") 169) Value.none, DictEntry.mk (PyData.keyHash P (Str.ofString "__annotations__")) (Value.str (Str.ofString "__annotations__") 170) (Value.ref 6), DictEntry.mk (PyData.keyHash P (Str.ofString "__builtins__")) (Value.str (Str.ofString "__builtins__") 171) (Value.ref 4), DictEntry.mk (PyData.keyHash P (Str.ofString "__file__")) (Value.str (Str.ofString "__file__") 173) (Value.str (Str.ofString "/claim/cut.py") 172), DictEntry.mk (PyData.keyHash P (Str.ofString "__cached__")) (Value.str (Str.ofString "__cached__") 174) Value.none, DictEntry.mk (PyData.keyHash P (Str.ofString "_wall")) (Value.str (Str.ofString "_wall") 193) (Value.ref 21), DictEntry.mk (PyData.keyHash P (Str.ofString "take_reset")) (Value.str (Str.ofString "take_reset") 203) (Value.ref 28), DictEntry.mk (PyData.keyHash P (Str.ofString "OPEN")) (Value.str (Str.ofString "OPEN") 207) (Value.str (Str.ofString "open") 206), DictEntry.mk (PyData.keyHash P (Str.ofString "CLOSING")) (Value.str (Str.ofString "CLOSING") 209) (Value.str (Str.ofString "closing") 208), DictEntry.mk (PyData.keyHash P (Str.ofString "DRAINING")) (Value.str (Str.ofString "DRAINING") 211) (Value.str (Str.ofString "draining") 210), DictEntry.mk (PyData.keyHash P (Str.ofString "CLOSED")) (Value.str (Str.ofString "CLOSED") 213) (Value.str (Str.ofString "closed") 212), DictEntry.mk (PyData.keyHash P (Str.ofString "PERIODS")) (Value.str (Str.ofString "PERIODS") 215) (Value.int 3 214), DictEntry.mk (PyData.keyHash P (Str.ofString "Closing")) (Value.str (Str.ofString "Closing") 312) (Value.ref 101), DictEntry.mk (PyData.keyHash P (Str.ofString "INTERNAL_ERROR")) (Value.str (Str.ofString "INTERNAL_ERROR") 316) (Value.int 1 315), DictEntry.mk (PyData.keyHash P (Str.ofString "QuicError")) (Value.str (Str.ofString "QuicError") 349) (Value.ref 122), DictEntry.mk (PyData.keyHash P (Str.ofString "VARINT_SIZES")) (Value.str (Str.ofString "VARINT_SIZES") 356) (Value.ref 126), DictEntry.mk (PyData.keyHash P (Str.ofString "put_whole")) (Value.str (Str.ofString "put_whole") 366) (Value.ref 133), DictEntry.mk (PyData.keyHash P (Str.ofString "varint_size")) (Value.str (Str.ofString "varint_size") 374) (Value.ref 140), DictEntry.mk (PyData.keyHash P (Str.ofString "put_varint")) (Value.str (Str.ofString "put_varint") 383) (Value.ref 147), DictEntry.mk (PyData.keyHash P (Str.ofString "LONG_KINDS")) (Value.str (Str.ofString "LONG_KINDS") 390) (Value.ref 148), DictEntry.mk (PyData.keyHash P (Str.ofString "put_ids")) (Value.str (Str.ofString "put_ids") 398) (Value.ref 155), DictEntry.mk (PyData.keyHash P (Str.ofString "long_first")) (Value.str (Str.ofString "long_first") 406) (Value.ref 162), DictEntry.mk (PyData.keyHash P (Str.ofString "long_head")) (Value.str (Str.ofString "long_head") 420) (Value.ref 169), DictEntry.mk (PyData.keyHash P (Str.ofString "MOST_OCTETS")) (Value.str (Str.ofString "MOST_OCTETS") 424) (Value.int 4 423), DictEntry.mk (PyData.keyHash P (Str.ofString "number_size")) (Value.str (Str.ofString "number_size") 434) (Value.ref 176), DictEntry.mk (PyData.keyHash P (Str.ofString "cut_number")) (Value.str (Str.ofString "cut_number") 443) (Value.ref 183), DictEntry.mk (PyData.keyHash P (Str.ofString "TAG_SIZE")) (Value.str (Str.ofString "TAG_SIZE") 447) (Value.int 16 446), DictEntry.mk (PyData.keyHash P (Str.ofString "padded_payload")) (Value.str (Str.ofString "padded_payload") 456) (Value.ref 190), DictEntry.mk (PyData.keyHash P (Str.ofString "short_head")) (Value.str (Str.ofString "short_head") 468) (Value.ref 197), DictEntry.mk (PyData.keyHash P (Str.ofString "head_of")) (Value.str (Str.ofString "head_of") 480) (Value.ref 204), DictEntry.mk (PyData.keyHash P (Str.ofString "number_in")) (Value.str (Str.ofString "number_in") 487) (Value.ref 211), DictEntry.mk (PyData.keyHash P (Str.ofString "packet_size")) (Value.str (Str.ofString "packet_size") 497) (Value.ref 218), DictEntry.mk (PyData.keyHash P (Str.ofString "LEAST_PAYLOAD")) (Value.str (Str.ofString "LEAST_PAYLOAD") 501) (Value.int 4 500), DictEntry.mk (PyData.keyHash P (Str.ofString "packet_with")) (Value.str (Str.ofString "packet_with") 513) (Value.ref 225), DictEntry.mk (PyData.keyHash P (Str.ofString "head_octets")) (Value.str (Str.ofString "head_octets") 524) (Value.ref 232)] 39) #[])
 (.node (boot_o_7 P)
 (.node (hdAt (nat_lit 2) (hd.heap_39 P))
 (.node (Obj.mk (Value.type "dict") none (Data.dict #[DictEntry.mk (PyData.keyHash P (Str.ofString "__module__")) (Value.str (Str.ofString "__module__") 223) (Value.str (Str.ofString "quic.closing") 204), DictEntry.mk (PyData.keyHash P (Str.ofString "__qualname__")) (Value.str (Str.ofString "__qualname__") 225) (Value.str (Str.ofString "Closing") 224), DictEntry.mk (PyData.keyHash P (Str.ofString "__firstlineno__")) (Value.str (Str.ofString "__firstlineno__") 227) (Value.int 15 226), DictEntry.mk (PyData.keyHash P (Str.ofString "__init__")) (Value.str (Str.ofString "__init__") 234) (Value.ref 42), DictEntry.mk (PyData.keyHash P (Str.ofString "is_open")) (Value.str (Str.ofString "is_open") 241) (Value.ref 49), DictEntry.mk (PyData.keyHash P (Str.ofString "close_now")) (Value.str (Str.ofString "close_now") 251) (Value.ref 56), DictEntry.mk (PyData.keyHash P (Str.ofString "on_close")) (Value.str (Str.ofString "on_close") 261) (Value.ref 63), DictEntry.mk (PyData.keyHash P (Str.ofString "on_reset")) (Value.str (Str.ofString "on_reset") 270) (Value.ref 70), DictEntry.mk (PyData.keyHash P (Str.ofString "on_packet")) (Value.str (Str.ofString "on_packet") 277) (Value.ref 77), DictEntry.mk (PyData.keyHash P (Str.ofString "on_time")) (Value.str (Str.ofString "on_time") 285) (Value.ref 84), DictEntry.mk (PyData.keyHash P (Str.ofString "give_up")) (Value.str (Str.ofString "give_up") 292) (Value.ref 91), DictEntry.mk (PyData.keyHash P (Str.ofString "next_time")) (Value.str (Str.ofString "next_time") 299) (Value.ref 98), DictEntry.mk (PyData.keyHash P (Str.ofString "__static_attributes__")) (Value.str (Str.ofString "__static_attributes__") 305) (Value.ref 99)] 13) #[])
 (.node (hdAt (nat_lit 31) (hd.heap_39 P))
 (.node (hdAt (nat_lit 73) (hd.heap_39 P)) .nil .nil)
 (.node (hdAt (nat_lit 119) (hd.heap_39 P)) .nil .nil))
 (.node (hdAt (nat_lit 54) (hd.heap_39 P))
 (.node (hdAt (nat_lit 96) (hd.heap_39 P)) .nil .nil)
 (.node (Obj.mk Value.none none (Data.func (FuncData.mk (Str.ofString "packet_with") (Str.ofString "packet_with") hda37 (FuncBody.stmts hdb37) hds37 0 [] Value.none Value.none Value.none Value.none none Value.none Value.none 0)) #[]) .nil .nil)))
 (.node (Obj.mk Value.none none (Data.func (FuncData.mk (Str.ofString "is_open") (Str.ofString "Closing.is_open") hda9_1 (FuncBody.stmts hdb9_1) hds9_1 0 [] Value.none Value.none Value.none Value.none none Value.none Value.none 0)) #[])
 (.node (Obj.mk Value.none none (Data.fields #[]) #[])
 (.node (hdAt (nat_lit 84) (hd.heap_39 P)) .nil .nil)
 (.node (hdAt (nat_lit 130) (hd.heap_39 P)) .nil .nil))
 (.node (Obj.mk (Value.type "code") none (Data.fields #[Value.str (Str.ofString "QuicError") 319, Value.str (Str.ofString "QuicError") 320, Value.str (Str.ofString "/claim/cut.py") 321, Value.int 62 0, Value.int 0 0, Value.int 0 0, Value.int 0 0, Value.int 0 0, Value.ref 109, Value.bool false, Value.int 181 0, Value.ref 110, Value.none, Value.none, Value.none, Value.none, Value.int 322 0, Value.int 62 0, Value.str (Str.ofString "/claim/cut.py") 323]) #[])
 (.node (hdAt (nat_lit 107) (hd.heap_39 P)) .nil .nil) .nil)))
 (.node (Obj.mk Value.none none (Data.fields #[]) #[])
 (.node (hdAt (nat_lit 14) (hd.heap_39 P))
 (.node (hdAt (nat_lit 37) (hd.heap_39 P))
 (.node (Obj.mk Value.none none (Data.fields #[]) #[]) .nil .nil)
 (.node (Obj.mk Value.none none (Data.fields #[]) #[]) .nil .nil))
 (.node (hdAt (nat_lit 61) (hd.heap_39 P))
 (.node (Obj.mk Value.none none (Data.func (FuncData.mk (Str.ofString "long_head") (Str.ofString "long_head") hda22 (FuncBody.stmts hdb22) hds22 0 [] Value.none Value.none Value.none Value.none none Value.none Value.none 0)) #[]) .nil .nil)
 (.node (hdAt (nat_lit 147) (hd.heap_39 P)) .nil .nil)))
 (.node (hdAt (nat_lit 25) (hd.heap_39 P))
 (.node (hdAt (nat_lit 48) (hd.heap_39 P))
 (.node (hdAt (nat_lit 90) (hd.heap_39 P)) .nil .nil)
 (.node (hdAt (nat_lit 136) (hd.heap_39 P)) .nil .nil))
 (.node (hdAt (nat_lit 67) (hd.heap_39 P))
 (.node (hdAt (nat_lit 113) (hd.heap_39 P)) .nil .nil) .nil))))
 (.node (Obj.mk (Value.type "tuple") none (Data.seq #[]) #[])
 (.node (Obj.mk Value.none none (Data.func (FuncData.mk (Str.ofString "_wall") (Str.ofString "_wall") hda0 (FuncBody.stmts hdb0) hds0 0 [] Value.none Value.none Value.none Value.none none Value.none Value.none 0)) #[])
 (.node (Obj.mk (Value.type "frame") none Data.plain #[some (Value.ref 34), some (Value.ref 3), some (Value.ref 31), none, some (Value.str (Str.ofString "quic.closing") 204), none, some (Value.ref 0)])
 (.node (hdAt (nat_lit 34) (hd.heap_39 P))
 (.node (Obj.mk Value.none none (Data.func (FuncData.mk (Str.ofString "put_whole") (Str.ofString "put_whole") hda15 (FuncBody.stmts hdb15) hds15 0 [] Value.none Value.none Value.none Value.none none Value.none Value.none 0)) #[]) .nil .nil)
 (.node (Obj.mk Value.none none (Data.func (FuncData.mk (Str.ofString "short_head") (Str.ofString "short_head") hda31 (FuncBody.stmts hdb31) hds31 0 [] Value.none Value.none Value.none Value.none none Value.none Value.none 0)) #[]) .nil .nil))
 (.node (hdAt (nat_lit 57) (hd.heap_39 P))
 (.node (hdAt (nat_lit 99) (hd.heap_39 P)) .nil .nil)
 (.node (Obj.mk Value.none none (Data.fields #[]) #[]) .nil .nil)))
 (.node (Obj.mk Value.none none (Data.fields #[]) #[])
 (.node (hdAt (nat_lit 45) (hd.heap_39 P))
 (.node (hdAt (nat_lit 87) (hd.heap_39 P)) .nil .nil)
 (.node (hdAt (nat_lit 133) (hd.heap_39 P)) .nil .nil))
 (.node (hdAt (nat_lit 64) (hd.heap_39 P))
 (.node (hdAt (nat_lit 110) (hd.heap_39 P)) .nil .nil) .nil)))
 (.node (hdAt (nat_lit 10) (hd.heap_39 P))
 (.node (hdAt (nat_lit 17) (hd.heap_39 P))
 (.node (Obj.mk Value.none none (Data.func (FuncData.mk (Str.ofString "on_packet") (Str.ofString "Closing.on_packet") hda9_5 (FuncBody.stmts hdb9_5) hds9_5 0 [] Value.none Value.none Value.none Value.none none Value.none Value.none 0)) #[])
 (.node (hdAt (nat_lit 81) (hd.heap_39 P)) .nil .nil)
 (.node (hdAt (nat_lit 127) (hd.heap_39 P)) .nil .nil))
 (.node (Obj.mk (Value.type "builtin_function_or_method") none (Data.fields #[Value.builtin "type.__prepare__", Value.type "type"]) #[])
 (.node (Obj.mk Value.none none (Data.fields #[]) #[]) .nil .nil) .nil))
 (.node (hdAt (nat_lit 28) (hd.heap_39 P))
 (.node (hdAt (nat_lit 51) (hd.heap_39 P))
 (.node (hdAt (nat_lit 93) (hd.heap_39 P)) .nil .nil)
 (.node (hdAt (nat_lit 139) (hd.heap_39 P)) .nil .nil))
 (.node (hdAt (nat_lit 71) (hd.heap_39 P))
 (.node (hdAt (nat_lit 116) (hd.heap_39 P)) .nil .nil) .nil)))))
 (.node (boot_o_5 P)
 (.node (boot_o_9 P)
 (.node (hdAt (nat_lit 3) (hd.heap_39 P))
 (.node (Obj.mk Value.none none (Data.fields #[Value.int 17 0, Value.int 4 0, Value.ref 41, Value.int 24 0, Value.int 4 0, Value.ref 48, Value.int 27 0, Value.int 4 0, Value.ref 55, Value.int 35 0, Value.int 4 0, Value.ref 62, Value.int 44 0, Value.int 4 0, Value.ref 69, Value.int 49 0, Value.int 4 0, Value.ref 76, Value.int 52 0, Value.int 4 0, Value.ref 83, Value.int 55 0, Value.int 4 0, Value.ref 90, Value.int 58 0, Value.int 4 0, Value.ref 97]) #[])
 (.node (Obj.mk Value.none none (Data.fields #[]) #[])
 (.node (hdAt (nat_lit 74) (hd.heap_39 P)) .nil .nil)
 (.node (hdAt (nat_lit 120) (hd.heap_39 P)) .nil .nil))
 (.node (hdAt (nat_lit 55) (hd.heap_39 P))
 (.node (hdAt (nat_lit 97) (hd.heap_39 P)) .nil .nil)
 (.node (hdAt (nat_lit 143) (hd.heap_39 P)) .nil .nil)))
 (.node (hdAt (nat_lit 21) (hd.heap_39 P))
 (.node (hdAt (nat_lit 44) (hd.heap_39 P))
 (.node (Obj.mk Value.none none (Data.func (FuncData.mk (Str.ofString "put_varint") (Str.ofString "put_varint") hda17 (FuncBody.stmts hdb17) hds17 0 [] Value.none Value.none Value.none Value.none none Value.none Value.none 0)) #[]) .nil .nil)
 (.node (Obj.mk Value.none none (Data.func (FuncData.mk (Str.ofString "number_in") (Str.ofString "number_in") hda33 (FuncBody.stmts hdb33) hds33 0 [] Value.none Value.none Value.none Value.none none Value.none Value.none 0)) #[]) .nil .nil))
 (.node (hdAt (nat_lit 63) (hd.heap_39 P))
 (.node (hdAt (nat_lit 109) (hd.heap_39 P)) .nil .nil) .nil)))
 (.node (hdAt (nat_lit 9) (hd.heap_39 P))
 (.node (hdAt (nat_lit 15) (hd.heap_39 P))
 (.node (hdAt (nat_lit 38) (hd.heap_39 P))
 (.node (hdAt (nat_lit 80) (hd.heap_39 P)) .nil .nil)
 (.node (hdAt (nat_lit 126) (hd.heap_39 P)) .nil .nil))
 (.node (Obj.mk (Value.type "builtin_function_or_method") none (Data.fields #[Value.builtin "object.__init_subclass__", Value.ref 101]) #[])
 (.node (hdAt (nat_lit 103) (hd.heap_39 P)) .nil .nil) .nil))
 (.node (hdAt (nat_lit 27) (hd.heap_39 P))
 (.node (Obj.mk Value.none none (Data.func (FuncData.mk (Str.ofString "give_up") (Str.ofString "Closing.give_up") hda9_7 (FuncBody.stmts hdb9_7) hds9_7 0 [] Value.none Value.none Value.none Value.none none Value.none Value.none 0)) #[])
 (.node (Obj.mk Value.none none (Data.func (FuncData.mk (Str.ofString "put_ids") (Str.ofString "put_ids") hda20 (FuncBody.stmts hdb20) hds20 0 [] Value.none Value.none Value.none Value.none none Value.none Value.none 0)) #[]) .nil .nil)
 (.node (hdAt (nat_lit 137) (hd.heap_39 P)) .nil .nil))
 (.node (hdAt (nat_lit 69) (hd.heap_39 P))
 (.node (Obj.mk Value.none none (Data.fields #[]) #[]) .nil .nil) .nil))))
 (.node (Obj.mk (Value.type "code") none (Data.fields #[Value.str (Str.ofString "<module>") 182, Value.str (Str.ofString "<module>") 183, Value.str (Str.ofString "/claim/cut.py") 184, Value.int 1 0, Value.int 0 0, Value.int 0 0, Value.int 0 0, Value.int 0 0, Value.ref 11, Value.bool false, Value.int 181 0, Value.ref 12, Value.none, Value.none, Value.none, Value.none, Value.int 185 0, Value.int 1 0, Value.str (Str.ofString "/claim/cut.py") 186]) #[])
 (.node (hdAt (nat_lit 6) (hd.heap_39 P))
 (.node (Obj.mk Value.none none (Data.fields #[]) #[])
 (.node (hdAt (nat_lit 35) (hd.heap_39 P))
 (.node (hdAt (nat_lit 77) (hd.heap_39 P)) .nil .nil)
 (.node (hdAt (nat_lit 123) (hd.heap_39 P)) .nil .nil))
 (.node (hdAt (nat_lit 59) (hd.heap_39 P))
 (.node (hdAt (nat_lit 100) (hd.heap_39 P)) .nil .nil)
 (.node (hdAt (nat_lit 146) (hd.heap_39 P)) .nil .nil)))
 (.node (hdAt (nat_lit 24) (hd.heap_39 P))
 (.node (hdAt (nat_lit 47) (hd.heap_39 P))
 (.node (hdAt (nat_lit 89) (hd.heap_39 P)) .nil .nil)
 (.node (Obj.mk Value.none none (Data.fields #[]) #[]) .nil .nil))
 (.node (Obj.mk Value.none none (Data.func (FuncData.mk (Str.ofString "__init__") (Str.ofString "QuicError.__init__") hda12_0 (FuncBody.stmts hdb12_0) hds12_0 0 [] Value.none Value.none Value.none Value.none none Value.none Value.none 0)) #[])
 (.node (Obj.mk Value.none none (Data.func (FuncData.mk (Str.ofString "cut_number") (Str.ofString "cut_number") hda26 (FuncBody.stmts hdb26) hds26 0 [] Value.none Value.none Value.none Value.none none Value.none Value.none 0)) #[]) .nil .nil) .nil)))
 (.node (Obj.mk (Value.type "tuple") none (Data.seq #[]) #[])
 (.node (hdAt (nat_lit 18) (hd.heap_39 P))
 (.node (hdAt (nat_lit 41) (hd.heap_39 P))
 (.node (hdAt (nat_lit 83) (hd.heap_39 P)) .nil .nil)
 (.node (hdAt (nat_lit 129) (hd.heap_39 P)) .nil .nil))
 (.node (Obj.mk (Value.type "tuple") none (Data.seq #[]) #[])
 (.node (hdAt (nat_lit 106) (hd.heap_39 P)) .nil .nil) .nil))
 (.node (Obj.mk Value.none none (Data.func (FuncData.mk (Str.ofString "on_close") (Str.ofString "Closing.on_close") hda9_3 (FuncBody.stmts hdb9_3) hds9_3 0 [] Value.none Value.none Value.none Value.none none Value.none Value.none 0)) #[])
 (.node (Obj.mk Value.none none (Data.fields #[]) #[])
 (.node (Obj.mk Value.none none (Data.fields #[]) #[]) .nil .nil)
 (.node (hdAt (nat_lit 140) (hd.heap_39 P)) .nil .nil))
 (.node (Obj.mk (Value.type "builtin_function_or_method") none (Data.fields #[Value.builtin "object.__init_subclass__", Value.ref 122]) #[])
 (.node (hdAt (nat_lit 117) (hd.heap_39 P)) .nil .nil) .nil))))))
 (.node (hdAt (nat_lit 0) (hd.heap_39 P))
 (.node (boot_o_4 P)
 (.node (boot_o_8 P)
 (.node (Obj.mk Value.none none (Data.fields #[]) #[])
 (.node (Obj.mk (Value.type "tuple") none (Data.seq #[]) #[])
 (.node (hdAt (nat_lit 32) (hd.heap_39 P))
 (.node (Obj.mk Value.none none (Data.fields #[]) #[]) .nil .nil)
 (.node (Obj.mk Value.none none (Data.fields #[]) #[]) .nil .nil))
 (.node (Obj.mk Value.none none (Data.func (FuncData.mk (Str.ofString "next_time") (Str.ofString "Closing.next_time") hda9_8 (FuncBody.stmts hdb9_8) hds9_8 0 [] Value.none Value.none Value.none Value.none none Value.none Value.none 0)) #[])
 (.node (Obj.mk Value.none none (Data.func (FuncData.mk (Str.ofString "long_first") (Str.ofString "long_first") hda21 (FuncBody.stmts hdb21) hds21 0 [] Value.none Value.none Value.none Value.none none Value.none Value.none 0)) #[]) .nil .nil)
 (.node (hdAt (nat_lit 142) (hd.heap_39 P)) .nil .nil)))
 (.node (hdAt (nat_lit 20) (hd.heap_39 P))
 (.node (hdAt (nat_lit 43) (hd.heap_39 P))
 (.node (hdAt (nat_lit 85) (hd.heap_39 P)) .nil .nil)
 (.node (hdAt (nat_lit 131) (hd.heap_39 P)) .nil .nil))
 (.node (Obj.mk (Value.type "frame") none Data.plain #[some (Value.ref 111), some (Value.ref 3), some (Value.ref 108), none, some (Value.str (Str.ofString "quic.errors") 313), none, some (Value.ref 0)])
 (.node (hdAt (nat_lit 108) (hd.heap_39 P)) .nil .nil) .nil)))
 (.node (hdAt (nat_lit 8) (hd.heap_39 P))
 (.node (Obj.mk Value.none none (Data.func (FuncData.mk (Str.ofString "__init__") (Str.ofString "Closing.__init__") hda9_0 (FuncBody.stmts hdb9_0) hds9_0 0 [] Value.none Value.none Value.none Value.none none Value.none Value.none 0)) #[])
 (.node (Obj.mk Value.none none (Data.fields #[]) #[])
 (.node (hdAt (nat_lit 79) (hd.heap_39 P)) .nil .nil)
 (.node (hdAt (nat_lit 125) (hd.heap_39 P)) .nil .nil))
 (.node (Obj.mk (Value.type "super") none (Data.fields #[Value.ref 101, Value.ref 101, Value.ref 101]) #[])
 (.node (hdAt (nat_lit 102) (hd.heap_39 P)) .nil .nil)
 (.node (hdAt (nat_lit 148) (hd.heap_39 P)) .nil .nil)))
 (.node (hdAt (nat_lit 26) (hd.heap_39 P))
 (.node (hdAt (nat_lit 49) (hd.heap_39 P))
 (.node (hdAt (nat_lit 91) (hd.heap_39 P)) .nil .nil)
 (.node (Obj.mk Value.none none (Data.func (FuncData.mk (Str.ofString "packet_size") (Str.ofString "packet_size") hda34 (FuncBody.stmts hdb34) hds34 0 [] Value.none Value.none Value.none Value.none none Value.none Value.none 0)) #[]) .nil .nil))
 (.node (hdAt (nat_lit 68) (hd.heap_39 P))
 (.node (hdAt (nat_lit 114) (hd.heap_39 P)) .nil .nil) .nil))))
 (.node (Obj.mk Value.none none (Data.fields #[Value.int 1 0, Value.int 0 0, Value.ref 20, Value.int 5 0, Value.int 0 0, Value.ref 27, Value.int 15 0, Value.int 0 0, Value.ref 34, Value.int 62 0, Value.int 0 0, Value.ref 111, Value.int 71 0, Value.int 0 0, Value.ref 132, Value.int 79 0, Value.int 0 0, Value.ref 139, Value.int 84 0, Value.int 0 0, Value.ref 146, Value.int 93 0, Value.int 0 0, Value.ref 154, Value.int 95 0, Value.int 0 0, Value.ref 161, Value.int 97 0, Value.int 0 0, Value.ref 168, Value.int 104 0, Value.int 0 0, Value.ref 175, Value.int 110 0, Value.int 0 0, Value.ref 182, Value.int 115 0, Value.int 0 0, Value.ref 189, Value.int 119 0, Value.int 0 0, Value.ref 196, Value.int 121 0, Value.int 0 0, Value.ref 203, Value.int 128 0, Value.int 0 0, Value.ref 210, Value.int 130 0, Value.int 0 0, Value.ref 217, Value.int 136 0, Value.int 0 0, Value.ref 224, Value.int 143 0, Value.int 0 0, Value.ref 231]) #[])
 (.node (hdAt (nat_lit 5) (hd.heap_39 P))
 (.node (hdAt (nat_lit 12) (hd.heap_39 P))
 (.node (Obj.mk Value.none none (Data.func (FuncData.mk (Str.ofString "on_reset") (Str.ofString "Closing.on_reset") hda9_4 (FuncBody.stmts hdb9_4) hds9_4 0 [] Value.none Value.none Value.none Value.none none Value.none Value.none 0)) #[])
 (.node (hdAt (nat_lit 76) (hd.heap_39 P)) .nil .nil)
 (.node (hdAt (nat_lit 122) (hd.heap_39 P)) .nil .nil))
 (.node (hdAt (nat_lit 58) (hd.heap_39 P))
 (.node (Obj.mk Value.none none (Data.fields #[]) #[]) .nil .nil)
 (.node (hdAt (nat_lit 145) (hd.heap_39 P)) .nil .nil)))
 (.node (hdAt (nat_lit 23) (hd.heap_39 P))
 (.node (hdAt (nat_lit 46) (hd.heap_39 P))
 (.node (hdAt (nat_lit 88) (hd.heap_39 P)) .nil .nil)
 (.node (hdAt (nat_lit 134) (hd.heap_39 P)) .nil .nil))
 (.node (hdAt (nat_lit 65) (hd.heap_39 P))
 (.node (hdAt (nat_lit 111) (hd.heap_39 P)) .nil .nil) .nil)))
 (.node (hdAt (nat_lit 11) (hd.heap_39 P))
 (.node (Obj.mk Value.none none (Data.fields #[]) #[])
 (.node (hdAt (nat_lit 40) (hd.heap_39 P))
 (.node (hdAt (nat_lit 82) (hd.heap_39 P)) .nil .nil)
 (.node (hdAt (nat_lit 128) (hd.heap_39 P)) .nil .nil))
 (.node (Obj.mk (Value.type "dict") none (Data.dict #[DictEntry.mk (PyData.keyHash P (Str.ofString "__module__")) (Value.str (Str.ofString "__module__") 324) (Value.str (Str.ofString "quic.errors") 313), DictEntry.mk (PyData.keyHash P (Str.ofString "__qualname__")) (Value.str (Str.ofString "__qualname__") 326) (Value.str (Str.ofString "QuicError") 325), DictEntry.mk (PyData.keyHash P (Str.ofString "__firstlineno__")) (Value.str (Str.ofString "__firstlineno__") 328) (Value.int 62 327), DictEntry.mk (PyData.keyHash P (Str.ofString "__init__")) (Value.str (Str.ofString "__init__") 338) (Value.ref 119), DictEntry.mk (PyData.keyHash P (Str.ofString "__static_attributes__")) (Value.str (Str.ofString "__static_attributes__") 342) (Value.ref 120)] 5) #[])
 (.node (hdAt (nat_lit 105) (hd.heap_39 P)) .nil .nil) .nil))
 (.node (hdAt (nat_lit 29) (hd.heap_39 P))
 (.node (hdAt (nat_lit 52) (hd.heap_39 P))
 (.node (hdAt (nat_lit 94) (hd.heap_39 P)) .nil .nil)
 (.node (Obj.mk Value.none none (Data.fields #[]) #[]) .nil .nil))
 (.node (Obj.mk (Value.type "super") none (Data.fields #[Value.ref 122, Value.ref 122, Value.ref 122]) #[])
 (.node (Obj.mk Value.none none (Data.func (FuncData.mk (Str.ofString "padded_payload") (Str.ofString "padded_payload") hda29 (FuncBody.stmts hdb29) hds29 0 [] Value.none Value.none Value.none Value.none none Value.none Value.none 0)) #[]) .nil .nil) .nil)))))
 (.node (boot_o_6 P)
 (.node (boot_o_10 P)
 (.node (hdAt (nat_lit 4) (hd.heap_39 P))
 (.node (Obj.mk (Value.type "code") none (Data.fields #[Value.str (Str.ofString "Closing") 218, Value.str (Str.ofString "Closing") 219, Value.str (Str.ofString "/claim/cut.py") 220, Value.int 15 0, Value.int 0 0, Value.int 0 0, Value.int 0 0, Value.int 0 0, Value.ref 32, Value.bool false, Value.int 181 0, Value.ref 33, Value.none, Value.none, Value.none, Value.none, Value.int 221 0, Value.int 15 0, Value.str (Str.ofString "/claim/cut.py") 222]) #[])
 (.node (hdAt (nat_lit 33) (hd.heap_39 P))
 (.node (hdAt (nat_lit 75) (hd.heap_39 P)) .nil .nil)
 (.node (hdAt (nat_lit 121) (hd.heap_39 P)) .nil .nil))
 (.node (hdAt (nat_lit 56) (hd.heap_39 P))
 (.node (hdAt (nat_lit 98) (hd.heap_39 P)) .nil .nil)
 (.node (hdAt (nat_lit 144) (hd.heap_39 P)) .nil .nil)))
 (.node (hdAt (nat_lit 22) (hd.heap_39 P))
 (.node (Obj.mk Value.none none (Data.func (FuncData.mk (Str.ofString "on_time") (Str.ofString "Closing.on_time") hda9_6 (FuncBody.stmts hdb9_6) hds9_6 0 [] Value.none Value.none Value.none Value.none none Value.none Value.none 0)) #[])
 (.node (hdAt (nat_lit 86) (hd.heap_39 P)) .nil .nil)
 (.node (hdAt (nat_lit 132) (hd.heap_39 P)) .nil .nil))
 (.node (Obj.mk Value.none none (Data.fields #[]) #[])
 (.node (Obj.mk Value.none none (Data.fields #[]) #[]) .nil .nil) .nil)))
 (.node (Obj.mk Value.none none (Data.func (FuncData.mk (Str.ofString "take_reset") (Str.ofString "take_reset") hda2 (FuncBody.stmts hdb2) hds2 0 [] Value.none Value.none Value.none Value.none none Value.none Value.none 0)) #[])
 (.node (hdAt (nat_lit 16) (hd.heap_39 P))
 (.node (hdAt (nat_lit 39) (hd.heap_39 P))
 (.node (Obj.mk Value.none none (Data.func (FuncData.mk (Str.ofString "varint_size") (Str.ofString "varint_size") hda16 (FuncBody.stmts hdb16) hds16 0 [] Value.none Value.none Value.none Value.none none Value.none Value.none 0)) #[]) .nil .nil)
 (.node (Obj.mk Value.none none (Data.func (FuncData.mk (Str.ofString "head_of") (Str.ofString "head_of") hda32 (FuncBody.stmts hdb32) hds32 0 [] Value.none Value.none Value.none Value.none none Value.none Value.none 0)) #[]) .nil .nil))
 (.node (hdAt (nat_lit 62) (hd.heap_39 P))
 (.node (hdAt (nat_lit 104) (hd.heap_39 P)) .nil .nil) .nil))
 (.node (Obj.mk Value.none none (Data.fields #[]) #[])
 (.node (hdAt (nat_lit 50) (hd.heap_39 P))
 (.node (hdAt (nat_lit 92) (hd.heap_39 P)) .nil .nil)
 (.node (hdAt (nat_lit 138) (hd.heap_39 P)) .nil .nil))
 (.node (hdAt (nat_lit 70) (hd.heap_39 P))
 (.node (hdAt (nat_lit 115) (hd.heap_39 P)) .nil .nil) .nil))))
 (.node (Obj.mk (Value.type "frame") none Data.plain #[some (Value.ref 13), some (Value.ref 3), some (Value.ref 3), none, some (Value.str (Str.ofString "__main__") 164), none, some (Value.ref 0)])
 (.node (hdAt (nat_lit 7) (hd.heap_39 P))
 (.node (hdAt (nat_lit 13) (hd.heap_39 P))
 (.node (hdAt (nat_lit 36) (hd.heap_39 P))
 (.node (hdAt (nat_lit 78) (hd.heap_39 P)) .nil .nil)
 (.node (hdAt (nat_lit 124) (hd.heap_39 P)) .nil .nil))
 (.node (hdAt (nat_lit 60) (hd.heap_39 P))
 (.node (hdAt (nat_lit 101) (hd.heap_39 P)) .nil .nil)
 (.node (Obj.mk Value.none none (Data.func (FuncData.mk (Str.ofString "head_octets") (Str.ofString "head_octets") hda38 (FuncBody.stmts hdb38) hds38 0 [] Value.none Value.none Value.none Value.none none Value.none Value.none 0)) #[]) .nil .nil)))
 (.node (Obj.mk Value.none none (Data.func (FuncData.mk (Str.ofString "close_now") (Str.ofString "Closing.close_now") hda9_2 (FuncBody.stmts hdb9_2) hds9_2 0 [] Value.none Value.none Value.none Value.none none Value.none Value.none 0)) #[])
 (.node (Obj.mk Value.none none (Data.fields #[]) #[])
 (.node (Obj.mk Value.none none (Data.fields #[]) #[]) .nil .nil)
 (.node (hdAt (nat_lit 135) (hd.heap_39 P)) .nil .nil))
 (.node (hdAt (nat_lit 66) (hd.heap_39 P))
 (.node (hdAt (nat_lit 112) (hd.heap_39 P)) .nil .nil) .nil)))
 (.node (Obj.mk (Value.type "builtin_function_or_method") none (Data.fields #[Value.builtin "type.__prepare__", Value.type "type"]) #[])
 (.node (hdAt (nat_lit 19) (hd.heap_39 P))
 (.node (hdAt (nat_lit 42) (hd.heap_39 P))
 (.node (Obj.mk Value.none none (Data.fields #[]) #[]) .nil .nil)
 (.node (Obj.mk Value.none none (Data.fields #[]) #[]) .nil .nil))
 (.node (Obj.mk Value.none none (Data.fields #[Value.int 64 0, Value.int 4 0, Value.ref 118]) #[])
 (.node (Obj.mk Value.none none (Data.func (FuncData.mk (Str.ofString "number_size") (Str.ofString "number_size") hda25 (FuncBody.stmts hdb25) hds25 0 [] Value.none Value.none Value.none Value.none none Value.none Value.none 0)) #[]) .nil .nil) .nil))
 (.node (hdAt (nat_lit 30) (hd.heap_39 P))
 (.node (hdAt (nat_lit 53) (hd.heap_39 P))
 (.node (hdAt (nat_lit 95) (hd.heap_39 P)) .nil .nil)
 (.node (hdAt (nat_lit 141) (hd.heap_39 P)) .nil .nil))
 (.node (hdAt (nat_lit 72) (hd.heap_39 P))
 (.node (hdAt (nat_lit 118) (hd.heap_39 P)) .nil .nil) .nil))))))
/-- the heap behind the top -/
noncomputable def hd.T2 : Params → BT := fun P => .node (boot_o_0 P)
 (.node (boot_o_1 P)
 (.node (hdAt (nat_lit 1) (hd.heap_39 P))
 (.node (boot_o_7 P)
 (.node (hdAt (nat_lit 2) (hd.heap_39 P))
 (.node (Obj.mk (Value.type "dict") none (Data.dict #[DictEntry.mk (PyData.keyHash P (Str.ofString "__module__")) (Value.str (Str.ofString "__module__") 223) (Value.str (Str.ofString "quic.closing") 204), DictEntry.mk (PyData.keyHash P (Str.ofString "__qualname__")) (Value.str (Str.ofString "__qualname__") 225) (Value.str (Str.ofString "Closing") 224), DictEntry.mk (PyData.keyHash P (Str.ofString "__firstlineno__")) (Value.str (Str.ofString "__firstlineno__") 227) (Value.int 15 226), DictEntry.mk (PyData.keyHash P (Str.ofString "__init__")) (Value.str (Str.ofString "__init__") 234) (Value.ref 42), DictEntry.mk (PyData.keyHash P (Str.ofString "is_open")) (Value.str (Str.ofString "is_open") 241) (Value.ref 49), DictEntry.mk (PyData.keyHash P (Str.ofString "close_now")) (Value.str (Str.ofString "close_now") 251) (Value.ref 56), DictEntry.mk (PyData.keyHash P (Str.ofString "on_close")) (Value.str (Str.ofString "on_close") 261) (Value.ref 63), DictEntry.mk (PyData.keyHash P (Str.ofString "on_reset")) (Value.str (Str.ofString "on_reset") 270) (Value.ref 70), DictEntry.mk (PyData.keyHash P (Str.ofString "on_packet")) (Value.str (Str.ofString "on_packet") 277) (Value.ref 77), DictEntry.mk (PyData.keyHash P (Str.ofString "on_time")) (Value.str (Str.ofString "on_time") 285) (Value.ref 84), DictEntry.mk (PyData.keyHash P (Str.ofString "give_up")) (Value.str (Str.ofString "give_up") 292) (Value.ref 91), DictEntry.mk (PyData.keyHash P (Str.ofString "next_time")) (Value.str (Str.ofString "next_time") 299) (Value.ref 98), DictEntry.mk (PyData.keyHash P (Str.ofString "__static_attributes__")) (Value.str (Str.ofString "__static_attributes__") 305) (Value.ref 99)] 13) #[])
 (.node (hdAt (nat_lit 31) (hd.heap_39 P))
 (.node (hdAt (nat_lit 73) (hd.heap_39 P))
 (.node (Obj.mk Value.none none (Data.fields #[]) #[]) .nil .nil)
 (.node (hdAt (nat_lit 251) (hd.heap_39 P)) .nil .nil))
 (.node (hdAt (nat_lit 119) (hd.heap_39 P))
 (.node (hdAt (nat_lit 205) (hd.heap_39 P)) .nil .nil) .nil))
 (.node (hdAt (nat_lit 54) (hd.heap_39 P))
 (.node (hdAt (nat_lit 96) (hd.heap_39 P))
 (.node (hdAt (nat_lit 182) (hd.heap_39 P)) .nil .nil) .nil)
 (.node (Obj.mk Value.none none (Data.func (FuncData.mk (Str.ofString "packet_with") (Str.ofString "packet_with") hda37 (FuncBody.stmts hdb37) hds37 0 [] Value.none Value.none Value.none Value.none none Value.none Value.none 0)) #[])
 (.node (hdAt (nat_lit 228) (hd.heap_39 P)) .nil .nil) .nil)))
 (.node (Obj.mk Value.none none (Data.func (FuncData.mk (Str.ofString "is_open") (Str.ofString "Closing.is_open") hda9_1 (FuncBody.stmts hdb9_1) hds9_1 0 [] Value.none Value.none Value.none Value.none none Value.none Value.none 0)) #[])
 (.node (Obj.mk Value.none none (Data.fields #[]) #[])
 (.node (hdAt (nat_lit 84) (hd.heap_39 P))
 (.node (hdAt (nat_lit 171) (hd.heap_39 P)) .nil .nil) .nil)
 (.node (hdAt (nat_lit 130) (hd.heap_39 P))
 (.node (Obj.mk Value.none none (Data.func (FuncData.mk (Str.ofString "note_largest") (Str.ofString "Space.note_largest") hda40_13 (FuncBody.stmts hdb40_13) hds40_13 0 [] Value.none Value.none Value.none Value.none none Value.none Value.none 0)) #[]) .nil .nil) .nil))
 (.node (Obj.mk (Value.type "code") none (Data.fields #[Value.str (Str.ofString "QuicError") 319, Value.str (Str.ofString "QuicError") 320, Value.str (Str.ofString "/claim/cut.py") 321, Value.int 62 0, Value.int 0 0, Value.int 0 0, Value.int 0 0, Value.int 0 0, Value.ref 109, Value.bool false, Value.int 181 0, Value.ref 110, Value.none, Value.none, Value.none, Value.none, Value.int 322 0, Value.int 62 0, Value.str (Str.ofString "/claim/cut.py") 323]) #[])
 (.node (hdAt (nat_lit 107) (hd.heap_39 P))
 (.node (hdAt (nat_lit 194) (hd.heap_39 P)) .nil .nil) .nil)
 (.node (Obj.mk (Value.type "frame") none Data.plain #[some (Value.ref 238), some (Value.ref 3), some (Value.ref 235), none, some (Value.str (Str.ofString "quic.spaces") 525), none, some (Value.ref 0)])
 (.node (Obj.mk Value.none none (Data.fields #[]) #[]) .nil .nil) .nil))))
 (.node (Obj.mk Value.none none (Data.fields #[]) #[])
 (.node (hdAt (nat_lit 14) (hd.heap_39 P))
 (.node (hdAt (nat_lit 37) (hd.heap_39 P))
 (.node (Obj.mk Value.none none (Data.fields #[]) #[])
 (.node (hdAt (nat_lit 165) (hd.heap_39 P)) .nil .nil)
 (.node (Obj.mk Value.none none (Data.func (FuncData.mk (Str.ofString "law") (Str.ofString "law") hda43 (FuncBody.stmts hdb43) hds43 0 [] Value.none Value.none Value.none Value.none none Value.none Value.none 0)) #[]) .nil .nil))
 (.node (Obj.mk Value.none none (Data.fields #[]) #[])
 (.node (hdAt (nat_lit 211) (hd.heap_39 P)) .nil .nil) .nil))
 (.node (hdAt (nat_lit 61) (hd.heap_39 P))
 (.node (Obj.mk Value.none none (Data.func (FuncData.mk (Str.ofString "long_head") (Str.ofString "long_head") hda22 (FuncBody.stmts hdb22) hds22 0 [] Value.none Value.none Value.none Value.none none Value.none Value.none 0)) #[])
 (.node (hdAt (nat_lit 188) (hd.heap_39 P)) .nil .nil) .nil)
 (.node (hdAt (nat_lit 147) (hd.heap_39 P))
 (.node (hdAt (nat_lit 234) (hd.heap_39 P)) .nil .nil) .nil)))
 (.node (hdAt (nat_lit 25) (hd.heap_39 P))
 (.node (hdAt (nat_lit 48) (hd.heap_39 P))
 (.node (hdAt (nat_lit 90) (hd.heap_39 P))
 (.node (Obj.mk Value.none none (Data.func (FuncData.mk (Str.ofString "owes_ack") (Str.ofString "Space.owes_ack") hda40_5 (FuncBody.stmts hdb40_5) hds40_5 0 [] Value.none Value.none Value.none Value.none none Value.none Value.none 0)) #[]) .nil .nil) .nil)
 (.node (hdAt (nat_lit 136) (hd.heap_39 P))
 (.node (hdAt (nat_lit 222) (hd.heap_39 P)) .nil .nil) .nil))
 (.node (hdAt (nat_lit 67) (hd.heap_39 P))
 (.node (hdAt (nat_lit 113) (hd.heap_39 P))
 (.node (Obj.mk Value.none none (Data.fields #[]) #[]) .nil .nil) .nil)
 (.node (hdAt (nat_lit 154) (hd.heap_39 P))
 (.node (hdAt (nat_lit 246) (hd.heap_39 P)) .nil .nil) .nil)))))
 (.node (Obj.mk (Value.type "tuple") none (Data.seq #[]) #[])
 (.node (Obj.mk Value.none none (Data.func (FuncData.mk (Str.ofString "_wall") (Str.ofString "_wall") hda0 (FuncBody.stmts hdb0) hds0 0 [] Value.none Value.none Value.none Value.none none Value.none Value.none 0)) #[])
 (.node (Obj.mk (Value.type "frame") none Data.plain #[some (Value.ref 34), some (Value.ref 3), some (Value.ref 31), none, some (Value.str (Str.ofString "quic.closing") 204), none, some (Value.ref 0)])
 (.node (hdAt (nat_lit 34) (hd.heap_39 P))
 (.node (Obj.mk Value.none none (Data.func (FuncData.mk (Str.ofString "put_whole") (Str.ofString "put_whole") hda15 (FuncBody.stmts hdb15) hds15 0 [] Value.none Value.none Value.none Value.none none Value.none Value.none 0)) #[])
 (.node (hdAt (nat_lit 162) (hd.heap_39 P)) .nil .nil)
 (.node (hdAt (nat_lit 254) (hd.heap_39 P)) .nil .nil))
 (.node (Obj.mk Value.none none (Data.func (FuncData.mk (Str.ofString "short_head") (Str.ofString "short_head") hda31 (FuncBody.stmts hdb31) hds31 0 [] Value.none Value.none Value.none Value.none none Value.none Value.none 0)) #[])
 (.node (hdAt (nat_lit 208) (hd.heap_39 P)) .nil .nil) .nil))
 (.node (hdAt (nat_lit 57) (hd.heap_39 P))
 (.node (hdAt (nat_lit 99) (hd.heap_39 P))
 (.node (hdAt (nat_lit 185) (hd.heap_39 P)) .nil .nil) .nil)
 (.node (Obj.mk Value.none none (Data.fields #[]) #[])
 (.node (hdAt (nat_lit 231) (hd.heap_39 P)) .nil .nil) .nil)))
 (.node (Obj.mk Value.none none (Data.fields #[]) #[])
 (.node (hdAt (nat_lit 45) (hd.heap_39 P))
 (.node (hdAt (nat_lit 87) (hd.heap_39 P))
 (.node (hdAt (nat_lit 174) (hd.heap_39 P)) .nil .nil) .nil)
 (.node (hdAt (nat_lit 133) (hd.heap_39 P))
 (.node (Obj.mk Value.none none (Data.fields #[]) #[]) .nil .nil) .nil))
 (.node (hdAt (nat_lit 64) (hd.heap_39 P))
 (.node (hdAt (nat_lit 110) (hd.heap_39 P))
 (.node (Obj.mk Value.none none (Data.func (FuncData.mk (Str.ofString "acked_by") (Str.ofString "Space.acked_by") hda40_9 (FuncBody.stmts hdb40_9) hds40_9 0 [] Value.none Value.none Value.none Value.none none Value.none Value.none 0)) #[]) .nil .nil) .nil)
 (.node (hdAt (nat_lit 151) (hd.heap_39 P))
 (.node (hdAt (nat_lit 242) (hd.heap_39 P)) .nil .nil) .nil))))
 (.node (hdAt (nat_lit 10) (hd.heap_39 P))
 (.node (hdAt (nat_lit 17) (hd.heap_39 P))
 (.node (Obj.mk Value.none none (Data.func (FuncData.mk (Str.ofString "on_packet") (Str.ofString "Closing.on_packet") hda9_5 (FuncBody.stmts hdb9_5) hds9_5 0 [] Value.none Value.none Value.none Value.none none Value.none Value.none 0)) #[])
 (.node (hdAt (nat_lit 81) (hd.heap_39 P))
 (.node (hdAt (nat_lit 168) (hd.heap_39 P)) .nil .nil) .nil)
 (.node (hdAt (nat_lit 127) (hd.heap_39 P))
 (.node (hdAt (nat_lit 214) (hd.heap_39 P)) .nil .nil) .nil))
 (.node (Obj.mk (Value.type "builtin_function_or_method") none (Data.fields #[Value.builtin "type.__prepare__", Value.type "type"]) #[])
 (.node (Obj.mk Value.none none (Data.fields #[]) #[])
 (.node (hdAt (nat_lit 191) (hd.heap_39 P)) .nil .nil) .nil)
 (.node (Obj.mk (Value.type "dict") none (Data.dict #[DictEntry.mk (PyData.keyHash P (Str.ofString "__module__")) (Value.str (Str.ofString "__module__") 534) (Value.str (Str.ofString "quic.spaces") 525), DictEntry.mk (PyData.keyHash P (Str.ofString "__qualname__")) (Value.str (Str.ofString "__qualname__") 536) (Value.str (Str.ofString "Space") 535), DictEntry.mk (PyData.keyHash P (Str.ofString "__firstlineno__")) (Value.str (Str.ofString "__firstlineno__") 538) (Value.int 147 537), DictEntry.mk (PyData.keyHash P (Str.ofString "__init__")) (Value.str (Str.ofString "__init__") 546) (Value.ref 246), DictEntry.mk (PyData.keyHash P (Str.ofString "is_known")) (Value.str (Str.ofString "is_known") 554) (Value.ref 253), DictEntry.mk (PyData.keyHash P (Str.ofString "on_received")) (Value.str (Str.ofString "on_received") 565) (Value.ref 260), DictEntry.mk (PyData.keyHash P (Str.ofString "ack_frame")) (Value.str (Str.ofString "ack_frame") 574) (Value.ref 267), DictEntry.mk (PyData.keyHash P (Str.ofString "on_ack_sent")) (Value.str (Str.ofString "on_ack_sent") 581) (Value.ref 274), DictEntry.mk (PyData.keyHash P (Str.ofString "owes_ack")) (Value.str (Str.ofString "owes_ack") 588) (Value.ref 281), DictEntry.mk (PyData.keyHash P (Str.ofString "take_number")) (Value.str (Str.ofString "take_number") 595) (Value.ref 288), DictEntry.mk (PyData.keyHash P (Str.ofString "on_sent")) (Value.str (Str.ofString "on_sent") 606) (Value.ref 295), DictEntry.mk (PyData.keyHash P (Str.ofString "take")) (Value.str (Str.ofString "take") 614) (Value.ref 302), DictEntry.mk (PyData.keyHash P (Str.ofString "acked_by")) (Value.str (Str.ofString "acked_by") 622) (Value.ref 309), DictEntry.mk (PyData.keyHash P (Str.ofString "note_acked")) (Value.str (Str.ofString "note_acked") 630) (Value.ref 316), DictEntry.mk (PyData.keyHash P (Str.ofString "note_ranges")) (Value.str (Str.ofString "note_ranges") 638) (Value.ref 323), DictEntry.mk (PyData.keyHash P (Str.ofString "is_beyond")) (Value.str (Str.ofString "is_beyond") 646) (Value.ref 330), DictEntry.mk (PyData.keyHash P (Str.ofString "note_largest")) (Value.str (Str.ofString "note_largest") 654) (Value.ref 337), DictEntry.mk (PyData.keyHash P (Str.ofString "eliciting_left")) (Value.str (Str.ofString "eliciting_left") 661) (Value.ref 344), DictEntry.mk (PyData.keyHash P (Str.ofString "bare_numbers")) (Value.str (Str.ofString "bare_numbers") 668) (Value.ref 351), DictEntry.mk (PyData.keyHash P (Str.ofString "octets_out")) (Value.str (Str.ofString "octets_out") 675) (Value.ref 358), DictEntry.mk (PyData.keyHash P (Str.ofString "sent_rows")) (Value.str (Str.ofString "sent_rows") 682) (Value.ref 365), DictEntry.mk (PyData.keyHash P (Str.ofString "forget")) (Value.str (Str.ofString "forget") 689) (Value.ref 372), DictEntry.mk (PyData.keyHash P (Str.ofString "__static_attributes__")) (Value.str (Str.ofString "__static_attributes__") 707) (Value.ref 373)] 23) #[])
 (.node (Obj.mk Value.none none (Data.func (FuncData.mk (Str.ofString "sent_rows") (Str.ofString "Space.sent_rows") hda40_17 (FuncBody.stmts hdb40_17) hds40_17 0 [] Value.none Value.none Value.none Value.none none Value.none Value.none 0)) #[]) .nil .nil) .nil)))
 (.node (hdAt (nat_lit 28) (hd.heap_39 P))
 (.node (hdAt (nat_lit 51) (hd.heap_39 P))
 (.node (hdAt (nat_lit 93) (hd.heap_39 P))
 (.node (Obj.mk Value.none none (Data.fields #[]) #[]) .nil .nil) .nil)
 (.node (hdAt (nat_lit 139) (hd.heap_39 P))
 (.node (hdAt (nat_lit 225) (hd.heap_39 P)) .nil .nil) .nil))
 (.node (hdAt (nat_lit 71) (hd.heap_39 P))
 (.node (hdAt (nat_lit 116) (hd.heap_39 P))
 (.node (hdAt (nat_lit 202) (hd.heap_39 P)) .nil .nil) .nil)
 (.node (Obj.mk Value.none none (Data.func (FuncData.mk (Str.ofString "is_known") (Str.ofString "Space.is_known") hda40_1 (FuncBody.stmts hdb40_1) hds40_1 0 [] Value.none Value.none Value.none Value.none none Value.none Value.none 0)) #[])
 (.node (Obj.mk (Value.type "builtin_function_or_method") none (Data.fields #[Value.builtin "object.__init_subclass__", Value.ref 375]) #[]) .nil .nil) .nil))))))
 (.node (boot_o_5 P)
 (.node (boot_o_9 P)
 (.node (hdAt (nat_lit 3) (hd.heap_39 P))
 (.node (Obj.mk Value.none none (Data.fields #[Value.int 17 0, Value.int 4 0, Value.ref 41, Value.int 24 0, Value.int 4 0, Value.ref 48, Value.int 27 0, Value.int 4 0, Value.ref 55, Value.int 35 0, Value.int 4 0, Value.ref 62, Value.int 44 0, Value.int 4 0, Value.ref 69, Value.int 49 0, Value.int 4 0, Value.ref 76, Value.int 52 0, Value.int 4 0, Value.ref 83, Value.int 55 0, Value.int 4 0, Value.ref 90, Value.int 58 0, Value.int 4 0, Value.ref 97]) #[])
 (.node (Obj.mk Value.none none (Data.fields #[]) #[])
 (.node (hdAt (nat_lit 74) (hd.heap_39 P))
 (.node (hdAt (nat_lit 161) (hd.heap_39 P)) .nil .nil)
 (.node (hdAt (nat_lit 252) (hd.heap_39 P)) .nil .nil))
 (.node (hdAt (nat_lit 120) (hd.heap_39 P))
 (.node (Obj.mk Value.none none (Data.func (FuncData.mk (Str.ofString "note_ranges") (Str.ofString "Space.note_ranges") hda40_11 (FuncBody.stmts hdb40_11) hds40_11 0 [] Value.none Value.none Value.none Value.none none Value.none Value.none 0)) #[]) .nil .nil) .nil))
 (.node (hdAt (nat_lit 55) (hd.heap_39 P))
 (.node (hdAt (nat_lit 97) (hd.heap_39 P))
 (.node (hdAt (nat_lit 184) (hd.heap_39 P)) .nil .nil) .nil)
 (.node (hdAt (nat_lit 143) (hd.heap_39 P))
 (.node (Obj.mk Value.none none (Data.fields #[]) #[]) .nil .nil) .nil)))
 (.node (hdAt (nat_lit 21) (hd.heap_39 P))
 (.node (hdAt (nat_lit 44) (hd.heap_39 P))
 (.node (Obj.mk Value.none none (Data.func (FuncData.mk (Str.ofString "put_varint") (Str.ofString "put_varint") hda17 (FuncBody.stmts hdb17) hds17 0 [] Value.none Value.none Value.none Value.none none Value.none Value.none 0)) #[])
 (.node (hdAt (nat_lit 172) (hd.heap_39 P)) .nil .nil) .nil)
 (.node (Obj.mk Value.none none (Data.func (FuncData.mk (Str.ofString "number_in") (Str.ofString "number_in") hda33 (FuncBody.stmts hdb33) hds33 0 [] Value.none Value.none Value.none Value.none none Value.none Value.none 0)) #[])
 (.node (hdAt (nat_lit 218) (hd.heap_39 P)) .nil .nil) .nil))
 (.node (hdAt (nat_lit 63) (hd.heap_39 P))
 (.node (hdAt (nat_lit 109) (hd.heap_39 P))
 (.node (hdAt (nat_lit 195) (hd.heap_39 P)) .nil .nil) .nil)
 (.node (Obj.mk Value.none none (Data.fields #[]) #[])
 (.node (hdAt (nat_lit 241) (hd.heap_39 P)) .nil .nil) .nil))))
 (.node (hdAt (nat_lit 9) (hd.heap_39 P))
 (.node (hdAt (nat_lit 15) (hd.heap_39 P))
 (.node (hdAt (nat_lit 38) (hd.heap_39 P))
 (.node (hdAt (nat_lit 80) (hd.heap_39 P))
 (.node (Obj.mk Value.none none (Data.func (FuncData.mk (Str.ofString "ack_frame") (Str.ofString "Space.ack_frame") hda40_3 (FuncBody.stmts hdb40_3) hds40_3 0 [] Value.none Value.none Value.none Value.none none Value.none Value.none 0)) #[]) .nil .nil)
 (.node (hdAt (nat_lit 258) (hd.heap_39 P)) .nil .nil))
 (.node (hdAt (nat_lit 126) (hd.heap_39 P))
 (.node (hdAt (nat_lit 212) (hd.heap_39 P)) .nil .nil) .nil))
 (.node (Obj.mk (Value.type "builtin_function_or_method") none (Data.fields #[Value.builtin "object.__init_subclass__", Value.ref 101]) #[])
 (.node (hdAt (nat_lit 103) (hd.heap_39 P))
 (.node (Obj.mk Value.none none (Data.fields #[]) #[]) .nil .nil) .nil)
 (.node (Obj.mk (Value.type "tuple") none (Data.seq #[]) #[])
 (.node (hdAt (nat_lit 235) (hd.heap_39 P)) .nil .nil) .nil)))
 (.node (hdAt (nat_lit 27) (hd.heap_39 P))
 (.node (Obj.mk Value.none none (Data.func (FuncData.mk (Str.ofString "give_up") (Str.ofString "Closing.give_up") hda9_7 (FuncBody.stmts hdb9_7) hds9_7 0 [] Value.none Value.none Value.none Value.none none Value.none Value.none 0)) #[])
 (.node (Obj.mk Value.none none (Data.func (FuncData.mk (Str.ofString "put_ids") (Str.ofString "put_ids") hda20 (FuncBody.stmts hdb20) hds20 0 [] Value.none Value.none Value.none Value.none none Value.none Value.none 0)) #[])
 (.node (hdAt (nat_lit 178) (hd.heap_39 P)) .nil .nil) .nil)
 (.node (hdAt (nat_lit 137) (hd.heap_39 P))
 (.node (hdAt (nat_lit 224) (hd.heap_39 P)) .nil .nil) .nil))
 (.node (hdAt (nat_lit 69) (hd.heap_39 P))
 (.node (Obj.mk Value.none none (Data.fields #[]) #[])
 (.node (hdAt (nat_lit 201) (hd.heap_39 P)) .nil .nil) .nil)
 (.node (hdAt (nat_lit 155) (hd.heap_39 P))
 (.node (hdAt (nat_lit 248) (hd.heap_39 P)) .nil .nil) .nil)))))
 (.node (Obj.mk (Value.type "code") none (Data.fields #[Value.str (Str.ofString "<module>") 182, Value.str (Str.ofString "<module>") 183, Value.str (Str.ofString "/claim/cut.py") 184, Value.int 1 0, Value.int 0 0, Value.int 0 0, Value.int 0 0, Value.int 0 0, Value.ref 11, Value.bool false, Value.int 181 0, Value.ref 12, Value.none, Value.none, Value.none, Value.none, Value.int 185 0, Value.int 1 0, Value.str (Str.ofString "/claim/cut.py") 186]) #[])
 (.node (hdAt (nat_lit 6) (hd.heap_39 P))
 (.node (Obj.mk Value.none none (Data.fields #[]) #[])
 (.node (hdAt (nat_lit 35) (hd.heap_39 P))
 (.node (hdAt (nat_lit 77) (hd.heap_39 P))
 (.node (hdAt (nat_lit 164) (hd.heap_39 P)) .nil .nil)
 (.node (hdAt (nat_lit 255) (hd.heap_39 P)) .nil .nil))
 (.node (hdAt (nat_lit 123) (hd.heap_39 P))
 (.node (Obj.mk Value.none none (Data.fields #[]) #[]) .nil .nil) .nil))
 (.node (hdAt (nat_lit 59) (hd.heap_39 P))
 (.node (hdAt (nat_lit 100) (hd.heap_39 P))
 (.node (Obj.mk Value.none none (Data.func (FuncData.mk (Str.ofString "on_sent") (Str.ofString "Space.on_sent") hda40_7 (FuncBody.stmts hdb40_7) hds40_7 0 [] Value.none Value.none Value.none Value.none none Value.none Value.none 0)) #[]) .nil .nil) .nil)
 (.node (hdAt (nat_lit 146) (hd.heap_39 P))
 (.node (hdAt (nat_lit 232) (hd.heap_39 P)) .nil .nil) .nil)))
 (.node (hdAt (nat_lit 24) (hd.heap_39 P))
 (.node (hdAt (nat_lit 47) (hd.heap_39 P))
 (.node (hdAt (nat_lit 89) (hd.heap_39 P))
 (.node (hdAt (nat_lit 175) (hd.heap_39 P)) .nil .nil) .nil)
 (.node (Obj.mk Value.none none (Data.fields #[]) #[])
 (.node (hdAt (nat_lit 221) (hd.heap_39 P)) .nil .nil) .nil))
 (.node (Obj.mk Value.none none (Data.func (FuncData.mk (Str.ofString "__init__") (Str.ofString "QuicError.__init__") hda12_0 (FuncBody.stmts hdb12_0) hds12_0 0 [] Value.none Value.none Value.none Value.none none Value.none Value.none 0)) #[])
 (.node (Obj.mk Value.none none (Data.func (FuncData.mk (Str.ofString "cut_number") (Str.ofString "cut_number") hda26 (FuncBody.stmts hdb26) hds26 0 [] Value.none Value.none Value.none Value.none none Value.none Value.none 0)) #[])
 (.node (hdAt (nat_lit 198) (hd.heap_39 P)) .nil .nil) .nil)
 (.node (hdAt (nat_lit 152) (hd.heap_39 P))
 (.node (hdAt (nat_lit 244) (hd.heap_39 P)) .nil .nil) .nil))))
 (.node (Obj.mk (Value.type "tuple") none (Data.seq #[]) #[])
 (.node (hdAt (nat_lit 18) (hd.heap_39 P))
 (.node (hdAt (nat_lit 41) (hd.heap_39 P))
 (.node (hdAt (nat_lit 83) (hd.heap_39 P))
 (.node (Obj.mk Value.none none (Data.fields #[]) #[]) .nil .nil) .nil)
 (.node (hdAt (nat_lit 129) (hd.heap_39 P))
 (.node (hdAt (nat_lit 215) (hd.heap_39 P)) .nil .nil) .nil))
 (.node (Obj.mk (Value.type "tuple") none (Data.seq #[]) #[])
 (.node (hdAt (nat_lit 106) (hd.heap_39 P))
 (.node (hdAt (nat_lit 192) (hd.heap_39 P)) .nil .nil) .nil)
 (.node (Obj.mk Value.none none (Data.fields #[Value.int 149 0, Value.int 4 0, Value.ref 245, Value.int 168 0, Value.int 4 0, Value.ref 252, Value.int 171 0, Value.int 4 0, Value.ref 259, Value.int 174 0, Value.int 4 0, Value.ref 266, Value.int 177 0, Value.int 4 0, Value.ref 273, Value.int 180 0, Value.int 4 0, Value.ref 280, Value.int 183 0, Value.int 4 0, Value.ref 287, Value.int 186 0, Value.int 4 0, Value.ref 294, Value.int 189 0, Value.int 4 0, Value.ref 301, Value.int 192 0, Value.int 4 0, Value.ref 308, Value.int 195 0, Value.int 4 0, Value.ref 315, Value.int 198 0, Value.int 4 0, Value.ref 322, Value.int 201 0, Value.int 4 0, Value.ref 329, Value.int 204 0, Value.int 4 0, Value.ref 336, Value.int 207 0, Value.int 4 0, Value.ref 343, Value.int 210 0, Value.int 4 0, Value.ref 350, Value.int 213 0, Value.int 4 0, Value.ref 357, Value.int 216 0, Value.int 4 0, Value.ref 364, Value.int 219 0, Value.int 4 0, Value.ref 371]) #[])
 (.node (hdAt (nat_lit 238) (hd.heap_39 P)) .nil .nil) .nil)))
 (.node (Obj.mk Value.none none (Data.func (FuncData.mk (Str.ofString "on_close") (Str.ofString "Closing.on_close") hda9_3 (FuncBody.stmts hdb9_3) hds9_3 0 [] Value.none Value.none Value.none Value.none none Value.none Value.none 0)) #[])
 (.node (Obj.mk Value.none none (Data.fields #[]) #[])
 (.node (Obj.mk Value.none none (Data.fields #[]) #[])
 (.node (hdAt (nat_lit 181) (hd.heap_39 P)) .nil .nil) .nil)
 (.node (hdAt (nat_lit 140) (hd.heap_39 P))
 (.node (Obj.mk Value.none none (Data.func (FuncData.mk (Str.ofString "bare_numbers") (Str.ofString "Space.bare_numbers") hda40_15 (FuncBody.stmts hdb40_15) hds40_15 0 [] Value.none Value.none Value.none Value.none none Value.none Value.none 0)) #[]) .nil .nil) .nil))
 (.node (Obj.mk (Value.type "builtin_function_or_method") none (Data.fields #[Value.builtin "object.__init_subclass__", Value.ref 122]) #[])
 (.node (hdAt (nat_lit 117) (hd.heap_39 P))
 (.node (hdAt (nat_lit 204) (hd.heap_39 P)) .nil .nil) .nil)
 (.node (hdAt (nat_lit 158) (hd.heap_39 P))
 (.node (Obj.mk Value.none none (Data.fields #[]) #[]) .nil .nil) .nil)))))))
 (.node (hdAt (nat_lit 0) (hd.heap_39 P))
 (.node (boot_o_4 P)
 (.node (boot_o_8 P)
 (.node (Obj.mk Value.none none (Data.fields #[]) #[])
 (.node (Obj.mk (Value.type "tuple") none (Data.seq #[]) #[])
 (.node (hdAt (nat_lit 32) (hd.heap_39 P))
 (.node (Obj.mk Value.none none (Data.fields #[]) #[])
 (.node (hdAt (nat_lit 160) (hd.heap_39 P)) .nil .nil)
 (.node (Obj.mk Value.none none (Data.func (FuncData.mk (Str.ofString "_law_take") (Str.ofString "_law_take") hda42 (FuncBody.stmts hdb42) hds42 0 [] Value.none Value.none Value.none Value.none none Value.none Value.none 0)) #[]) .nil .nil))
 (.node (Obj.mk Value.none none (Data.fields #[]) #[])
 (.node (hdAt (nat_lit 206) (hd.heap_39 P)) .nil .nil) .nil))
 (.node (Obj.mk Value.none none (Data.func (FuncData.mk (Str.ofString "next_time") (Str.ofString "Closing.next_time") hda9_8 (FuncBody.stmts hdb9_8) hds9_8 0 [] Value.none Value.none Value.none Value.none none Value.none Value.none 0)) #[])
 (.node (Obj.mk Value.none none (Data.func (FuncData.mk (Str.ofString "long_first") (Str.ofString "long_first") hda21 (FuncBody.stmts hdb21) hds21 0 [] Value.none Value.none Value.none Value.none none Value.none Value.none 0)) #[])
 (.node (hdAt (nat_lit 183) (hd.heap_39 P)) .nil .nil) .nil)
 (.node (hdAt (nat_lit 142) (hd.heap_39 P))
 (.node (hdAt (nat_lit 229) (hd.heap_39 P)) .nil .nil) .nil)))
 (.node (hdAt (nat_lit 20) (hd.heap_39 P))
 (.node (hdAt (nat_lit 43) (hd.heap_39 P))
 (.node (hdAt (nat_lit 85) (hd.heap_39 P))
 (.node (Obj.mk Value.none none (Data.func (FuncData.mk (Str.ofString "on_ack_sent") (Str.ofString "Space.on_ack_sent") hda40_4 (FuncBody.stmts hdb40_4) hds40_4 0 [] Value.none Value.none Value.none Value.none none Value.none Value.none 0)) #[]) .nil .nil) .nil)
 (.node (hdAt (nat_lit 131) (hd.heap_39 P))
 (.node (hdAt (nat_lit 217) (hd.heap_39 P)) .nil .nil) .nil))
 (.node (Obj.mk (Value.type "frame") none Data.plain #[some (Value.ref 111), some (Value.ref 3), some (Value.ref 108), none, some (Value.str (Str.ofString "quic.errors") 313), none, some (Value.ref 0)])
 (.node (hdAt (nat_lit 108) (hd.heap_39 P))
 (.node (Obj.mk Value.none none (Data.fields #[]) #[]) .nil .nil) .nil)
 (.node (hdAt (nat_lit 149) (hd.heap_39 P))
 (.node (hdAt (nat_lit 240) (hd.heap_39 P)) .nil .nil) .nil))))
 (.node (hdAt (nat_lit 8) (hd.heap_39 P))
 (.node (Obj.mk Value.none none (Data.func (FuncData.mk (Str.ofString "__init__") (Str.ofString "Closing.__init__") hda9_0 (FuncBody.stmts hdb9_0) hds9_0 0 [] Value.none Value.none Value.none Value.none none Value.none Value.none 0)) #[])
 (.node (Obj.mk Value.none none (Data.fields #[]) #[])
 (.node (hdAt (nat_lit 79) (hd.heap_39 P))
 (.node (hdAt (nat_lit 166) (hd.heap_39 P)) .nil .nil)
 (.node (hdAt (nat_lit 257) (hd.heap_39 P)) .nil .nil))
 (.node (hdAt (nat_lit 125) (hd.heap_39 P))
 (.node (Obj.mk Value.none none (Data.func (FuncData.mk (Str.ofString "is_beyond") (Str.ofString "Space.is_beyond") hda40_12 (FuncBody.stmts hdb40_12) hds40_12 0 [] Value.none Value.none Value.none Value.none none Value.none Value.none 0)) #[]) .nil .nil) .nil))
 (.node (Obj.mk (Value.type "super") none (Data.fields #[Value.ref 101, Value.ref 101, Value.ref 101]) #[])
 (.node (hdAt (nat_lit 102) (hd.heap_39 P))
 (.node (hdAt (nat_lit 189) (hd.heap_39 P)) .nil .nil) .nil)
 (.node (hdAt (nat_lit 148) (hd.heap_39 P))
 (.node (Obj.mk Value.none none (Data.fields #[]) #[]) .nil .nil) .nil)))
 (.node (hdAt (nat_lit 26) (hd.heap_39 P))
 (.node (hdAt (nat_lit 49) (hd.heap_39 P))
 (.node (hdAt (nat_lit 91) (hd.heap_39 P))
 (.node (hdAt (nat_lit 177) (hd.heap_39 P)) .nil .nil) .nil)
 (.node (Obj.mk Value.none none (Data.func (FuncData.mk (Str.ofString "packet_size") (Str.ofString "packet_size") hda34 (FuncBody.stmts hdb34) hds34 0 [] Value.none Value.none Value.none Value.none none Value.none Value.none 0)) #[])
 (.node (hdAt (nat_lit 223) (hd.heap_39 P)) .nil .nil) .nil))
 (.node (hdAt (nat_lit 68) (hd.heap_39 P))
 (.node (hdAt (nat_lit 114) (hd.heap_39 P))
 (.node (hdAt (nat_lit 200) (hd.heap_39 P)) .nil .nil) .nil)
 (.node (Obj.mk Value.none none (Data.fields #[]) #[])
 (.node (hdAt (nat_lit 247) (hd.heap_39 P)) .nil .nil) .nil)))))
 (.node (Obj.mk Value.none none (Data.fields #[Value.int 1 0, Value.int 0 0, Value.ref 20, Value.int 5 0, Value.int 0 0, Value.ref 27, Value.int 15 0, Value.int 0 0, Value.ref 34, Value.int 62 0, Value.int 0 0, Value.ref 111, Value.int 71 0, Value.int 0 0, Value.ref 132, Value.int 79 0, Value.int 0 0, Value.ref 139, Value.int 84 0, Value.int 0 0, Value.ref 146, Value.int 93 0, Value.int 0 0, Value.ref 154, Value.int 95 0, Value.int 0 0, Value.ref 161, Value.int 97 0, Value.int 0 0, Value.ref 168, Value.int 104 0, Value.int 0 0, Value.ref 175, Value.int 110 0, Value.int 0 0, Value.ref 182, Value.int 115 0, Value.int 0 0, Value.ref 189, Value.int 119 0, Value.int 0 0, Value.ref 196, Value.int 121 0, Value.int 0 0, Value.ref 203, Value.int 128 0, Value.int 0 0, Value.ref 210, Value.int 130 0, Value.int 0 0, Value.ref 217, Value.int 136 0, Value.int 0 0, Value.ref 224, Value.int 143 0, Value.int 0 0, Value.ref 231, Value.int 147 0, Value.int 0 0, Value.ref 238, Value.int 222 0, Value.int 0 0, Value.ref 385, Value.int 227 0, Value.int 0 0, Value.ref 392]) #[])
 (.node (hdAt (nat_lit 5) (hd.heap_39 P))
 (.node (hdAt (nat_lit 12) (hd.heap_39 P))
 (.node (Obj.mk Value.none none (Data.func (FuncData.mk (Str.ofString "on_reset") (Str.ofString "Closing.on_reset") hda9_4 (FuncBody.stmts hdb9_4) hds9_4 0 [] Value.none Value.none Value.none Value.none none Value.none Value.none 0)) #[])
 (.node (hdAt (nat_lit 76) (hd.heap_39 P))
 (.node (hdAt (nat_lit 163) (hd.heap_39 P)) .nil .nil)
 (.node (Obj.mk Value.none none (Data.fields #[]) #[]) .nil .nil))
 (.node (hdAt (nat_lit 122) (hd.heap_39 P))
 (.node (hdAt (nat_lit 209) (hd.heap_39 P)) .nil .nil) .nil))
 (.node (hdAt (nat_lit 58) (hd.heap_39 P))
 (.node (Obj.mk Value.none none (Data.fields #[]) #[])
 (.node (hdAt (nat_lit 186) (hd.heap_39 P)) .nil .nil) .nil)
 (.node (hdAt (nat_lit 145) (hd.heap_39 P))
 (.node (Obj.mk Value.none none (Data.func (FuncData.mk (Str.ofString "octets_out") (Str.ofString "Space.octets_out") hda40_16 (FuncBody.stmts hdb40_16) hds40_16 0 [] Value.none Value.none Value.none Value.none none Value.none Value.none 0)) #[]) .nil .nil) .nil)))
 (.node (hdAt (nat_lit 23) (hd.heap_39 P))
 (.node (hdAt (nat_lit 46) (hd.heap_39 P))
 (.node (hdAt (nat_lit 88) (hd.heap_39 P))
 (.node (Obj.mk Value.none none (Data.fields #[]) #[]) .nil .nil) .nil)
 (.node (hdAt (nat_lit 134) (hd.heap_39 P))
 (.node (hdAt (nat_lit 220) (hd.heap_39 P)) .nil .nil) .nil))
 (.node (hdAt (nat_lit 65) (hd.heap_39 P))
 (.node (hdAt (nat_lit 111) (hd.heap_39 P))
 (.node (hdAt (nat_lit 197) (hd.heap_39 P)) .nil .nil) .nil)
 (.node (Obj.mk Value.none none (Data.func (FuncData.mk (Str.ofString "__init__") (Str.ofString "Space.__init__") hda40_0 (FuncBody.stmts hdb40_0) hds40_0 0 [] Value.none Value.none Value.none Value.none none Value.none Value.none 0)) #[])
 (.node (hdAt (nat_lit 243) (hd.heap_39 P)) .nil .nil) .nil))))
 (.node (hdAt (nat_lit 11) (hd.heap_39 P))
 (.node (Obj.mk Value.none none (Data.fields #[]) #[])
 (.node (hdAt (nat_lit 40) (hd.heap_39 P))
 (.node (hdAt (nat_lit 82) (hd.heap_39 P))
 (.node (hdAt (nat_lit 169) (hd.heap_39 P)) .nil .nil) .nil)
 (.node (hdAt (nat_lit 128) (hd.heap_39 P))
 (.node (Obj.mk Value.none none (Data.fields #[]) #[]) .nil .nil) .nil))
 (.node (Obj.mk (Value.type "dict") none (Data.dict #[DictEntry.mk (PyData.keyHash P (Str.ofString "__module__")) (Value.str (Str.ofString "__module__") 324) (Value.str (Str.ofString "quic.errors") 313), DictEntry.mk (PyData.keyHash P (Str.ofString "__qualname__")) (Value.str (Str.ofString "__qualname__") 326) (Value.str (Str.ofString "QuicError") 325), DictEntry.mk (PyData.keyHash P (Str.ofString "__firstlineno__")) (Value.str (Str.ofString "__firstlineno__") 328) (Value.int 62 327), DictEntry.mk (PyData.keyHash P (Str.ofString "__init__")) (Value.str (Str.ofString "__init__") 338) (Value.ref 119), DictEntry.mk (PyData.keyHash P (Str.ofString "__static_attributes__")) (Value.str (Str.ofString "__static_attributes__") 342) (Value.ref 120)] 5) #[])
 (.node (hdAt (nat_lit 105) (hd.heap_39 P))
 (.node (Obj.mk Value.none none (Data.func (FuncData.mk (Str.ofString "take") (Str.ofString "Space.take") hda40_8 (FuncBody.stmts hdb40_8) hds40_8 0 [] Value.none Value.none Value.none Value.none none Value.none Value.none 0)) #[]) .nil .nil) .nil)
 (.node (Obj.mk (Value.type "tuple") none (Data.seq #[]) #[])
 (.node (hdAt (nat_lit 237) (hd.heap_39 P)) .nil .nil) .nil)))
 (.node (hdAt (nat_lit 29) (hd.heap_39 P))
 (.node (hdAt (nat_lit 52) (hd.heap_39 P))
 (.node (hdAt (nat_lit 94) (hd.heap_39 P))
 (.node (hdAt (nat_lit 180) (hd.heap_39 P)) .nil .nil) .nil)
 (.node (Obj.mk Value.none none (Data.fields #[]) #[])
 (.node (hdAt (nat_lit 226) (hd.heap_39 P)) .nil .nil) .nil))
 (.node (Obj.mk (Value.type "super") none (Data.fields #[Value.ref 122, Value.ref 122, Value.ref 122]) #[])
 (.node (Obj.mk Value.none none (Data.func (FuncData.mk (Str.ofString "padded_payload") (Str.ofString "padded_payload") hda29 (FuncBody.stmts hdb29) hds29 0 [] Value.none Value.none Value.none Value.none none Value.none Value.none 0)) #[])
 (.node (hdAt (nat_lit 203) (hd.heap_39 P)) .nil .nil) .nil)
 (.node (hdAt (nat_lit 157) (hd.heap_39 P))
 (.node (hdAt (nat_lit 249) (hd.heap_39 P)) .nil .nil) .nil))))))
 (.node (boot_o_6 P)
 (.node (boot_o_10 P)
 (.node (hdAt (nat_lit 4) (hd.heap_39 P))
 (.node (Obj.mk (Value.type "code") none (Data.fields #[Value.str (Str.ofString "Closing") 218, Value.str (Str.ofString "Closing") 219, Value.str (Str.ofString "/claim/cut.py") 220, Value.int 15 0, Value.int 0 0, Value.int 0 0, Value.int 0 0, Value.int 0 0, Value.ref 32, Value.bool false, Value.int 181 0, Value.ref 33, Value.none, Value.none, Value.none, Value.none, Value.int 221 0, Value.int 15 0, Value.str (Str.ofString "/claim/cut.py") 222]) #[])
 (.node (hdAt (nat_lit 33) (hd.heap_39 P))
 (.node (hdAt (nat_lit 75) (hd.heap_39 P))
 (.node (Obj.mk Value.none none (Data.func (FuncData.mk (Str.ofString "on_received") (Str.ofString "Space.on_received") hda40_2 (FuncBody.stmts hdb40_2) hds40_2 0 [] Value.none Value.none Value.none Value.none none Value.none Value.none 0)) #[]) .nil .nil)
 (.node (hdAt (nat_lit 253) (hd.heap_39 P)) .nil .nil))
 (.node (hdAt (nat_lit 121) (hd.heap_39 P))
 (.node (hdAt (nat_lit 207) (hd.heap_39 P)) .nil .nil) .nil))
 (.node (hdAt (nat_lit 56) (hd.heap_39 P))
 (.node (hdAt (nat_lit 98) (hd.heap_39 P))
 (.node (Obj.mk Value.none none (Data.fields #[]) #[]) .nil .nil) .nil)
 (.node (hdAt (nat_lit 144) (hd.heap_39 P))
 (.node (hdAt (nat_lit 230) (hd.heap_39 P)) .nil .nil) .nil)))
 (.node (hdAt (nat_lit 22) (hd.heap_39 P))
 (.node (Obj.mk Value.none none (Data.func (FuncData.mk (Str.ofString "on_time") (Str.ofString "Closing.on_time") hda9_6 (FuncBody.stmts hdb9_6) hds9_6 0 [] Value.none Value.none Value.none Value.none none Value.none Value.none 0)) #[])
 (.node (hdAt (nat_lit 86) (hd.heap_39 P))
 (.node (hdAt (nat_lit 173) (hd.heap_39 P)) .nil .nil) .nil)
 (.node (hdAt (nat_lit 132) (hd.heap_39 P))
 (.node (hdAt (nat_lit 219) (hd.heap_39 P)) .nil .nil) .nil))
 (.node (Obj.mk Value.none none (Data.fields #[]) #[])
 (.node (Obj.mk Value.none none (Data.fields #[]) #[])
 (.node (hdAt (nat_lit 196) (hd.heap_39 P)) .nil .nil) .nil)
 (.node (hdAt (nat_lit 150) (hd.heap_39 P))
 (.node (Obj.mk Value.none none (Data.func (FuncData.mk (Str.ofString "forget") (Str.ofString "Space.forget") hda40_18 (FuncBody.stmts hdb40_18) hds40_18 0 [] Value.none Value.none Value.none Value.none none Value.none Value.none 0)) #[]) .nil .nil) .nil))))
 (.node (Obj.mk Value.none none (Data.func (FuncData.mk (Str.ofString "take_reset") (Str.ofString "take_reset") hda2 (FuncBody.stmts hdb2) hds2 0 [] Value.none Value.none Value.none Value.none none Value.none Value.none 0)) #[])
 (.node (hdAt (nat_lit 16) (hd.heap_39 P))
 (.node (hdAt (nat_lit 39) (hd.heap_39 P))
 (.node (Obj.mk Value.none none (Data.func (FuncData.mk (Str.ofString "varint_size") (Str.ofString "varint_size") hda16 (FuncBody.stmts hdb16) hds16 0 [] Value.none Value.none Value.none Value.none none Value.none Value.none 0)) #[])
 (.node (hdAt (nat_lit 167) (hd.heap_39 P)) .nil .nil) .nil)
 (.node (Obj.mk Value.none none (Data.func (FuncData.mk (Str.ofString "head_of") (Str.ofString "head_of") hda32 (FuncBody.stmts hdb32) hds32 0 [] Value.none Value.none Value.none Value.none none Value.none Value.none 0)) #[])
 (.node (hdAt (nat_lit 213) (hd.heap_39 P)) .nil .nil) .nil))
 (.node (hdAt (nat_lit 62) (hd.heap_39 P))
 (.node (hdAt (nat_lit 104) (hd.heap_39 P))
 (.node (hdAt (nat_lit 190) (hd.heap_39 P)) .nil .nil) .nil)
 (.node (Obj.mk (Value.type "builtin_function_or_method") none (Data.fields #[Value.builtin "type.__prepare__", Value.type "type"]) #[])
 (.node (hdAt (nat_lit 236) (hd.heap_39 P)) .nil .nil) .nil)))
 (.node (Obj.mk Value.none none (Data.fields #[]) #[])
 (.node (hdAt (nat_lit 50) (hd.heap_39 P))
 (.node (hdAt (nat_lit 92) (hd.heap_39 P))
 (.node (hdAt (nat_lit 179) (hd.heap_39 P)) .nil .nil) .nil)
 (.node (hdAt (nat_lit 138) (hd.heap_39 P))
 (.node (Obj.mk Value.none none (Data.fields #[]) #[]) .nil .nil) .nil))
 (.node (hdAt (nat_lit 70) (hd.heap_39 P))
 (.node (hdAt (nat_lit 115) (hd.heap_39 P))
 (.node (Obj.mk Value.none none (Data.func (FuncData.mk (Str.ofString "note_acked") (Str.ofString "Space.note_acked") hda40_10 (FuncBody.stmts hdb40_10) hds40_10 0 [] Value.none Value.none Value.none Value.none none Value.none Value.none 0)) #[]) .nil .nil) .nil)
 (.node (hdAt (nat_lit 156) (hd.heap_39 P))
 (.node (Obj.mk (Value.type "super") none (Data.fields #[Value.ref 375, Value.ref 375, Value.ref 375]) #[]) .nil .nil) .nil)))))
 (.node (Obj.mk (Value.type "frame") none Data.plain #[some (Value.ref 13), some (Value.ref 3), some (Value.ref 3), none, some (Value.str (Str.ofString "__main__") 164), none, some (Value.ref 0)])
 (.node (hdAt (nat_lit 7) (hd.heap_39 P))
 (.node (hdAt (nat_lit 13) (hd.heap_39 P))
 (.node (hdAt (nat_lit 36) (hd.heap_39 P))
 (.node (hdAt (nat_lit 78) (hd.heap_39 P))
 (.node (Obj.mk Value.none none (Data.fields #[]) #[]) .nil .nil)
 (.node (hdAt (nat_lit 256) (hd.heap_39 P)) .nil .nil))
 (.node (hdAt (nat_lit 124) (hd.heap_39 P))
 (.node (hdAt (nat_lit 210) (hd.heap_39 P)) .nil .nil) .nil))
 (.node (hdAt (nat_lit 60) (hd.heap_39 P))
 (.node (hdAt (nat_lit 101) (hd.heap_39 P))
 (.node (hdAt (nat_lit 187) (hd.heap_39 P)) .nil .nil) .nil)
 (.node (Obj.mk Value.none none (Data.func (FuncData.mk (Str.ofString "head_octets") (Str.ofString "head_octets") hda38 (FuncBody.stmts hdb38) hds38 0 [] Value.none Value.none Value.none Value.none none Value.none Value.none 0)) #[])
 (.node (hdAt (nat_lit 233) (hd.heap_39 P)) .nil .nil) .nil)))
 (.node (Obj.mk Value.none none (Data.func (FuncData.mk (Str.ofString "close_now") (Str.ofString "Closing.close_now") hda9_2 (FuncBody.stmts hdb9_2) hds9_2 0 [] Value.none Value.none Value.none Value.none none Value.none Value.none 0)) #[])
 (.node (Obj.mk Value.none none (Data.fields #[]) #[])
 (.node (Obj.mk Value.none none (Data.fields #[]) #[])
 (.node (hdAt (nat_lit 176) (hd.heap_39 P)) .nil .nil) .nil)
 (.node (hdAt (nat_lit 135) (hd.heap_39 P))
 (.node (Obj.mk Value.none none (Data.func (FuncData.mk (Str.ofString "eliciting_left") (Str.ofString "Space.eliciting_left") hda40_14 (FuncBody.stmts hdb40_14) hds40_14 0 [] Value.none Value.none Value.none Value.none none Value.none Value.none 0)) #[]) .nil .nil) .nil))
 (.node (hdAt (nat_lit 66) (hd.heap_39 P))
 (.node (hdAt (nat_lit 112) (hd.heap_39 P))
 (.node (hdAt (nat_lit 199) (hd.heap_39 P)) .nil .nil) .nil)
 (.node (hdAt (nat_lit 153) (hd.heap_39 P))
 (.node (hdAt (nat_lit 245) (hd.heap_39 P)) .nil .nil) .nil))))
 (.node (Obj.mk (Value.type "builtin_function_or_method") none (Data.fields #[Value.builtin "type.__prepare__", Value.type "type"]) #[])
 (.node (hdAt (nat_lit 19) (hd.heap_39 P))
 (.node (hdAt (nat_lit 42) (hd.heap_39 P))
 (.node (Obj.mk Value.none none (Data.fields #[]) #[])
 (.node (hdAt (nat_lit 170) (hd.heap_39 P)) .nil .nil) .nil)
 (.node (Obj.mk Value.none none (Data.fields #[]) #[])
 (.node (hdAt (nat_lit 216) (hd.heap_39 P)) .nil .nil) .nil))
 (.node (Obj.mk Value.none none (Data.fields #[Value.int 64 0, Value.int 4 0, Value.ref 118]) #[])
 (.node (Obj.mk Value.none none (Data.func (FuncData.mk (Str.ofString "number_size") (Str.ofString "number_size") hda25 (FuncBody.stmts hdb25) hds25 0 [] Value.none Value.none Value.none Value.none none Value.none Value.none 0)) #[])
 (.node (hdAt (nat_lit 193) (hd.heap_39 P)) .nil .nil) .nil)
 (.node (Obj.mk (Value.type "code") none (Data.fields #[Value.str (Str.ofString "Space") 529, Value.str (Str.ofString "Space") 530, Value.str (Str.ofString "/claim/cut.py") 531, Value.int 147 0, Value.int 0 0, Value.int 0 0, Value.int 0 0, Value.int 0 0, Value.ref 236, Value.bool false, Value.int 181 0, Value.ref 237, Value.none, Value.none, Value.none, Value.none, Value.int 532 0, Value.int 147 0, Value.str (Str.ofString "/claim/cut.py") 533]) #[])
 (.node (hdAt (nat_lit 239) (hd.heap_39 P)) .nil .nil) .nil)))
 (.node (hdAt (nat_lit 30) (hd.heap_39 P))
 (.node (hdAt (nat_lit 53) (hd.heap_39 P))
 (.node (hdAt (nat_lit 95) (hd.heap_39 P))
 (.node (Obj.mk Value.none none (Data.func (FuncData.mk (Str.ofString "take_number") (Str.ofString "Space.take_number") hda40_6 (FuncBody.stmts hdb40_6) hds40_6 0 [] Value.none Value.none Value.none Value.none none Value.none Value.none 0)) #[]) .nil .nil) .nil)
 (.node (hdAt (nat_lit 141) (hd.heap_39 P))
 (.node (hdAt (nat_lit 227) (hd.heap_39 P)) .nil .nil) .nil))
 (.node (hdAt (nat_lit 72) (hd.heap_39 P))
 (.node (hdAt (nat_lit 118) (hd.heap_39 P))
 (.node (Obj.mk Value.none none (Data.fields #[]) #[]) .nil .nil) .nil)
 (.node (hdAt (nat_lit 159) (hd.heap_39 P))
 (.node (hdAt (nat_lit 250) (hd.heap_39 P)) .nil .nil) .nil)))))))
noncomputable abbrev hd.view_39 : Program := { hdPw with main := { hdPw.main with body := [0, 2, 4, 5, 6, 7, 8, 9, 11, 12, 14, 15, 16, 17, 19, 20, 21, 22, 24, 25, 26, 28, 29, 31, 32, 33, 34, 36, 37, 38, 40, 42, 43].filterMap fun i => hdPw.main.body[i]? } }
noncomputable abbrev hd.env : Env := { scope := hdPw.main.scope, locals := mainNs, globals := mainNs, cells := [], code := .ref 13, frame := some 14 }
noncomputable abbrev hd.pos : Pos := ⟨0, 0, 0, 0⟩
noncomputable abbrev hd.posE : Pos := ⟨227, 0, 247, 50⟩
noncomputable abbrev hd.cE : Code := .body (behindTheImports hdPw) hd.env
noncomputable abbrev hd.B : List Frame := [topFrame hd.pos]
/-- the boot's objects and the four that the first lines of the opening make, as a tree -/
noncomputable abbrev hd.T0 : Params → BT := fun P =>
  .node (boot_o_0 P)
    (.node (boot_o_1 P)
      (.node (boot_o_3 P) (.node (boot_o_7 P) .nil .nil) (.node (Obj.mk (Value.type "tuple") none (Data.seq #[]) #[]) .nil .nil))
      (.node (boot_o_5 P) (.node (boot_o_9 P) .nil .nil) (.node (Obj.mk (Value.type "code") none (Data.fields #[Value.str (Str.ofString "<module>") 182, Value.str (Str.ofString "<module>") 183, Value.str (Str.ofString "/claim/cut.py") 184, Value.int 1 0, Value.int 0 0, Value.int 0 0, Value.int 0 0, Value.int 0 0, Value.ref 11, Value.bool false, Value.int 181 0, Value.ref 12, Value.none, Value.none, Value.none, Value.none, Value.int 185 0, Value.int 1 0, Value.str (Str.ofString "/claim/cut.py") 186]) #[]) .nil .nil)))
    (.node (boot_o_2 P)
      (.node (boot_o_4 P) (.node (boot_o_8 P) .nil .nil) (.node (Obj.mk Value.none none (Data.fields #[]) #[]) .nil .nil))
      (.node (boot_o_6 P) (.node (boot_o_10 P) .nil .nil) (.node (Obj.mk (Value.type "frame") none Data.plain #[some (Value.ref 13), some (Value.ref 3), some (Value.ref 3), none, some (Value.str (Str.ofString "__main__") 164), none, some (Value.ref 0)]) .nil .nil)))
noncomputable abbrev hd.S0 (w : World) (os : OsState) : SharedT := ⟨hd.T0 w.params, 15, {}, #[], {}, 187, os⟩
noncomputable abbrev hd.loose : List Str := [Str.ofString "LONG_KINDS"]
theorem hd.keys : ∀ P, hd.as = (hd.heap_39 P).map (·.1) := fun _ => by kernel_rfl
noncomputable abbrev hd.hook : Hook := kmHook hd.heap_39 hd.as hd.keys [388]
noncomputable abbrev hd.Xt : Shared → Bool := fun s => xlAt hd.view_39 [] s && recOk (RowW.records PySem.Challenge.rw_pf0271_01.row.toRowW) s
/-- where the top's run is known by what is seen behind it, without its heap written out -/
theorem left_of_seen {p q : Program} {loose : List Str} {Xt : Shared → Bool} {α : Type} {Yf : Shared → α} {Ya : World → α} {N : Nat} {g0 : Bool} {H₀ : Params → Heap} {d₀ : Drawn} {k₀ m₀ M : Nat} {ann : Option Value}
    (opens : ∀ w : World, (fencedOpening treeTable p w N).map (fun s => (s.heap, s.gens, s.drawn, s.toks)) = some (H₀ w.params, #[], d₀, k₀))
    (size : ∀ w : World, ((H₀ w.params).isNs mainGlobals, (H₀ w.params).objs.size, (H₀ w.params).nsMap mainGlobals "__annotations__") = (true, m₀, ann))
    (run : ∀ (w : World) (os : OsState), ∃ s₁, topRun treeTable p w m₀ ann M ⟨H₀ w.params, #[], d₀, k₀, os⟩ (topStub p) = some s₁ ∧
      (staticsOk (importedModules p.main.body) (H₀ w.params) s₁.heap && namesBound p s₁.heap && gensDone s₁ && laidKept (H₀ w.params) s₁.heap, openSeen q loose (importedModules p.main.body) Xt g0 s₁, Yf s₁) = (true, openGood q loose, Ya w))
    (le : M ≤ N) : LeftO p q loose Xt Yf Ya N g0 := fun w => by
  obtain ⟨s, e, e'⟩ := Option.map_eq_some_iff.mp (opens w)
  obtain ⟨h, gs, d, k, os⟩ := s
  simp only [Prod.mk.injEq] at e'
  obtain ⟨rfl, rfl, rfl, rfl⟩ := e'
  have z := size w
  simp only [Prod.mk.injEq] at z
  obtain ⟨s₁, r, l⟩ := run w os
  simp only [Prod.mk.injEq] at l
  have r' := topRun_mono (N - M) _ _ _ _ r
  rw [Nat.add_sub_cancel' le] at r'
  show Option.map _ ((fencedOpening treeTable p w N).bind (topFrom treeTable p w N)) = _
  rw [e, Option.bind_some]
  have t : topFrom treeTable p w N ⟨H₀ w.params, #[], d, k, os⟩ = some s₁ := by
    unfold topFrom
    rw [show ((⟨H₀ w.params, #[], d, k, os⟩ : Shared).heap.isNs mainGlobals && (⟨H₀ w.params, #[], d, k, os⟩ : Shared).gens.size == 0) = true from by rw [show (⟨H₀ w.params, #[], d, k, os⟩ : Shared).heap.isNs mainGlobals = true from z.1]; rfl]
    show (topRun treeTable p w (H₀ w.params).objs.size ((H₀ w.params).nsMap mainGlobals "__annotations__") N _ _).bind _ = _
    rw [z.2.1, z.2.2, r', Option.bind_some]
    show (match staticsOk (importedModules p.main.body) (H₀ w.params) s₁.heap && namesBound p s₁.heap && gensDone s₁ && laidKept (H₀ w.params) s₁.heap with | true => some s₁ | false => none) = _
    rw [l.1]
  rw [t, Option.map_some, l.2.1, l.2.2]
set_option maxHeartbeats 8000000 in
theorem hd.pre (w : World) (os : OsState) : topGo treeTable hdPw w 11 (some (.ref 6)) 12 ⟨boot_heap w.params, #[], boot_drawn, boot_toks, os⟩ (topStub hdPw) =
    some (SharedT.abs (hd.S0 w os), ⟨denote treeTable hd.cE, hd.cE, hd.pos, hd.B⟩) := by
  rw [PySem.W.Fast.te15667345088766844465, PySem.W.Fast.te14364793385576792824, PySem.W.Fast.te11892475500146522536]
  kernel_rfl
theorem hd.block (w : World) (os : OsState) : segRun treeTable hdPw w 11 (some (.ref 6)) 1 1 (SharedT.abs (hd.S0 w os)) (blockOf (behindTheImports hdPw) hd.env hd.cE hd.pos hd.B) = some (.next, SharedT.abs (hd.S0 w os), hd.cE, hd.pos) := by
  kernel_rfl
noncomputable abbrev hd.S1 (w : World) (os : OsState) : SharedT := ⟨hd.T1 w.params, 233, {}, #[], {}, 527, os⟩
noncomputable abbrev hd.S2 (w : World) (os : OsState) : SharedT := ⟨hd.T2 w.params, 394, {}, #[], {}, 744, os⟩
noncomputable abbrev hd.posM : Pos := ⟨146, 0, 146, 8⟩
set_option maxHeartbeats 8000000 in
theorem hd.run1 (w : World) (os : OsState) :
    segRunT treeTable hdPw w 11 (some (.ref 6)) 1 1500 (hd.S0 w os) (piecesOf ((behindTheImports hdPw).take 40) hd.env hd.cE hd.pos hd.B) = some (.next, hd.S1 w os, hd.cE, hd.posM) := by
  rw [PySem.W.Fast.te10110043849684766642, PySem.W.Fast.te14364793385576792824]
  kernel_rfl
set_option maxHeartbeats 8000000 in
theorem hd.run2 (w : World) (os : OsState) :
    segRunT treeTable hdPw w 11 (some (.ref 6)) 1 1500 (hd.S1 w os) (piecesOf ((behindTheImports hdPw).drop 40) hd.env hd.cE hd.posM hd.B) = some (.next, hd.S2 w os, hd.cE, hd.posE) := by
  rw [PySem.W.Fast.te10110043849684766642, PySem.W.Fast.te14364793385576792824]
  kernel_rfl
set_option maxHeartbeats 8000000 in
theorem hd.stat (w : World) (os : OsState) :
    (staticsOk (importedModules hdPw.main.body) (boot_heap w.params) (hd.S2 w os).abs.heap && namesBound hdPw (hd.S2 w os).abs.heap && gensDone (hd.S2 w os).abs && laidKept (boot_heap w.params) (hd.S2 w os).abs.heap) = true := by
  rw [PySem.W.Fast.te5923862056798008813]
  kernel_rfl
set_option maxHeartbeats 8000000 in
theorem hd.seen (w : World) (os : OsState) : openSeen hd.view_39 hd.loose (importedModules hdPw.main.body) hd.Xt true (hd.S2 w os).abs = openGood hd.view_39 hd.loose := by
  rw [PySem.W.Fast.te4187177175401517315, PySem.W.Fast.te5923862056798008813]
  kernel_rfl
set_option maxHeartbeats 8000000 in
theorem hd.obs (w : World) (os : OsState) : hd.hook.obs (hd.S2 w os).abs = hd.hook.val w := by
  kernel_rfl
theorem hd.left : LeftO hdPw hd.view_39 hd.loose hd.Xt hd.hook.obs hd.hook.val 4000 true :=
  left_of_seen (H₀ := boot_heap) (d₀ := boot_drawn) (k₀ := boot_toks) (m₀ := 11) (ann := some (.ref 6)) (M := 12 + (1 + (1500 + (1500 + 2))))
    (boot_open (by kernel_rfl) (by decide) (fun s => by kernel_rfl)) (fun w => by kernel_rfl)
    (fun w os => by
      refine ⟨(hd.S2 w os).abs, go_top (hd.pre w os) (piece_block (hd.block w os) ?_), Prod.ext (hd.stat w os) (Prod.ext (hd.seen w os) (hd.obs w os))⟩
      have k := piece_app (N := 1500 + 2) (r := (hd.S2 w os).abs) (segRun_of (hd.run1 w os)) (piece_app (rest := []) (N := 2) (r := (hd.S2 w os).abs) (segRun_of (hd.run2 w os)) (piece_nil ?_))
      · rw [List.append_nil, List.take_append_drop] at k; exact k
      · exact rfl)
    (by decide)
noncomputable abbrev hd.law : DefRec := hdSame _ (rfl : (defOf hd.view_39 (Str.ofString "law")).map (·.1) = some _)
theorem hd.said : OpenLaw.wellSaid PySem.Challenge.rw_pf0271_01 = true := by
  rw [PySem.W.Fast.te9446332074065402090]
  kernel_rfl
theorem hd.looks : (chainsOk hd.view_39 && opensWell hdPw && (frees PySem.Challenge.rw_pf0271_01.row.toRowW && PySem.Challenge.rw_pf0271_01.row.within.isEmpty)) = true := by kernel_rfl
set_option maxHeartbeats 8000000 in
theorem hd (call : WalkP hd.view_39 hd.loose (XL hd.view_39 []) (kmHook hd.heap_39 hd.as hd.keys [388]).says PySem.Challenge.rw_pf0271_01.row.toRowW hd.law []) : PySem.Challenge.rw_pf0271_01.Holds :=
  holds_law hd.said fun said =>
    PySem.W.holds_open (Xt := hd.Xt) hd.left hd.hook.of hd.hook.keeps (fun s e => xl_of s (Bool.and_eq_true_iff.mp e).1) XL.keeps (by rfl) (by rfl) (by rfl)
      (fun s e => recFacts_of (Bool.and_eq_true_iff.mp e).2) (by rfl) said hd.looks ⟨rfl, rfl, rfl, rfl, rfl, by decide +kernel⟩ (by w_witness2) call
end Mine
end
-- part S0
theorem Mine.anew_S0 : True ∧ True := by
  w_top off
  first | (walk1; all_goals trivial) | exact ⟨trivial, trivial⟩
section
namespace Mine
/-- a word of the answer, left to be shown by hand -/
def Say (p : Prop) : Prop := p
theorem Say.of {p : Prop} (h : p) : Say p := h
theorem EndS.say {g h : Heap} {L' : Addr} {keep news' : List (Addr × Obj)} {P : Value → Prop} {s₀ : Shared} {v : Value} {m' : Str → Option Value} {tk : Nat}
    (F : Fr g L' h m') (N : News g L' h news') (S : ∀ p ∈ keep, p ∈ news') (hP : Say (P v)) : EndS g L' keep P s₀ v { s₀ with heap := h, toks := tk } := EndS.intro F N S hP
theorem int_ex {x y : Int} {t : Tok} (h : x = y) : ∃ u, Value.int x t = Value.int y u := ⟨t, by rw [h]⟩
def nsOf (a : Int) : Int := if 2 * a ≤ 256 then 1 else if 2 * a ≤ 65536 then 2 else if 2 * a ≤ 16777216 then 3 else 4
def vsOf (n : Int) : Int := if n < 64 then 1 else if n < 16384 then 2 else 4
theorem nsOf_cases (a : Int) : nsOf a = 1 ∨ nsOf a = 2 ∨ nsOf a = 3 ∨ nsOf a = 4 := by unfold nsOf; (repeat' split) <;> simp
theorem vsOf_cases (a : Int) : vsOf a = 1 ∨ vsOf a = 2 ∨ vsOf a = 4 := by unfold vsOf; (repeat' split) <;> simp
theorem nsOf_bounds (a : Int) : 1 ≤ nsOf a ∧ nsOf a ≤ 4 := by unfold nsOf; (repeat' split) <;> omega
theorem vsOf_bounds (a : Int) : 1 ≤ vsOf a ∧ vsOf a ≤ 4 := by unfold vsOf; (repeat' split) <;> omega
/-- bytes of a size -/
def BytesOf (k : Int) (v : Value) : Prop := ∃ (arr : Array UInt8) (t : Tok), v = .bytes arr t ∧ (arr.size : Int) = k
def IntOf (k : Int) (v : Value) : Prop := ∃ t : Tok, v = .int k t
end Mine
end
-- part Q0
theorem Mine.anew_Q0 : True ∧ True := by
  w_top off
  first | (walk1; all_goals trivial) | exact ⟨trivial, trivial⟩
section
namespace Mine
/-- the defs on the way to bytearray -/
def badNames : List Str := [Str.ofString "bytearray", Str.ofString "put_whole", Str.ofString "put_varint", Str.ofString "cut_number", Str.ofString "long_head", Str.ofString "head_of", Str.ofString "packet_size", Str.ofString "head_octets"]
def badFn : PySem.Expr → Bool
  | .Name x _ => badNames.contains x
  | _ => false
noncomputable def touches : Nat → PySem.Expr → Bool
  | 0, _ => false
  | n + 1, .Call f args _ _ => badFn f || args.any (touches n)
  | n + 1, .BinOp l _ r _ => touches n l || touches n r
  | n + 1, .UnaryOp _ x _ => touches n x
  | n + 1, .Compare l _ rs _ => touches n l || rs.any (touches n)
  | _, _ => false
section
variable {M : Model} {A : Around} {E : Value → Shared → Prop} {s : Shared} {env : Env}
theorem wpP_Assign_T {x : Str} {pos' : Pos} {value : PySem.Expr} {pos : Pos} {Q : Flow → Shared → Prop} (_ : touches 9 value = true)
    (hs : swapsWith value (some (.Name x pos')) pos.line env = pure false)
    (h : wpP M A (eval value env) (fun v s₁ => wpAny M A (storeName env x v) (fun _ => Q .next) E s₁) E s) : wpP M A (exec (.Assign [.Name x pos'] value pos) env) Q E s := wpP_Assign_Name h hs
theorem wpP_Return_T {e : PySem.Expr} {pos : Pos} {Q : Flow → Shared → Prop} (_ : touches 9 e = true) (h : wpP M A (eval e env) (fun v => Q (.ret v)) E s) : wpP M A (exec (.Return (some e) pos) env) Q E s := wpP_Return h
theorem wpP_BinOp_T {l : PySem.Expr} {op : Operator} {r : PySem.Expr} {pos : Pos} {Q : Value → Shared → Prop} (_ : touches 9 (.BinOp l op r pos) = true)
    (h : wpP M A (eval l env) (fun a s₁ => wpP M A (eval r env) (fun b s₂ => wpAny M A (binaryOp op a b) Q E s₂) E s₁) E s) : wpP M A (eval (.BinOp l op r pos) env) Q E s := wpP_BinOp h
theorem wpP_Call_T {func : PySem.Expr} {args : List PySem.Expr} {pos : Pos} {Q : Value → Shared → Prop} (_ : touches 9 (.Call func args [] pos) = true)
    (he : eval (.Call func args [] pos) env = (do callWith pos (← eval func env) [] (backTo pos (starEach args env)) (backToKw pos (keywordEach [] env))))
    (h : wpAny M A (eval func env) (fun f s₁ => wpP M A (callWith pos f [] (backTo pos (starEach args env)) []) Q E s₁) E s) :
    wpP M A (eval (.Call func args [] pos) env) Q E s := wpP_Call h he
theorem wpP_IfB_T {test value : PySem.Expr} {x : Str} {p1 p2 pos : Pos} {Q : Flow → Shared → Prop} (_ : touches 9 value = true)
    (h : wpAny M A (isTrue test env (eval test env)) (fun b s₂ => if b then wpP M A (execs [.Assign [.Name x p1] value p2] env) Q E s₂ else wpP M A (execs [] env) Q E s₂) E s) :
    wpP M A (exec (.If test [.Assign [.Name x p1] value p2] [] pos) env) Q E s := wpP_If (wpP_any h)
theorem argsP_T {e : PySem.Expr} {rest : List PySem.Expr} {pos : Pos} {Q : List Value → Shared → Prop} (_ : touches 9 e = true)
    (he : starEach (e :: rest) env = (false, eval e env) :: starEach rest env)
    (h : wpP M A (eval e env) (fun v s₁ => wpP M A (spliced (backTo pos (starEach rest env))) (fun vs s₂ => Q (v :: vs) s₂) E s₁) E s) : wpP M A (spliced (backTo pos (starEach (e :: rest) env))) Q E s := argsP_cons h he
end
section
variable {M : Model} {A : Around} {E : Value → Shared → Prop} {s : Shared} {K : Frag} {env : Env} {pos : Pos} {f : Value} {Q : Value → Shared → Prop}
theorem callWithP_K0 {e : PySem.Expr} {rest : List PySem.Expr} (hk : keepIn K f = true)
    (he : starEach (e :: rest) env = (false, eval e env) :: starEach rest env) (hplain : (backTo pos (starEach rest env)).any (·.1) = false)
    (h : wpP M A (spliced (backTo pos (starEach (e :: rest) env))) (fun vs s₁ => K.In s₁.heap ∧ wpP M A (call f vs) Q E s₁) E s) :
    wpP M A (callWith pos f [] (backTo pos (starEach (e :: rest) env)) []) Q E s := callWithP_K (first := []) hk h he hplain
theorem callWithP_B0 {e : PySem.Expr} {rest : List PySem.Expr} (hk : keeperOf f = pure Keeper.machine)
    (he : starEach (e :: rest) env = (false, eval e env) :: starEach rest env) (hplain : (backTo pos (starEach rest env)).any (·.1) = false)
    (h : wpP M A (spliced (backTo pos (starEach (e :: rest) env))) (fun vs s₁ => wpP M A (call f vs) Q E s₁) E s) :
    wpP M A (callWith pos f [] (backTo pos (starEach (e :: rest) env)) []) Q E s := callWithP_B (first := []) hk h he hplain
end
section
variable {prog : Program} {w : World} {E : Value → Shared → Prop} {s : Shared} {h₀ base : Heap} {L : Addr} {m mg mb : Str → Option Value} {news sub : List (Addr × Obj)} {K : Params → Frag} {f : Addr} {vs : List Value} {c : Nat} {P : Value → Prop} {Q : Value → Shared → Prop}
  {p : Program} {loose : List Str} {mean : ExcName → Option Value} {dp un : Nat} {gd : Option (List Code)} {cn : Str} {cs : Scope} {a : Addr} {ccd : Value} {cl : List (Str × Addr)} {outer : List Env} {A₀ : Around}
theorem SpecP.use (h : SpecP prog K f vs sub c P) (B : Below A₀ base outer h₀) (F : Fr h₀ L s.heap m) (X : (K w.params).In h₀) (N : News h₀ L s.heap news) (S : ∀ p ∈ sub, p ∈ news) (T : Top p loose mean mg mb h₀) (hk : cs.kind = .function)
    (hd : dp + c < recursionLimit) (hu : un + 8 * c < cLine)
    (ret : ∀ v h' tk', Fr h₀ L h' m → News h₀ L h' news → P v → Q v { s with heap := h', toks := tk' }) : wpP (model prog w) (ktrTop dp un gd cn cs L a ccd cl outer) (call (.ref f) vs) Q E s :=
  h w p loose mean mg mb dp un gd cn cs a ccd cl outer A₀ base h₀ L m s Q E B F X (fun p hp => N p (S p hp)) T hk hd hu
    fun v h' tk' kp hv => ret v h' tk' (F.keeps kp) (fun q hq => ⟨kp _ _ (N q hq).1, (N q hq).2⟩) hv
theorem SpecA.use (h : SpecA prog K f vs sub c P) (B : Below A₀ base outer h₀) (F : Fr h₀ L s.heap m) (X : (K w.params).In h₀) (N : News h₀ L s.heap news) (S : ∀ p ∈ sub, p ∈ news) (T : Top p loose mean mg mb h₀) (hk : cs.kind = .function)
    (hd : dp + c < recursionLimit) (hu : un + 8 * c < cLine)
    (ret : ∀ v h' tk', Fr h₀ L h' m → News h₀ L h' news → P v → Q v { s with heap := h', toks := tk' }) : wpAny (model prog w) (ktrTop dp un gd cn cs L a ccd cl outer) (call (.ref f) vs) Q E s :=
  h w p loose mean mg mb dp un gd cn cs a ccd cl outer A₀ base h₀ L m s Q E B F X (fun p hp => N p (S p hp)) T hk hd hu
    fun v h' tk' kp hv => ret v h' tk' (F.keeps kp) (fun q hq => ⟨kp _ _ (N q hq).1, (N q hq).2⟩) hv
end
end Mine
end
-- part Q1
theorem Mine.anew_Q1 : True ∧ True := by
  w_top off
  first | (walk1; all_goals trivial) | exact ⟨trivial, trivial⟩
section
namespace Mine
section
variable {prog : Program} {w : World} {A : Around} {E : Value → Shared → Prop} {s : Shared} {h₀ : Heap} {L D : Addr} {m : Str → Option Value} {K : Frag}
theorem add_bytesO {b c : Array UInt8} {t u : Tok} {Q : Value → Shared → Prop} (hb : b.size ≤ 1000000) (hc : c.size ≤ 1000000)
    (h : ∀ (d : Array UInt8) (v : Tok) (k : Nat), d.size = b.size + c.size → Q (.bytes d v) { s with toks := k }) : wpAny (model prog w) A (binaryOp .Add (.bytes b t) (.bytes c u)) Q E s :=
  KBy.add_bytes (by omega) fun v k => h _ v k Array.size_append
theorem bytesN_O {n : Int} {t : Tok} {Q : Value → Shared → Prop} (h0 : 0 ≤ n) (hn : n ≤ 1048576)
    (h : ∀ (d : Array UInt8) (v : Tok) (k : Nat), (d.size : Int) = n → Q (.bytes d v) { s with toks := k }) : wpAny (model prog w) A (call (.type "bytes") [.int n t]) Q E s :=
  call_bytesN h0 hn (h _ _ _ (by rw [Array.size_replicate]; omega))
theorem callWithP_K1 {env : Env} {pos : Pos} {f : Value} {Q : Value → Shared → Prop} {e : PySem.Expr} {rest : List PySem.Expr} {M : Model} (_ : K.In h₀) (hk : keepIn K f = true)
    (he : starEach (e :: rest) env = (false, eval e env) :: starEach rest env) (hplain : (backTo pos (starEach rest env)).any (·.1) = false)
    (h : wpP M A (spliced (backTo pos (starEach (e :: rest) env))) (fun vs s₁ => K.In s₁.heap ∧ wpP M A (call f vs) Q E s₁) E s) :
    wpP M A (callWith pos f [] (backTo pos (starEach (e :: rest) env)) []) Q E s := callWithP_K (first := []) hk h he hplain
/-- list.index of a str upon a list of the text's own -/
theorem k_method {T : String} {name : Str} {id : String} {o : Obj} {pl : Sem Bool} {Q : Value × List Value → Shared → Prop} (F : Fr h₀ L s.heap m) (X : K.In h₀) (hl : K.lookup D = some o) (hc : o.cls = .type T) (hd : o.dict = none) (pT : PlainAttrs T) (slot : Slot T name id) (hty : typeOf (.builtin id) = pure (.type "method_descriptor"))
    (h : Q (.builtin id, [.ref D]) s) : wpAny (model prog w) A (getMethod (.ref D) name pl) Q E s :=
  getMethod_builtin ⟨_, (X.keeps F.keep) _ _ hl, hc⟩ pT slot hty (fun a e => by cases e; exact ⟨_, (X.keeps F.keep) _ _ hl, hd⟩) h
theorem k_index {vs : List Value} {ys : List Str} {n : Nat} {x : Str} {t : Tok} {j : Nat} {Q : Value → Shared → Prop} (F : Fr h₀ L s.heap m) (X : K.In h₀) (hl : K.lookup D = some { cls := .type "list", dict := none, data := .seq vs.toArray n, slots := #[] })
    (hi : StrsAre vs ys) (hj : j < vs.length) (hz : vs.length ≤ 1000) (hit : isStrOf x (vs.toArray[j]'(by simpa using hj)) = true) (hno : ∀ i (hi : i < vs.toArray.size), i < j → isStrOf x vs.toArray[i] = false)
    (h : Q (.int (j : Int) s.toks) { s with toks := s.toks + 1 }) : wpAny (model prog w) A (call (.builtin "list.index") [.ref D, .str x t]) Q E s := by
  refine call_meets PySem.F.slot_list_index ⟨_, (X.keeps F.keep) _ _ hl, rfl⟩ PySem.F.entry_list_index (PySem.F.args_list_index_2 _ _)
    (MeetsSeq.list_index D vs.toArray n (.str x t) (isStrOf x) (fun y hy => eq_isStrOf x t hi y (by simpa using hy)) j (by simpa using hj) (by omega) hit hno) ⟨(X.keeps F.keep) _ _ hl, h⟩
end
theorem eq_step {prog : Program} {w : World} {A : Around} {E : Value → Shared → Prop} {s : Shared} {α : Type} {x y : Value} {b : Bool} {f : Bool → Sem α} {Q : α → Shared → Prop} (he : MeetsSeq.EqGives y x b) (h : wpAny (model prog w) A (f b) Q E s) :
    wpAny (model prog w) A (eqBool y x >>= f) Q E s := wpAny_bind (he _ _ _ _ _ _ h)
theorem forIn_l {M : Model} {A : Around} {E : Value → Shared → Prop} {s : Shared} {α β : Type} {l rest : List α} {x : α} {b : β} {f : α → β → Sem (ForInStep β)} {Q : β → Shared → Prop} (e : l = x :: rest)
    (h : wpAny M A (f x b) (fun r s' => match r with | .done b => Q b s' | .yield b => wpAny M A (forIn rest b f) Q E s') E s) : wpAny M A (forIn l b f) Q E s := by
  subst e
  rw [List.forIn_cons]
  refine wpAny_bind (wpAny_mono h (fun r s' h' => ?_) fun _ _ x => x)
  cases r with
  | done b => exact wpAny_pure h'
  | yield b => exact h'
/-- tuple.index of an int upon four written ones -/
theorem tuple_index4 (l : Addr) (a b c d k : Int) (ta tb tc td tk' : Tok) (n : Nat) (j : Nat) (hj : (if (a == k) = true then some 0 else if (b == k) = true then some 1 else if (c == k) = true then some 2 else none) = some j) :
    Meets (Builtin.«tuple.index» ⟨[.ref l, .int k tk'], []⟩)
      (fun _ R s => s.heap.get? l = some { cls := .type "tuple", dict := none, data := .seq #[.int a ta, .int b tb, .int c tc, .int d td] n, slots := #[] } ∧ R (.ok (.ret (.int (j : Int) s.toks))) { s with toks := s.toks + 1 }) :=
  .of_wp fun prog w A R s h => by
    obtain ⟨hp, g, dd, tks, os⟩ := s; obtain ⟨hl, h⟩ := h
    unfold Builtin.«tuple.index»
    simp only [Std.Legacy.Range.forIn_eq_forIn_range', Std.Legacy.Range.size]
    refine wpAny_bind (wpAny_of_eq (a := (.ref l, [.int k tk'])) rfl ?_)
    dsimp only
    refine wpAny_bind (wpAny_mono (Q := fun xs s' => xs = #[.int a ta, .int b tb, .int c tc, .int d td] ∧ s' = ⟨hp, g, dd, tks, os⟩) (E := fun _ _ => False) (by wp_walk using wpAny_loadPart' hl; exact ⟨rfl, rfl⟩) ?_ fun _ _ x => x.elim)
    rintro _ _ ⟨rfl, rfl⟩
    refine wpAny_bind (wpAny_pure ?_)
    refine wpAny_bind (wpAny_pure ?_)
    refine wpAny_bind ?_
    rw [show (#[Value.int a ta, Value.int b tb, Value.int c tc, Value.int d td] : Array Value).size = 4 from rfl, show (min 4 4 - 0 + 1 - 1) / 1 = 4 from rfl]
    refine forIn_l rfl ?_
    refine eq_step (MeetsSeq.EqGives.int _ _ _ _) ?_
    cases ha : a == k with
    | true =>
      rw [ha, if_pos rfl] at hj
      cases hj
      wp_walk
      exact ⟨_, rfl, h⟩
    | false =>
      rw [ha, if_neg Bool.false_ne_true] at hj
      refine any_no Bool.false_ne_true (wpAny_pure ?_)
      refine forIn_l rfl ?_
      refine eq_step (MeetsSeq.EqGives.int _ _ _ _) ?_
      cases hb : b == k with
      | true =>
        rw [hb, if_pos rfl] at hj
        cases hj
        wp_walk
        exact ⟨_, rfl, h⟩
      | false =>
        rw [hb, if_neg Bool.false_ne_true] at hj
        refine any_no Bool.false_ne_true (wpAny_pure ?_)
        refine forIn_l rfl ?_
        refine eq_step (MeetsSeq.EqGives.int _ _ _ _) ?_
        cases hc : c == k with
        | true =>
          rw [hc, if_pos rfl] at hj
          cases hj
          wp_walk
          exact ⟨_, rfl, h⟩
        | false =>
          rw [hc, if_neg Bool.false_ne_true] at hj
          cases hj
section
variable {prog : Program} {w : World} {A : Around} {E : Value → Shared → Prop} {s : Shared} {h₀ : Heap} {L D : Addr} {m : Str → Option Value} {K : Frag}
theorem k_tupIndex {a b c d k i : Int} {ta tb tc td t : Tok} {n j : Nat} {Q : Value → Shared → Prop} (F : Fr h₀ L s.heap m) (X : K.In h₀) (hl : K.lookup D = some { cls := .type "tuple", dict := none, data := .seq #[.int a ta, .int b tb, .int c tc, .int d td] n, slots := #[] })
    (hj : (if (a == k) = true then some 0 else if (b == k) = true then some 1 else if (c == k) = true then some 2 else none) = some j) (e : (j : Int) = i)
    (h : Q (.int i s.toks) { s with toks := s.toks + 1 }) : wpAny (model prog w) A (call (.builtin "tuple.index") [.ref D, .int k t]) Q E s := by
  subst e
  exact call_meets PySem.F.slot_tuple_index ⟨_, (X.keeps F.keep) _ _ hl, rfl⟩ PySem.F.entry_tuple_index (PySem.F.args_tuple_index_2 _ _)
    (tuple_index4 D a b c d k ta tb tc td t n j hj) ⟨(X.keeps F.keep) _ _ hl, h⟩
theorem notin_tupK {vs : List Value} {ns : List Int} {n : Nat} {dd : Option Addr} {sl : Array (Option Value)} {k : Int} {t : Tok} {b : Bool} {Q : Value → Shared → Prop} (F : Fr h₀ L s.heap m) (X : K.In h₀) (hl : K.lookup D = some ⟨.type "tuple", dd, .seq vs.toArray n, sl⟩)
    (hi : IntsAre vs ns) (e : (!(ns.any (· == k))) = b) (h : Q (.bool b) s) : wpAny (model prog w) A (compareOp .NotIn (.int k t) (.ref D)) Q E s := by
  subst e
  exact notin_tuple_ints (tupK (X.keeps F.keep) hl) hi h
end
end Mine
end
-- part F0
theorem Mine.anew_F0 : True ∧ True := by
  w_top off
  first | (walk1; all_goals trivial) | exact ⟨trivial, trivial⟩
section
namespace Mine
section
variable {prog : Program} {w : World} {A : Around} {E : Value → Shared → Prop} {s : Shared} {env : Env}
theorem wpP_runOwn {c : Code} {Q : Flow → Shared → Prop} (ok : okCode c = true)
    (hc : codeP (model prog w) A c (fun r s' => match r with | .ok f => Q f s' | .error _ => False) s) : wpP (model prog w) A (runOwn c env) Q E s := by
  unfold runOwn
  exact wpP_onRaise (wpP_run ok (codeP_mono hc fun r s' h => by cases r <;> first | exact h | exact h.elim))
theorem codeP_for {R : Result → Shared → Prop} {target : PySem.Expr} {it : Value} {body orelse : List Stmt}
    (h : wpAny (model prog w) A (pyNext it) (fun r s₁ => match r with
      | none => wpAny (model prog w) A (execs orelse env) (fun f s₃ => R (.ok f) s₃) (fun _ _ => False) s₁
      | some v => wpAny (model prog w) A (assign target env v) (fun _ s₂ => wpP (model prog w) A (execs body env) (fun f s₃ => match f with
          | .next | .cont => codeP (model prog w) A (.forLoop target it body orelse env) R s₃
          | .brk => R (.ok .next) s₃
          | .ret v => R (.ok (.ret v)) s₃) (fun _ _ => False) s₂) (fun _ _ => False) s₁) (fun _ _ => False) s)
    (ht : ∀ v, letOwnedTupleGo target it v = pure () := by intro _; rfl) : codeP (model prog w) A (.forLoop target it body orelse env) R s := by
  refine codeP_of_tree ?_
  show wpP _ A ((forTurn target it body orelse env).onRaise (fun x => do noteFrame x env; theTreesLotGoes x)) _ _ s
  refine wpP_onRaise (wpP_mono (E := fun _ _ => False) ?_ (fun _ _ x => x) fun _ _ x => x.elim)
  simp only [forTurn]
  refine wpP_bind (wpP_standAt (wpP_bind ?_))
  refine wpP_any (wpAny_onRaise (wpAny_mono h (fun r s₁ h₁ => ?_) fun _ _ h' => h'.elim))
  cases r with
  | none => exact wpP_pure ⟨rfl, rfl, codeP_any (codeAny_block (wpAny_mono h₁ (fun _ _ x => x) fun _ _ x => x.elim))⟩
  | some v =>
    refine wpP_then (wpAny_of_eq (ht v) ?_)
    refine wpP_then (wpAny_mono h₁ (fun _ s₂ h₂ => wpP_bind (wpP_mono h₂ (fun f s₃ h₃ => ?_) fun _ _ h' => h')) fun _ _ h' => h')
    cases f with
    | next => exact wpP_pure ⟨rfl, rfl, h₃⟩
    | cont => exact wpP_pure ⟨rfl, rfl, h₃⟩
    | brk => exact wpP_pure h₃
    | ret v => exact wpP_pure h₃
theorem wpP_For {target iter : PySem.Expr} {body orelse : List Stmt} {pos : Pos} {Q : Flow → Shared → Prop}
    (h : wpAny (model prog w) A (eval iter env) (fun x s₁ => wpAny (model prog w) A (pyIter x) (fun it s₂ =>
      codeP (model prog w) A (.forLoop target it body orelse env) (fun r s' => match r with | .ok f => Q f s' | .error _ => False) s₂) E s₁) E s)
    (hs : ∀ x, foldedSetIterable iter env x = pure x := by intro _; rfl) :
    wpP (model prog w) A (exec (.For target iter body orelse pos) env) Q E s := by
  rw [exec_For]
  refine wpP_bind (wpP_standAt (wpP_then (wpAny_mono h (fun x s₁ h₁ => ?_) fun _ _ h' => h')))
  refine wpP_then (wpAny_of_eq (hs x) ?_)
  refine wpP_bind (wpP_standAt (wpP_then (wpAny_holding (wpAny_mono h₁ (fun it s₂ h₂ => ?_) fun _ _ h' => h'))))
  exact wpP_runOwn rfl h₂
end

/-- the frame's map in a loop: the turn's own name, one more name that the turn stores -/
def mOf (m : Str → Option Value) (x o : Str) (v : Value) (oo : Option Value) : Str → Option Value := fun y => if y = o then oo else if y = x then some v else m y
theorem mOf_first {m : Str → Option Value} {x o : Str} {v : Value} (hx : x ≠ o) (ho : m o = none) : (fun y => if y = x then some v else m y) = mOf m x o v none := by
  funext y
  unfold mOf
  by_cases h1 : y = o
  · rw [if_pos h1, h1, if_neg (Ne.symm hx), ho]
  · rw [if_neg h1]
theorem mOf_next {m : Str → Option Value} {x o : Str} {v v' : Value} {oo : Option Value} (hx : x ≠ o) : (fun y => if y = x then some v' else mOf m x o v oo y) = mOf m x o v' oo := by
  funext y
  unfold mOf
  by_cases h1 : y = o
  · rw [if_pos h1, if_pos h1, if_neg (fun e => hx (e.symm.trans h1))]
  · rw [if_neg h1, if_neg h1]
    by_cases h2 : y = x
    · rw [if_pos h2, if_pos h2]
    · rw [if_neg h2, if_neg h2, if_neg h2]
theorem mOf_store {m : Str → Option Value} {x o : Str} {v : Value} {oo : Option Value} {u : Value} : (fun y => if y = o then some u else mOf m x o v oo y) = mOf m x o v (some u) := by
  funext y
  unfold mOf
  by_cases h1 : y = o
  · rw [if_pos h1, if_pos h1]
  · rw [if_neg h1, if_neg h1, if_neg h1]

section
variable {prog : Program} {w : World} {A : Around} {E : Value → Shared → Prop} {name : Str} {scope : Scope} {L a : Addr} {cd : Value} {g : Heap} {m : Str → Option Value} {x o : Str} {news : List (Addr × Obj)} {body : List Stmt} {ta I : Addr} {items : List Value} {z : Nat}
/-- a turn of the loop: the frame, the ledger -/
def TurnP (prog : Program) (w : World) (A : Around) (env : Env) (body : List Stmt) (g : Heap) (L : Addr) (m : Str → Option Value) (x o : Str) (news : List (Addr × Obj)) (s₀ : Shared) (v : Value) : Prop :=
  ∀ h tk oo, Fr g L h (mOf m x o v oo) → News g L h news →
    wpP (model prog w) A (execs body env) (fun f s' => f = .next ∧ ∃ h' tk' oo', s' = { s₀ with heap := h', toks := tk' } ∧ Fr g L h' (mOf m x o v oo') ∧ News g L h' news) (fun _ _ => False) { s₀ with heap := h, toks := tk }
theorem turns {px : Pos} {s₀ : Shared} {R : Result → Shared → Prop} (hh : A.handled = none) (hx : x ≠ o) (hmo : m o = none) (hne : 0 < items.length)
    (hk : scope.kind = .function) (hl : (envOf name scope L a cd).kindOf x = some .local)
    (hoff : ∀ p ∈ news, p.1 < I) (hta : ta < I) (hIL : L < I) (hgI : g.get? I = none)
    (turn : ∀ v ∈ items, ∀ it, TurnP prog w A (envOf name scope L a cd) body g L m x o ((I, it) :: (ta, { cls := .type "tuple", data := .seq items.toArray z }) :: news) s₀ v)
    (fin : ∀ h tk v oo, Fr g L h (mOf m x o v oo) → News g L h news → R (.ok .next) { s₀ with heap := h, toks := tk }) :
    ∀ (k i : Nat), k + i = items.length → ∀ h tk mm, Fr g L h mm → ((i = 0 ∧ mm = m) ∨ (0 < i ∧ ∃ v oo, mm = mOf m x o v oo)) → h.IsTupleIter I ta i → News g L h ((ta, { cls := .type "tuple", data := .seq items.toArray z }) :: news) →
      codeP (model prog w) A (.forLoop (.Name x px) (.ref I) body [] (envOf name scope L a cd)) R { s₀ with heap := h, toks := tk } := by
  have offAll : ∀ p ∈ (ta, ({ cls := .type "tuple", data := .seq items.toArray z } : Obj)) :: news, p.1 < I := fun p hp => by
    rcases List.mem_cons.mp hp with rfl | hp
    · exact hta
    · exact hoff p hp
  intro k
  induction k with
  | zero =>
    intro i hi h tk mm F hmm hit N
    obtain ⟨h0, _⟩ | ⟨_, v, oo, rfl⟩ := hmm
    · omega
    have ht : h.IsTuple ta items.toArray := ⟨_, (N _ (.head _)).1, rfl, _, rfl⟩
    refine codeP_for (wpAny_pyNext_tuple_end (s := { s₀ with heap := h, toks := tk }) hh hit ht (by simp; omega) fun h' hs => ?_)
    show wpAny _ _ (execs [] _) _ _ _
    refine wpAny_execs_nil ?_
    refine fin h' tk v oo ⟨F.ns.extBut hs (Nat.ne_of_lt hIL), fun b ob e => hs b ob (fun q => by rw [q, hgI] at e; cases e) (F.keep b ob e), F.above⟩ fun p hp => ?_
    exact ⟨hs _ _ (Nat.ne_of_lt (hoff p hp)) (N p (.tail _ hp)).1, (N p (.tail _ hp)).2⟩
  | succ k ih =>
    intro i hi h tk mm F hmm hit N
    have ht : h.IsTuple ta items.toArray := ⟨_, (N _ (.head _)).1, rfl, _, rfl⟩
    have hlt : i < items.length := by omega
    have hx' : items.toArray[i]? = some items[i] := by simp [hlt]
    refine codeP_for (wpAny_pyNext_tuple_item (s := { s₀ with heap := h, toks := tk }) hit ht hx' fun h' hit' hs => ?_)
    have F1 : Fr g L h' mm := F.change hs (Nat.ne_of_gt hIL) hgI
    obtain ⟨ito, hito, hicls, hidat⟩ := hit'
    have N1 : News g L h' ((I, ito) :: (ta, { cls := .type "tuple", data := .seq items.toArray z }) :: news) := fun p hp => by
      rcases List.mem_cons.mp hp with rfl | hp
      · exact ⟨hito, Nat.ne_of_gt hIL, hgI⟩
      · exact ⟨(hs.2 _ (Nat.ne_of_lt (offAll p hp))).trans (N p hp).1, (N p hp).2⟩
    refine assign_Name (stN (s := { s₀ with heap := h', toks := tk }) F1 N1 (fun h₂ F2 N2 => ?_) hk hl)
    have hm2 : ∃ oo, (fun y => if y = x then some items[i] else mm y) = mOf m x o items[i] oo := by
      rcases hmm with ⟨_, rfl⟩ | ⟨_, v, oo, rfl⟩
      · exact ⟨_, mOf_first hx hmo⟩
      · exact ⟨_, mOf_next hx⟩
    obtain ⟨oo, hm2⟩ := hm2
    rw [hm2] at F2
    refine wpP_mono (turn items[i] (List.getElem_mem hlt) ito h₂ (tk + 1) oo F2 N2) (fun f s₃ hf => ?_) fun _ _ x => x
    obtain ⟨rfl, h₃, tk₃, oo₃, rfl, F3, N3⟩ := hf
    exact ih (i + 1) (by omega) h₃ tk₃ _ F3 (.inr ⟨by omega, _, _, rfl⟩) ⟨_, (N3 _ (.head _)).1, hicls, hidat⟩ fun p hp => N3 p (.tail _ hp)
/-- for x in (..): over a tuple of the ledger -/
theorem forP_tuple {px pos : Pos} {iter : PySem.Expr} {s : Shared} {Q : Flow → Shared → Prop} (hh : A.handled = none) (hx : x ≠ o) (hmo : m o = none) (hne : 0 < items.length)
    (hk : scope.kind = .function) (hl : (envOf name scope L a cd).kindOf x = some .local)
    (h : wpAny (model prog w) A (eval iter (envOf name scope L a cd)) (fun v s₁ => ∃ ta, v = .ref ta ∧ Fr g L s₁.heap m ∧ News g L s₁.heap ((ta, { cls := .type "tuple", data := .seq items.toArray z }) :: news) ∧
      (∀ I, (∀ p ∈ news, p.1 < I) → ∀ v ∈ items, ∀ it, TurnP prog w A (envOf name scope L a cd) body g L m x o ((I, it) :: (ta, { cls := .type "tuple", data := .seq items.toArray z }) :: news) s₁ v) ∧
      (∀ h tk v oo, Fr g L h (mOf m x o v oo) → News g L h news → Q .next { s₁ with heap := h, toks := tk })) E s)
    (hs : ∀ x, foldedSetIterable iter (envOf name scope L a cd) x = pure x := by intro _; rfl) :
    wpP (model prog w) A (exec (.For (.Name x px) iter body [] pos) (envOf name scope L a cd)) Q E s := by
  refine wpP_For (wpAny_mono h (fun v s₁ h₁ => ?_) fun _ _ x => x) hs
  obtain ⟨ta, rfl, F, N, turn, fin⟩ := h₁
  have ht : s₁.heap.IsTuple ta items.toArray := ⟨_, (N _ (.head _)).1, rfl, _, rfl⟩
  refine wpAny_pyIter_tuple ht ?_
  have lt : ∀ p ∈ (ta, ({ cls := .type "tuple", data := .seq items.toArray z } : Obj)) :: news, p.1 < s₁.heap.objs.size := fun p hp => Heap.lt_size (N p hp).1
  exact turns (s₀ := s₁) hh hx hmo hne hk hl (fun p hp => lt p (.tail _ hp)) (lt _ (.head _)) F.ns.lt F.fresh (turn _ fun p hp => lt p (.tail _ hp))
    (fun h tk v oo F N => fin h tk v oo F N) items.length 0 (by omega) _ s₁.toks m (F.push _) (.inl ⟨rfl, rfl⟩) ⟨_, Heap.get?_push_size _ rfl, rfl, rfl⟩
    (fun p hp => ⟨Heap.get?_push_of_some _ (N p hp).1, (N p hp).2⟩)
end
end Mine
end
-- part F1
theorem Mine.anew_F1 : True ∧ True := by
  w_top off
  first | (walk1; all_goals trivial) | exact ⟨trivial, trivial⟩
section
namespace Mine
theorem cut_wp {M : Model} {Γ : Ctx} {env : Env} {Q : Flow → Pos → Shared → Prop} {E : Value → Pos → Shared → Prop} {I : Shared → Prop} {l2 : List Stmt} (h2 : ∀ p s, I s → Sem.wp M Γ (execs l2 env) Q E p s) :
    ∀ (l1 : List Stmt) (p : Pos) (s : Shared), Sem.wp M Γ (execs l1 env) (fun f _ s' => f = .next ∧ I s') E p s → Sem.wp M Γ (execs (l1 ++ l2) env) Q E p s
  | [], p, s, h1 => by
    rw [execs_nil, Sem.wp_pure'] at h1
    exact h2 p s h1.2
  | st :: l, p, s, h1 => by
    rw [execs_cons, Sem.wp_bind'] at h1
    rw [List.cons_append, execs_cons, Sem.wp_bind']
    refine Sem.wp_mono M Γ _ (fun f p' s' h' => ?_) (fun _ _ _ x => x) p s h1
    cases f with
    | next => exact cut_wp h2 l p' s' h'
    | brk => rw [Sem.wp_pure'] at h'; exact absurd h'.1 (by intro h; cases h)
    | cont => rw [Sem.wp_pure'] at h'; exact absurd h'.1 (by intro h; cases h)
    | ret v => rw [Sem.wp_pure'] at h'; exact absurd h'.1 (by intro h; cases h)
theorem cutP {M : Model} {A : Around} {E : Value → Shared → Prop} {s : Shared} {env : Env} {Q : Flow → Shared → Prop} {l1 l2 : List Stmt} (I : Shared → Prop)
    (h1 : wpP M A (execs l1 env) (fun f s' => f = .next ∧ I s') E s) (h2 : ∀ s', I s' → wpP M A (execs l2 env) Q E s') : wpP M A (execs (l1 ++ l2) env) Q E s :=
  fun Γ p hΓ o => cut_wp (fun p s hI => h2 s hI Γ p hΓ o) l1 p s (h1 Γ p hΓ o)
/-- a cut's own word -/
def Cut (I : Shared → Prop) (f : Flow) (s : Shared) : Prop := f = .next ∧ I s
end Mine
end
-- part F2
theorem Mine.anew_F2 : True ∧ True := by
  w_top off
  first | (walk1; all_goals trivial) | exact ⟨trivial, trivial⟩
section
namespace Mine
/-- the end of a body that turns a list of the caller's -/
def EndU (g : Heap) (L' : Addr) (keep : Tok → List (Addr × Obj)) (P : Value → Prop) (s₀ : Shared) (v : Value) (s' : Shared) : Prop := ∃ t', EndS g L' (keep t') P s₀ v s'
theorem EndU.say {g h : Heap} {L' : Addr} {keep : Tok → List (Addr × Obj)} {news' : List (Addr × Obj)} {P : Value → Prop} {s₀ : Shared} {v : Value} {m' : Str → Option Value} {tk : Nat} {t' : Tok}
    (F : Fr g L' h m') (N : News g L' h news') (S : ∀ p ∈ keep t', p ∈ news') (hP : Say (P v)) : EndU g L' keep P s₀ v { s₀ with heap := h, toks := tk } := ⟨t', EndS.say F N S hP⟩
section
variable {prog : Program} {w : World} {A A₀ : Around} {E : Value → Shared → Prop} {s : Shared} {K : Frag} {L : Addr} {h₀ base : Heap} {m mg mb : Str → Option Value} {sub : List (Addr × Obj)} {p : Program} {loose : List Str} {mean : ExcName → Option Value}
theorem endU_back {L' : Addr} {P : Value → Prop} {v : Value} {s' : Shared} {keep : List (Addr × Obj)} (e : EndS (hideAll s.heap (sub.map (·.1))) L' keep P s v s') :
    ∃ h' tk', s' = { s with heap := h', toks := tk' } ∧ (∀ b o, b ∉ sub.map (·.1) → s.heap.get? b = some o → h'.get? b = some o) ∧ (∀ p ∈ keep, h'.get? p.1 = some p.2) ∧ P v := by
  obtain ⟨m', h, tk, rfl, F', N', hP⟩ := e
  exact ⟨h, tk, rfl, fun b o hb q => F'.keep b o (hideAll_get _ q hb), fun p hp => (N' p hp).1, hP⟩
theorem specU {env : Env} {outer : List Env} {name qual : Str} {params : Arguments} {body : List Stmt} {scope : Scope} {dV kV doc pm cdv ct oc : Value} {an od : Option Addr} {osl : Array (Option Value)} {f : Addr} {pos : List Value} {binds : List (Str × Value)} {P : Value → Prop} {Q : Value → Shared → Prop} {keep : Tok → List (Addr × Obj)}
    (B : Below A₀ base outer h₀) (F : Fr h₀ L s.heap m) (X₀ : K.In h₀) (N : News h₀ L s.heap sub) (T : Top p loose mean mg mb h₀) (hA : A.frames = some (env :: outer)) (hf : env.frame = some L) (hke : env.scope.kind = .function)
    (ho : K.lookup f = some ⟨oc, od, .func (fnOf name qual params body scope dV kV doc pm an cdv ct), osl⟩) (hcd : codeIn K cdv qual = true) (hroom : A.depth < recursionLimit)
    (hbind : BindsTo s (fnOf name qual params body scope dV kV doc pm an cdv ct) ⟨pos, []⟩ binds) (hloc : ∀ y ∈ binds, scope.names.lookup y.1 = some .local)
    (h : ∀ g L' h₁, Fr g L' h₁ (fun y => binds.reverse.lookup y) → News g L' h₁ sub → Below A base (env :: outer) g → K.In g → Top p loose mean mg mb g → (∀ p ∈ sub, p.1 < L') →
      wpAny (model prog w) (A.deeper (envOf qual scope L' f cdv)) (execs body (envOf qual scope L' f cdv)) (fun fl s' => EndU g L' keep P s (match fl with | .ret v => v | _ => .none) s') (fun _ _ => False)
        { s with heap := h₁, toks := s.toks + binds.length })
    (hco : scope.isCoroutine = false) (hgen : scope.isGenerator = false) (hk : scope.kind = .function)
    (hcell : ∀ x ∈ scope.names, x.2 ≠ .cell)
    (ret : ∀ v h' tk' t', (∀ b o, b ∉ sub.map (·.1) → s.heap.get? b = some o → h'.get? b = some o) → (∀ p ∈ keep t', h'.get? p.1 = some p.2) → P v → Q v { s with heap := h', toks := tk' }) : wpAny (model prog w) A (call (.ref f) pos) Q E s := by
  obtain ⟨FG, BG, st, lv⟩ := groundX (R := fun _ _ => True) B F N hA hf hke
  refine wpAny_call (codeAny_call_def (fd := fnOf name qual params body scope dV kV doc pm an cdv ct) (body := body) (binds := binds) hroom ((X₀.keeps F.keep) _ _ ho) rfl (T.nolimit.keeps F.keep) (codeRec_of (X₀.keeps F.keep) hcd) rfl hbind hcell hloc (fun h₁ hns hk₁ => ?_) hco hgen hk)
  refine wpAny_mono (h _ s.heap.objs.size h₁ ⟨hns, fun b o e => hk₁ b o (of_hideAll _ e), Nat.le_of_eq (hideAll_size _ _)⟩
    (fun p hp => ⟨hk₁ _ _ (N p hp).1, Nat.ne_of_lt (Heap.lt_size (N p hp).1), hideAll_none _ (List.mem_map_of_mem hp)⟩) BG (X₀.keeps st) (T.keeps st) (fun p hp => Heap.lt_size (N p hp).1)) (fun fl s' hl => ?_) fun _ _ x => x.elim
  obtain ⟨t', hl⟩ := hl
  obtain ⟨h', tk', rfl, kp, hkeep, hP⟩ := endU_back hl
  cases fl <;> exact ret _ h' tk' t' kp hkeep hP
end

abbrev boxOf (lst : Addr) (c : Int) (t : Tok) (z : Nat) : Obj := listOf #[.ref lst, .int c t] z
/-- the law's own draw: box[1] goes up by one, a number below k comes back -/
def SpecT (prog : Program) (K : Params → Frag) (f : Addr) (k : Int) : Prop :=
  ∀ (w : World) (p : Program) (loose : List Str) (mean : ExcName → Option Value) (mg mb : Str → Option Value) (dp un : Nat) (gd : Option (List Code)) (cn : Str) (cs : Scope) (a : Addr) (ccd : Value) (cl : List (Str × Addr)) (outer : List Env) (A₀ : Around) (base h₀ : Heap) (L : Addr) (m : Str → Option Value) (s : Shared) (Q E : Value → Shared → Prop)
    (bx lst : Addr) (c : Int) (t u : Tok) (z zc : Nat) (vs : List Value) (ns : List Int),
    Below A₀ base outer h₀ → Fr h₀ L s.heap m → (K w.params).In h₀ → News h₀ L s.heap [(bx, boxOf lst c t z), (lst, listOf vs.toArray zc)] → Top p loose mean mg mb h₀ → cs.kind = .function → dp + 1 < recursionLimit → un + 8 * 1 < cLine →
    lst < bx → IntsAre vs ns → ns.length ≤ 12 → 0 ≤ c → c ≤ 100 →
    (∀ v h' tk' t', (∀ b o, b ∉ [bx, lst] → s.heap.get? b = some o → h'.get? b = some o) → (∀ p ∈ [(bx, boxOf lst (c + 1) t' z), (lst, listOf vs.toArray zc)], h'.get? p.1 = some p.2) → (∃ (n : Int) (tv : Tok), v = .int n tv ∧ 0 ≤ n ∧ n < k) → Q v { s with heap := h', toks := tk' }) →
      wpAny (model prog w) (ktrTop dp un gd cn cs L a ccd cl outer) (call (.ref f) [.ref bx, .int k u]) Q E s
theorem SpecT.use {prog : Program} {w : World} {E : Value → Shared → Prop} {s : Shared} {h₀ base : Heap} {L : Addr} {m mg mb : Str → Option Value} {news : List (Addr × Obj)} {news' : Tok → List (Addr × Obj)} {K : Params → Frag} {f : Addr} {k : Int} {Q : Value → Shared → Prop}
    {p : Program} {loose : List Str} {mean : ExcName → Option Value} {dp un : Nat} {gd : Option (List Code)} {cn : Str} {cs : Scope} {a : Addr} {ccd : Value} {cl : List (Str × Addr)} {outer : List Env} {A₀ : Around}
    {bx lst : Addr} {c : Int} {t u : Tok} {z zc : Nat} {vs : List Value} {ns : List Int}
    (h : SpecT prog K f k) (B : Below A₀ base outer h₀) (F : Fr h₀ L s.heap m) (X : (K w.params).In h₀) (N : News h₀ L s.heap news) (U : ∀ t', Upd bx (boxOf lst c t z) (boxOf lst (c + 1) t' z) news (news' t'))
    (hl : (lst, listOf vs.toArray zc) ∈ news) (T : Top p loose mean mg mb h₀) (hk : cs.kind = .function) (hd : dp + 1 < recursionLimit) (hu : un + 8 * 1 < cLine)
    (hlt : lst < bx) (hi : IntsAre vs ns) (hn : ns.length ≤ 12) (h0 : 0 ≤ c) (h1 : c ≤ 100)
    (ret : ∀ n tv h' tk' t', Fr h₀ L h' m → News h₀ L h' (news' t') → 0 ≤ n → n < k → Q (.int n tv) { s with heap := h', toks := tk' }) : wpAny (model prog w) (ktrTop dp un gd cn cs L a ccd cl outer) (call (.ref f) [.ref bx, .int k u]) Q E s := by
  obtain ⟨pre, post, e1, e2, a1, a2⟩ := (U 0).split
  have hbx : (bx, boxOf lst c t z) ∈ news := by rw [e1]; exact List.mem_append.mpr (.inr (.head _))
  refine h w p loose mean mg mb dp un gd cn cs a ccd cl outer A₀ base h₀ L m s Q E bx lst c t u z zc vs ns B F X ?_ T hk hd hu hlt hi hn h0 h1 fun v h' tk' t' kp hk' hv => ?_
  · intro q hq
    rcases List.mem_cons.mp hq with rfl | hq
    · exact N _ hbx
    · rcases List.mem_cons.mp hq with rfl | hq
      · exact N _ hl
      · cases hq
  · obtain ⟨n, tv, rfl, hn0, hn1⟩ := hv
    have off : ∀ b, b ≠ bx → b ≠ lst → ∀ o, s.heap.get? b = some o → h'.get? b = some o := fun b b1 b2 o q => kp b o (by simp [b1, b2]) q
    refine ret n tv h' tk' t' ?_ ?_ hn0 hn1
    · obtain ⟨oL, es, ep, hL, r⟩ := F.ns
      refine ⟨⟨oL, es, ep, off L (Ne.symm (N _ hbx).2.1) (Ne.symm (N _ hl).2.1) _ hL, r⟩, fun b o q => off b (fun e => ?_) (fun e => ?_) o (F.keep b o q), F.above⟩
      · rw [e, (N _ hbx).2.2] at q; cases q
      · rw [e, (N _ hl).2.2] at q; cases q
    · obtain ⟨pre, post, rfl, e2, a1, a2⟩ := (U t').split
      rw [e2]
      intro q hq
      have key : ∀ q ∈ pre ++ (bx, boxOf lst c t z) :: post, q.1 ≠ bx → h'.get? q.1 = some q.2 ∧ q.1 ≠ L ∧ h₀.get? q.1 = none := fun q hq hne => by
        refine ⟨?_, (N q hq).2⟩
        by_cases hql : q.1 = lst
        · have z1 := (N q hq).1
          rw [hql, (N _ hl).1] at z1
          rw [hql, ← z1]
          exact hk' (lst, _) (.tail _ (.head _))
        · exact off _ hne hql _ (N q hq).1
      rcases List.mem_append.mp hq with hq | hq
      · exact key q (List.mem_append.mpr (.inl hq)) (a1 q hq)
      · rcases List.mem_cons.mp hq with rfl | hq
        · exact ⟨hk' _ (.head _), (N _ hbx).2⟩
        · exact key q (List.mem_append.mpr (.inr (.tail _ hq))) (a2 q hq)
end Mine
end
-- part F3
theorem Mine.anew_F3 : True ∧ True := by
  w_top off
  first | (walk1; all_goals trivial) | exact ⟨trivial, trivial⟩
section
namespace Mine
abbrev tupOf (its : List Value) (z : Nat) : Obj := { cls := .type "tuple", data := .seq its.toArray z }
/-- the end of a body that hands back a new tuple -/
def EndT (g : Heap) (L' : Addr) (keep : List (Addr × Obj)) (Pk : Obj → Prop) (s₀ : Shared) (v : Value) (s' : Shared) : Prop :=
  ∃ m' h tk a ob, s' = { s₀ with heap := h, toks := tk } ∧ v = .ref a ∧ Fr g L' h m' ∧ News g L' h ((a, ob) :: keep) ∧ Pk ob
theorem EndT.say {g h : Heap} {L' a : Addr} {ob : Obj} {keep news' : List (Addr × Obj)} {Pk : Obj → Prop} {s₀ : Shared} {m' : Str → Option Value} {tk : Nat}
    (F : Fr g L' h m') (N : News g L' h news') (S : ∀ p ∈ (a, ob) :: keep, p ∈ news') (hP : Say (Pk ob)) : EndT g L' keep Pk s₀ (.ref a) { s₀ with heap := h, toks := tk } :=
  ⟨m', h, tk, a, ob, rfl, rfl, F, fun p hp => N p (S p hp), hP⟩
section
variable {prog : Program} {w : World} {A A₀ : Around} {E : Value → Shared → Prop} {s : Shared} {K : Frag} {L : Addr} {h₀ base : Heap} {m mg mb : Str → Option Value} {sub : List (Addr × Obj)} {p : Program} {loose : List Str} {mean : ExcName → Option Value}
theorem specT {env : Env} {outer : List Env} {name qual : Str} {params : Arguments} {body : List Stmt} {scope : Scope} {dV kV doc pm cdv ct oc : Value} {an od : Option Addr} {osl : Array (Option Value)} {f : Addr} {pos : List Value} {binds : List (Str × Value)} {Pk : Obj → Prop} {Q : Value → Shared → Prop}
    (B : Below A₀ base outer h₀) (F : Fr h₀ L s.heap m) (X₀ : K.In h₀) (N : News h₀ L s.heap sub) (T : Top p loose mean mg mb h₀) (hA : A.frames = some (env :: outer)) (hf : env.frame = some L) (hke : env.scope.kind = .function)
    (ho : K.lookup f = some ⟨oc, od, .func (fnOf name qual params body scope dV kV doc pm an cdv ct), osl⟩) (hcd : codeIn K cdv qual = true) (hroom : A.depth < recursionLimit)
    (hbind : BindsTo s (fnOf name qual params body scope dV kV doc pm an cdv ct) ⟨pos, []⟩ binds) (hloc : ∀ y ∈ binds, scope.names.lookup y.1 = some .local)
    (h : ∀ g L' h₁, Fr g L' h₁ (fun y => binds.reverse.lookup y) → News g L' h₁ sub → Below A base (env :: outer) g → K.In g → Top p loose mean mg mb g → (∀ p ∈ sub, p.1 < L') →
      wpAny (model prog w) (A.deeper (envOf qual scope L' f cdv)) (execs body (envOf qual scope L' f cdv)) (fun fl s' => EndT g L' sub Pk s (match fl with | .ret v => v | _ => .none) s') (fun _ _ => False)
        { s with heap := h₁, toks := s.toks + binds.length })
    (hco : scope.isCoroutine = false) (hgen : scope.isGenerator = false) (hk : scope.kind = .function)
    (hcell : ∀ x ∈ scope.names, x.2 ≠ .cell)
    (ret : ∀ a ob h' tk', Fr h₀ L h' m → (∀ news, News h₀ L s.heap news → News h₀ L h' ((a, ob) :: news)) → Pk ob → Q (.ref a) { s with heap := h', toks := tk' }) : wpAny (model prog w) A (call (.ref f) pos) Q E s := by
  obtain ⟨FG, BG, st, lv⟩ := groundX (R := fun _ _ => True) B F N hA hf hke
  refine wpAny_call (codeAny_call_def (fd := fnOf name qual params body scope dV kV doc pm an cdv ct) (body := body) (binds := binds) hroom ((X₀.keeps F.keep) _ _ ho) rfl (T.nolimit.keeps F.keep) (codeRec_of (X₀.keeps F.keep) hcd) rfl hbind hcell hloc (fun h₁ hns hk₁ => ?_) hco hgen hk)
  refine wpAny_mono (h _ s.heap.objs.size h₁ ⟨hns, fun b o e => hk₁ b o (of_hideAll _ e), Nat.le_of_eq (hideAll_size _ _)⟩
    (fun p hp => ⟨hk₁ _ _ (N p hp).1, Nat.ne_of_lt (Heap.lt_size (N p hp).1), hideAll_none _ (List.mem_map_of_mem hp)⟩) BG (X₀.keeps st) (T.keeps st) (fun p hp => Heap.lt_size (N p hp).1)) (fun fl s' hl => ?_) fun _ _ x => x.elim
  obtain ⟨m', h', tk', a, ob, rfl, hv, F', N', hP⟩ := hl
  have kp : ∀ b o, s.heap.get? b = some o → h'.get? b = some o := fun b o q => by
    by_cases hb : b ∈ sub.map (·.1)
    · obtain ⟨x, hx, rfl⟩ := List.mem_map.mp hb
      have h1 := (N x hx).1
      rw [q] at h1
      cases h1
      exact (N' x (.tail _ hx)).1
    · exact F'.keep b o (hideAll_get _ q hb)
  have new : ∀ o, s.heap.get? a ≠ some o ∨ a ∈ sub.map (·.1) := fun o => by
    by_cases hb : a ∈ sub.map (·.1)
    · exact .inr hb
    · refine .inl fun q => ?_
      have h1 := (N' _ (.head _)).2.2
      rw [show (hideAll s.heap (sub.map (·.1))).get? a = some o from hideAll_get _ q hb] at h1
      cases h1
  have hs : ∀ o, h₀.get? a ≠ some o := fun o q => by
    rcases new o with h1 | h1
    · exact h1 (F.keep _ _ q)
    · obtain ⟨x, hx, e⟩ := List.mem_map.mp h1
      have h2 := (N x hx).2.2
      rw [e, q] at h2
      cases h2
  have hL : a ≠ L := fun e => by
    obtain ⟨oL, es, ep, hoL, r⟩ := F.ns
    rcases new oL with h1 | h1
    · exact h1 (e ▸ hoL)
    · obtain ⟨x, hx, e2⟩ := List.mem_map.mp h1
      exact (N x hx).2.1 (e2.trans e)
  have fin := ret a ob h' tk' (F.keeps kp) (fun news N2 q hq => by
    rcases List.mem_cons.mp hq with rfl | hq
    · refine ⟨(N' _ (.head _)).1, hL, ?_⟩
      cases z : h₀.get? a with
      | none => rfl
      | some o => exact absurd z (hs o)
    · exact ⟨kp _ _ (N2 q hq).1, (N2 q hq).2⟩) hP
  cases fl with
  | ret v => 
    have hv : v = .ref a := hv
    rw [hv]; exact fin
  | next => cases hv
  | brk => cases hv
  | cont => cases hv
end
/-- a def that hands back a new tuple -/
def SpecN (prog : Program) (K : Params → Frag) (f : Addr) (vs : List Value) (sub : List (Addr × Obj)) (c : Nat) (Pk : Obj → Prop) : Prop :=
  ∀ (w : World) (p : Program) (loose : List Str) (mean : ExcName → Option Value) (mg mb : Str → Option Value) (dp un : Nat) (gd : Option (List Code)) (cn : Str) (cs : Scope) (a : Addr) (ccd : Value) (cl : List (Str × Addr)) (outer : List Env) (A₀ : Around) (base h₀ : Heap) (L : Addr) (m : Str → Option Value) (s : Shared) (Q E : Value → Shared → Prop),
    Below A₀ base outer h₀ → Fr h₀ L s.heap m → (K w.params).In h₀ → News h₀ L s.heap sub → Top p loose mean mg mb h₀ → cs.kind = .function → dp + c < recursionLimit → un + 8 * c < cLine →
    (∀ a ob h' tk', Fr h₀ L h' m → (∀ news, News h₀ L s.heap news → News h₀ L h' ((a, ob) :: news)) → Pk ob → Q (.ref a) { s with heap := h', toks := tk' }) →
      wpAny (model prog w) (ktrTop dp un gd cn cs L a ccd cl outer) (call (.ref f) vs) Q E s
theorem SpecN.use {prog : Program} {w : World} {E : Value → Shared → Prop} {s : Shared} {h₀ base : Heap} {L : Addr} {m mg mb : Str → Option Value} {news sub : List (Addr × Obj)} {K : Params → Frag} {f : Addr} {vs : List Value} {c : Nat} {Pk : Obj → Prop} {Q : Value → Shared → Prop}
    {p : Program} {loose : List Str} {mean : ExcName → Option Value} {dp un : Nat} {gd : Option (List Code)} {cn : Str} {cs : Scope} {a : Addr} {ccd : Value} {cl : List (Str × Addr)} {outer : List Env} {A₀ : Around}
    (h : SpecN prog K f vs sub c Pk) (B : Below A₀ base outer h₀) (F : Fr h₀ L s.heap m) (X : (K w.params).In h₀) (N : News h₀ L s.heap news) (S : ∀ p ∈ sub, p ∈ news) (T : Top p loose mean mg mb h₀) (hk : cs.kind = .function)
    (hd : dp + c < recursionLimit) (hu : un + 8 * c < cLine)
    (ret : ∀ a ob h' tk', Fr h₀ L h' m → News h₀ L h' ((a, ob) :: news) → Pk ob → Q (.ref a) { s with heap := h', toks := tk' }) : wpAny (model prog w) (ktrTop dp un gd cn cs L a ccd cl outer) (call (.ref f) vs) Q E s :=
  h w p loose mean mg mb dp un gd cn cs a ccd cl outer A₀ base h₀ L m s Q E B F X (fun p hp => N p (S p hp)) T hk hd hu
    fun a ob h' tk' F' kn hv => ret a ob h' tk' F' (kn news N) hv
end Mine
end
namespace Mine
theorem gen_toks {M : Model} {A : Around} {t : Sem α} {Q : α → Shared → Prop} {E : Value → Shared → Prop} {h : Heap} {g : Array GenState} {d : Drawn} {k : Nat} {os : OsState} (H : ∀ tk : Nat, wpAny M A t Q E ⟨h, g, d, tk, os⟩) : wpAny M A t Q E ⟨h, g, d, k, os⟩ := H k
local macro_rules | `(tactic| walk_at "EndS") => `(tactic| (k_dflt (refine' EndS.say ?F ?N ?S ?_; (case F => k_asm); (case N => k_asm); (case S => exact SubL.mem (by k_subL)))))
local macro_rules | `(tactic| walk_at "spec0") => `(tactic| (k_fill; (first | unfold SpecA | unfold SpecP); intros))
local macro_rules | `(tactic| walk_at "spec side") => `(tactic| (
  (case b1 => assumption); (case b2 => assumption); (case b3 => assumption); (case b4 => assumption); (case b5 => assumption)
  (case kA => exact rfl); (case kF => exact rfl); (case kK => assumption); (case k6 => k_dflt k_is); (case k7 => k_dflt k_is); (case k8 => ktr_room)
  (case k9 => exact BindsTo.of_eq rfl); (case kB => exact locs rfl); (case c2 => exact rfl); (case c3 => exact rfl); (case c4 => exact rfl); (case c5 => decide); (case ret => assumption)
  (rename RetS _ _ _ => ret9; clear ret9)
  (rename Fr _ _ _ _ => F9; rename Below _ _ _ _ => B9; rename Frag.In _ _ => X9; rename News _ _ _ _ => N9; rename Top _ _ _ _ _ _ => T9; clear N9 F9 X9 T9 B9)
  intro g' L' h' F' N' B' X' T' l1
  (try k_lt l1)
  (try dsimp only)
  (try k_fold)))
-- wpP: what does not touch a bytearray is walked in wpAny
local macro_rules | `(tactic| walk_at "wpP") => `(tactic| (plain_pass; refine wpP_any ?_; (try k_fold)))
local macro_rules | `(tactic| walk_at "wpP") => `(tactic| ((with_reducible show wpP _ _ (execs (_ :: _) _) _ _ _); refine wpP_execs_cons ?_))
local macro_rules | `(tactic| walk_at "wpP") => `(tactic| ((with_reducible show wpP _ _ (exec (Stmt.Assign [PySem.Expr.Name _ _] _ _) _) _ _ _); (refine' wpP_Assign_T ?t ?s ?_; (case t => with_unfolding_all exact (rfl : _ = true)); (case s => k_dflt (exact rfl)))))
local macro_rules | `(tactic| walk_at "wpP") => `(tactic| ((with_reducible show wpP _ _ (exec (Stmt.Return (some _) _) _) _ _ _); (refine' wpP_Return_T ?t ?_; (case t => with_unfolding_all exact (rfl : _ = true)))))
local macro_rules | `(tactic| walk_at "wpP") => `(tactic| ((with_reducible show wpP _ _ (exec (Stmt.If _ [Stmt.Assign [PySem.Expr.Name _ _] _ _] [] _) _) _ _ _); (refine' wpP_IfB_T ?t ?_; (case t => with_unfolding_all exact (rfl : _ = true)))))
local macro_rules | `(tactic| walk_at "wpP") => `(tactic| ((with_reducible show wpP _ _ (eval (PySem.Expr.BinOp _ _ _ _) _) _ _ _); (refine' wpP_BinOp_T ?t ?_; (case t => with_unfolding_all exact (rfl : _ = true)))))
local macro_rules | `(tactic| walk_at "wpP") => `(tactic| ((with_reducible show wpP _ _ (eval (PySem.Expr.Call _ _ [] _) _) _ _ _); (refine' wpP_Call_T ?t ?e ?_; (case t => with_unfolding_all exact (rfl : _ = true)); (case e => k_dflt (exact rfl)))))
local macro_rules | `(tactic| walk_at "wpP") => `(tactic| ((with_reducible show wpP _ _ (callWith _ (Value.ref _) [] _ []) _ _ _); k_dflt (refine' callWithP_K1 ?x ?k ?e ?p ?_; (case x => k_asm); (case k => k_is); (case e => exact rfl); (case p => exact rfl))))
local macro_rules | `(tactic| walk_at "wpP") => `(tactic| ((with_reducible show wpP _ _ (callWith _ (Value.type _) [] _ []) _ _ _); k_dflt (refine' callWithP_B0 ?k ?e ?p ?_; (case k => exact rfl); (case e => exact rfl); (case p => exact rfl))))
local macro_rules | `(tactic| walk_at "wpP") => `(tactic| ((with_reducible show wpP _ _ (callWith _ (Value.builtin _) [] _ []) _ _ _); k_dflt (refine' callWithP_B0 ?k ?e ?p ?_; (case k => exact rfl); (case e => exact rfl); (case p => exact rfl))))
local macro_rules | `(tactic| walk_at "wpP") => `(tactic| ((with_reducible show wpP _ _ (spliced (backTo _ (starEach (_ :: _) _))) _ _ _); (refine' argsP_T ?t ?e ?_; (case t => with_unfolding_all exact (rfl : _ = true)); (case e => k_dflt (exact rfl)))))
local macro_rules | `(tactic| walk_at "wpP") => `(tactic| ((with_reducible show wpP _ _ (call (Value.type "bytearray") [Value.int _ _]) _ _ _); k_dflt (refine' ba_P ?F ?N ?a ?b ?_; (case F => k_asm); (case N => k_asm); (case a => first | decide | omega); (case b => first | decide | omega)); intro b' h' F' N' l1; (try k_lt l1); (try k_sweep)))
-- bytes, bytearrays
local macro_rules | `(tactic| walk_at "call type:bytes") => `(tactic| ((with_reducible show wpAny _ _ (call (Value.type _) [Value.int _ _]) _ _ _); k_dflt (refine' bytesN_O ?a ?b ?_; (case a => first | decide | omega); (case b => first | decide | omega)); intro d' v' k' hd'; (try simp only [Int.reduceNeg] at hd')))
local macro_rules | `(tactic| walk_at "binaryOp Add bytes bytes") => `(tactic| ((with_reducible show wpAny _ _ (binaryOp Operator.Add (Value.bytes _ _) (Value.bytes _ _)) _ _ _); k_dflt (refine' add_bytesO ?a ?b ?_; (case a => (try simp only [List.size_toArray, List.length_cons, List.length_nil]); first | decide | omega); (case b => (try simp only [List.size_toArray, List.length_cons, List.length_nil]); first | decide | omega)); intro d' v' k' hd'; (try simp only [List.size_toArray, List.length_cons, List.length_nil, Nat.zero_add] at hd')))
local macro_rules | `(tactic| walk_at "getMethod ref") => `(tactic| ((with_reducible show wpAny _ _ (getMethod (Value.ref _) (PySem.Str.ofString "index") _) _ _ _); k_dflt (first
  | (refine' k_method ?F ?X ?l ?c ?d PySem.F.plainAttrs_list PySem.F.slot_list_index PySem.F.type_list_index ?_; (case F => k_asm); (case X => k_asm); (case l => k_is); (case c => exact rfl); (case d => exact rfl))
  | (refine' k_method ?F ?X ?l ?c ?d PySem.F.plainAttrs_tuple PySem.F.slot_tuple_index PySem.F.type_tuple_index ?_; (case F => k_asm); (case X => k_asm); (case l => k_is); (case c => exact rfl); (case d => exact rfl)))))
local macro_rules | `(tactic| walk_at "call builtin:list.index") => `(tactic| ((with_reducible show wpAny _ _ (call (Value.builtin _) [Value.ref _, Value.str _ _]) _ _ _); k_dflt (first
  | (refine' k_index (j := 0) ?F ?X ?l ?i ?j ?z ?t ?n ?_; (case F => k_asm); (case X => k_asm); (case l => k_is); (case i => repeat' constructor); (case j => decide); (case z => decide); (case t => decide +kernel); (case n => decide +kernel))
  | (refine' k_index (j := 2) ?F ?X ?l ?i ?j ?z ?t ?n ?_; (case F => k_asm); (case X => k_asm); (case l => k_is); (case i => repeat' constructor); (case j => decide); (case z => decide); (case t => decide +kernel); (case n => decide +kernel)))))
local macro_rules | `(tactic| walk_at "call builtin:tuple.index") => `(tactic| ((with_reducible show wpAny _ _ (call (Value.builtin _) [Value.ref _, Value.int _ _]) _ _ _); k_dflt (first
  | (refine' k_tupIndex (j := 0) (i := 0) ?F ?X ?l ?j ?e ?_; (case F => k_asm); (case X => k_asm); (case l => k_is); (case j => decide); (case e => exact rfl))
  | (refine' k_tupIndex (j := 1) (i := 1) ?F ?X ?l ?j ?e ?_; (case F => k_asm); (case X => k_asm); (case l => k_is); (case j => decide); (case e => exact rfl))
  | (refine' k_tupIndex (j := 2) (i := 2) ?F ?X ?l ?j ?e ?_; (case F => k_asm); (case X => k_asm); (case l => k_is); (case j => decide); (case e => exact rfl)))))
local macro_rules | `(tactic| walk_at "call type:bytes") => `(tactic| ((with_reducible show wpAny _ _ (call (Value.type _) [Value.ref _]) _ _ _); k_dflt (refine' bytesB_K ?N ?m ?z ?_; (case N => k_asm); (case m => k_mem); (case z => (simp only [Array.size_setIfInBounds, Array.size_replicate]; first | decide | omega))); intro t' k'))
local macro_rules | `(tactic| walk_at "setItem ref int") => `(tactic| ((with_reducible show wpAny _ _ (setItem (Value.ref _) (Value.int _ _) (Value.int _ _)) _ _ _); k_dflt (refine' set_ba_K ?F ?N ?U ?a ?b ?c ?d ?e ?_; (case F => k_asm); (case N => k_asm); (case U => k_upd); (case a => first | decide | omega); (case b => (simp only [Array.size_setIfInBounds, Array.size_replicate]; first | decide | omega)); (case c => (simp only [Array.size_setIfInBounds, Array.size_replicate]; first | decide | omega)); (case d => first | omega | exact Int.emod_nonneg _ (by decide) | exact fmod_lo _ (by decide)); (case e => first | omega | exact Int.emod_lt_of_pos _ (by decide) | exact fmod_hi _ (by decide))); intro h' F' N'; (try k_sweep)))
local macro_rules | `(tactic| walk_at "call type:range") => `(tactic| ((with_reducible show wpAny _ _ (call _ [Value.int _ _, Value.int _ _, Value.int _ _]) _ _ _); k_dflt (refine' range3_rows ?F ?N ?c ?_ ?hp; (case F => k_asm); (case N => k_asm); (case c => omega); (case hp => exact Or.inl (PyProof.noPylong_small (by omega)))); intro h' tk' t' u' v' R' F' N' K'; clear K'))
local macro_rules | `(tactic| walk_at "compareOp NotIn int ref") => `(tactic| ((with_reducible show wpAny _ _ (compareOp _ (Value.int _ _) (Value.ref _)) _ _ _); k_dflt (refine' notin_tupK (b := false) ?F ?X ?l ?i ?e ?_; (case F => k_asm); (case X => k_asm); (case l => k_is); (case i => repeat' constructor); (case e => decide))))
-- the use of a spec
local macro_rules | `(tactic| walk_at "spec use") => `(tactic| (
  k_dflt ((case B => k_asm); (case F => k_asm); (case X => k_asm); (case N => k_asm); (case S => first | exact List.forall_mem_nil _ | exact SubL.mem (by k_subL)); (case T => k_asm); (case k => first | exact rfl | assumption); (case d => ktr_room); (case u => ktr_units))
  intro v' h' tk' F' N' hv'))
local macro_rules | `(tactic| walk_at "spec use2") => `(tactic| (
  k_dflt ((case B => k_asm); (case F => k_asm); (case X => k_asm); (case T => k_asm); (case k => first | exact rfl | assumption); (case d => ktr_room); (case u => ktr_units))
  intro v' h' tk' F' N' hv'))
local macro_rules | `(tactic| walk_at "eval Dict") => `(tactic| (k_here; (with_reducible show wpAny _ _ (eval (PySem.Expr.Dict [some (PySem.Expr.Name _ _)] _ _) _) _ _ _); k_dflt (refine' kdn_eval (knd := PySem.strKind _ _) ?F ?N ?b ?a ?l ?e ?n ?_; (case F => k_asm); (case N => k_asm); (case b => exact Top.nolimit (by k_asm)); (case a => rfl); (case l => rfl); (case e => exact List.cons_ne_nil _ _); (case n => exact Nat.le_of_ble_eq_true rfl)); intro d' h' o' F' N' l1 lo' hd'; (try k_lt l1)))
-- part S1
theorem anew_S1 : True ∧ True := by
  w_top off
  first | (walk1; all_goals trivial) | exact ⟨trivial, trivial⟩
section
set_option maxHeartbeats 4000000 in
theorem varint_size_spec (n k : Int) (t : Tok) (h0 : 0 ≤ n) (h1 : n < 1073741824) (hk : vsOf n = k) : SpecA PySem.Challenge.rw_pf0271_01.row.prog hd.heap_39 140 [.int n t] [] 1 (IntOf k) := by
  subst hk
  walk_at "spec0"
  refine' specA (binds := [(Str.ofString "n", .int n t)]) ?b1 ?b2 ?b3 ?b4 ?b5 ?kA ?kF ?kK ?k6 ?k7 ?k8 ?k9 ?kB ?_ ?c2 ?c3 ?c4 ?c5 ?ret
  walk_at "spec side"
  rename Frag.In _ _ => X9
  have hVS : IsTup _ 126 ([.int 1 352, .int 2 353, .int 4 354, .int 8 355] : List Value).toArray := tupK X9 (by k_dflt k_is)
  have hp1 : (2 : Int) ^ (8 * 1 - 2 : Int).toNat = 64 := by decide
  have hp2 : (2 : Int) ^ (8 * 2 - 2 : Int).toNat = 16384 := by decide
  have hp4 : (2 : Int) ^ (8 * 4 - 2 : Int).toNat = 1073741824 := by decide
  k_steps
  all_goals try (refine Say.of (int_ex ?_); unfold vsOf; (repeat' split) <;> omega)
end
-- part S2
theorem anew_S2 : True ∧ True := by
  w_top off
  first | (walk1; all_goals trivial) | exact ⟨trivial, trivial⟩
section
set_option maxHeartbeats 4000000 in
theorem number_size_none (n : Int) (t : Tok) (h0 : 0 ≤ n) (h1 : n < 1000000) : SpecA PySem.Challenge.rw_pf0271_01.row.prog hd.heap_39 176 [.int n t, .none] [] 1 (IntOf (nsOf (n + 1))) := by
  walk_at "spec0"
  refine' specA (binds := [(Str.ofString "full", .int n t), (Str.ofString "largest_acked", .none)]) ?b1 ?b2 ?b3 ?b4 ?b5 ?kA ?kF ?kK ?k6 ?k7 ?k8 ?k9 ?kB ?_ ?c2 ?c3 ?c4 ?c5 ?ret
  walk_at "spec side"
  have hq1 : (2 : Int) ^ (8 * (1 + ((0 : Nat) : Int))).toNat = 256 := by decide
  have hq2 : (2 : Int) ^ (8 * (1 + ((0 + 1 : Nat) : Int))).toNat = 65536 := by decide
  have hq3 : (2 : Int) ^ (8 * (1 + ((0 + 1 + 1 : Nat) : Int))).toNat = 16777216 := by decide
  have hq4 : (2 : Int) ^ (8 * (1 + ((0 + 1 + 1 + 1 : Nat) : Int))).toNat = 4294967296 := by decide
  k_steps
  all_goals try (refine Say.of (int_ex ?_); unfold nsOf; (repeat' split) <;> omega)
  all_goals (exfalso; omega)
set_option maxHeartbeats 4000000 in
theorem number_size_int (n k : Int) (t u : Tok) (h0 : 0 ≤ n - k) (h1 : n - k < 1000000) (h2 : 0 ≤ k) (h3 : k < 1000): SpecA PySem.Challenge.rw_pf0271_01.row.prog hd.heap_39 176 [.int n t, .int k u] [] 1 (IntOf (nsOf (n - k))) := by
  walk_at "spec0"
  refine' specA (binds := [(Str.ofString "full", .int n t), (Str.ofString "largest_acked", .int k u)]) ?b1 ?b2 ?b3 ?b4 ?b5 ?kA ?kF ?kK ?k6 ?k7 ?k8 ?k9 ?kB ?_ ?c2 ?c3 ?c4 ?c5 ?ret
  walk_at "spec side"
  have hq1 : (2 : Int) ^ (8 * (1 + ((0 : Nat) : Int))).toNat = 256 := by decide
  have hq2 : (2 : Int) ^ (8 * (1 + ((0 + 1 : Nat) : Int))).toNat = 65536 := by decide
  have hq3 : (2 : Int) ^ (8 * (1 + ((0 + 1 + 1 : Nat) : Int))).toNat = 16777216 := by decide
  have hq4 : (2 : Int) ^ (8 * (1 + ((0 + 1 + 1 + 1 : Nat) : Int))).toNat = 4294967296 := by decide
  k_steps
  all_goals try (refine Say.of (int_ex ?_); unfold nsOf; (repeat' split) <;> omega)
  all_goals (exfalso; omega)
end
-- part S3
theorem anew_S3 : True ∧ True := by
  w_top off
  first | (walk1; all_goals trivial) | exact ⟨trivial, trivial⟩
section
theorem fdiv0 {n m : Int} (h0 : 0 ≤ n) (h : n < m) : n.fdiv m = 0 := by
  rw [Int.fdiv_eq_ediv_of_nonneg _ (by omega)]; exact Int.ediv_eq_zero_of_lt h0 h
set_option maxHeartbeats 4000000 in
theorem put_whole_a (n : Int) (t u : Tok) (h0 : 0 ≤ n) (h1 : n < 256) : SpecP PySem.Challenge.rw_pf0271_01.row.prog hd.heap_39 133 [.int n t, .int 1 u] [] 1 (BytesOf 1) := by
  walk_at "spec0"
  refine' specP (binds := [(Str.ofString "n", .int n t), (Str.ofString "size", .int 1 u)]) ?b1 ?b2 ?b3 ?b4 ?b5 ?kA ?kF ?kK ?k6 ?k7 ?k8 ?k9 ?kB ?_ ?c2 ?c3 ?c4 ?c5 ?ret
  walk_at "spec side"
  have hz : n.fdiv (2 ^ (8 * 1 : Int).toNat) = 0 := fdiv0 h0 (by have e : (2 : Int) ^ (8 * 1 : Int).toNat = 256 := by decide
                                                                 omega)
  repeat' (first | (k_unfold; (try dsimp only)) | ((with_reducible show wpP _ _ _ _ _ _); first | ((with_reducible show wpP _ _ (callWith _ (Value.ref _) [] _ []) _ _ _); k_dflt (refine' callWithP_K0 (by k_is) (by exact rfl) (by exact rfl) ?_)) | walk1) | (k_end; wrow_close) | ((with_reducible show wpAny _ _ _ _ _ _); first | ((with_reducible show wpAny _ _ (call (Value.type _) [Value.int _ _]) _ _ _); k_dflt (refine' call_bytesN (by first | decide | omega) (by first | decide | omega) ?_)) | ((with_reducible show wpAny _ _ (execs _ _) _ _ (Shared.mk _ _ _ (HAdd.hAdd (HAdd.hAdd (HAdd.hAdd (HAdd.hAdd _ _) _) _) _) _)); refine gen_toks ?_; intro tk9) | ((with_reducible show wpAny _ _ (eval (PySem.Expr.Name _ _) _) _ _ _); k_here; k_dflt (first | (refine' nameX_L (by k_asm) (by rfl) ?_ (by rfl) (by rfl); k_whole) | (refine' nameX_K (by k_asm) (by k_asm) (by k_asm) (by k_is) ?_ (by rfl) (by rfl); k_whole))) | ((with_reducible show wpAny _ _ (callWith _ (Value.ref _) _ _ _) _ _ _); k_here; k_dflt (first | (refine' callWith_K (by k_asm) (by k_is) ?_; k_whole) | (refine' callWith_K0 (by exact Frag.In.keeps (by k_asm) (Fr.keep (by k_asm))) (by k_is) ?_; k_whole)))) | walk1 | (dsimp only; walk1) | (leave1; walk_say "STEP leave1"; try dsimp only) | fail "no step")
  all_goals first
    | (exfalso; omega)
    | exact Say.of ⟨_, _, rfl, by simp only [Array.size_setIfInBounds, Array.size_replicate]; decide⟩
set_option maxHeartbeats 4000000 in
theorem put_whole_b (n : Int) (t u : Tok) (h0 : 0 ≤ n) (h1 : n < 65536) : SpecP PySem.Challenge.rw_pf0271_01.row.prog hd.heap_39 133 [.int n t, .int 2 u] [] 1 (BytesOf 2) := by
  walk_at "spec0"
  refine' specP (binds := [(Str.ofString "n", .int n t), (Str.ofString "size", .int 2 u)]) ?b1 ?b2 ?b3 ?b4 ?b5 ?kA ?kF ?kK ?k6 ?k7 ?k8 ?k9 ?kB ?_ ?c2 ?c3 ?c4 ?c5 ?ret
  walk_at "spec side"
  have hz : n.fdiv (2 ^ (8 * 2 : Int).toNat) = 0 := fdiv0 h0 (by have e : (2 : Int) ^ (8 * 2 : Int).toNat = 65536 := by decide
                                                                 omega)
  repeat' (first | (k_unfold; (try dsimp only)) | ((with_reducible show wpP _ _ _ _ _ _); first | ((with_reducible show wpP _ _ (callWith _ (Value.ref _) [] _ []) _ _ _); k_dflt (refine' callWithP_K0 (by k_is) (by exact rfl) (by exact rfl) ?_)) | walk1) | (k_end; wrow_close) | ((with_reducible show wpAny _ _ _ _ _ _); first | ((with_reducible show wpAny _ _ (call (Value.type _) [Value.int _ _]) _ _ _); k_dflt (refine' call_bytesN (by first | decide | omega) (by first | decide | omega) ?_)) | ((with_reducible show wpAny _ _ (execs _ _) _ _ (Shared.mk _ _ _ (HAdd.hAdd (HAdd.hAdd (HAdd.hAdd (HAdd.hAdd _ _) _) _) _) _)); refine gen_toks ?_; intro tk9) | ((with_reducible show wpAny _ _ (eval (PySem.Expr.Name _ _) _) _ _ _); k_here; k_dflt (first | (refine' nameX_L (by k_asm) (by rfl) ?_ (by rfl) (by rfl); k_whole) | (refine' nameX_K (by k_asm) (by k_asm) (by k_asm) (by k_is) ?_ (by rfl) (by rfl); k_whole))) | ((with_reducible show wpAny _ _ (callWith _ (Value.ref _) _ _ _) _ _ _); k_here; k_dflt (first | (refine' callWith_K (by k_asm) (by k_is) ?_; k_whole) | (refine' callWith_K0 (by exact Frag.In.keeps (by k_asm) (Fr.keep (by k_asm))) (by k_is) ?_; k_whole)))) | walk1 | (dsimp only; walk1) | (leave1; walk_say "STEP leave1"; try dsimp only) | fail "no step")
  all_goals first
    | (exfalso; omega)
    | exact Say.of ⟨_, _, rfl, by simp only [Array.size_setIfInBounds, Array.size_replicate]; decide⟩
set_option maxHeartbeats 4000000 in
theorem put_whole_c (n : Int) (t u : Tok) (h0 : 0 ≤ n) (h1 : n < 16777216) : SpecP PySem.Challenge.rw_pf0271_01.row.prog hd.heap_39 133 [.int n t, .int 3 u] [] 1 (BytesOf 3) := by
  walk_at "spec0"
  refine' specP (binds := [(Str.ofString "n", .int n t), (Str.ofString "size", .int 3 u)]) ?b1 ?b2 ?b3 ?b4 ?b5 ?kA ?kF ?kK ?k6 ?k7 ?k8 ?k9 ?kB ?_ ?c2 ?c3 ?c4 ?c5 ?ret
  walk_at "spec side"
  have hz : n.fdiv (2 ^ (8 * 3 : Int).toNat) = 0 := fdiv0 h0 (by have e : (2 : Int) ^ (8 * 3 : Int).toNat = 16777216 := by decide
                                                                 omega)
  repeat' (first | (k_unfold; (try dsimp only)) | ((with_reducible show wpP _ _ _ _ _ _); first | ((with_reducible show wpP _ _ (callWith _ (Value.ref _) [] _ []) _ _ _); k_dflt (refine' callWithP_K0 (by k_is) (by exact rfl) (by exact rfl) ?_)) | walk1) | (k_end; wrow_close) | ((with_reducible show wpAny _ _ _ _ _ _); first | ((with_reducible show wpAny _ _ (call (Value.type _) [Value.int _ _]) _ _ _); k_dflt (refine' call_bytesN (by first | decide | omega) (by first | decide | omega) ?_)) | ((with_reducible show wpAny _ _ (execs _ _) _ _ (Shared.mk _ _ _ (HAdd.hAdd (HAdd.hAdd (HAdd.hAdd (HAdd.hAdd _ _) _) _) _) _)); refine gen_toks ?_; intro tk9) | ((with_reducible show wpAny _ _ (eval (PySem.Expr.Name _ _) _) _ _ _); k_here; k_dflt (first | (refine' nameX_L (by k_asm) (by rfl) ?_ (by rfl) (by rfl); k_whole) | (refine' nameX_K (by k_asm) (by k_asm) (by k_asm) (by k_is) ?_ (by rfl) (by rfl); k_whole))) | ((with_reducible show wpAny _ _ (callWith _ (Value.ref _) _ _ _) _ _ _); k_here; k_dflt (first | (refine' callWith_K (by k_asm) (by k_is) ?_; k_whole) | (refine' callWith_K0 (by exact Frag.In.keeps (by k_asm) (Fr.keep (by k_asm))) (by k_is) ?_; k_whole)))) | walk1 | (dsimp only; walk1) | (leave1; walk_say "STEP leave1"; try dsimp only) | fail "no step")
  all_goals first
    | (exfalso; omega)
    | exact Say.of ⟨_, _, rfl, by simp only [Array.size_setIfInBounds, Array.size_replicate]; decide⟩
set_option maxHeartbeats 4000000 in
theorem put_whole_d (n : Int) (t u : Tok) (h0 : 0 ≤ n) (h1 : n < 4294967296) : SpecP PySem.Challenge.rw_pf0271_01.row.prog hd.heap_39 133 [.int n t, .int 4 u] [] 1 (BytesOf 4) := by
  walk_at "spec0"
  refine' specP (binds := [(Str.ofString "n", .int n t), (Str.ofString "size", .int 4 u)]) ?b1 ?b2 ?b3 ?b4 ?b5 ?kA ?kF ?kK ?k6 ?k7 ?k8 ?k9 ?kB ?_ ?c2 ?c3 ?c4 ?c5 ?ret
  walk_at "spec side"
  have hz : n.fdiv (2 ^ (8 * 4 : Int).toNat) = 0 := fdiv0 h0 (by have e : (2 : Int) ^ (8 * 4 : Int).toNat = 4294967296 := by decide
                                                                 omega)
  repeat' (first | (k_unfold; (try dsimp only)) | ((with_reducible show wpP _ _ _ _ _ _); first | ((with_reducible show wpP _ _ (callWith _ (Value.ref _) [] _ []) _ _ _); k_dflt (refine' callWithP_K0 (by k_is) (by exact rfl) (by exact rfl) ?_)) | walk1) | (k_end; wrow_close) | ((with_reducible show wpAny _ _ _ _ _ _); first | ((with_reducible show wpAny _ _ (call (Value.type _) [Value.int _ _]) _ _ _); k_dflt (refine' call_bytesN (by first | decide | omega) (by first | decide | omega) ?_)) | ((with_reducible show wpAny _ _ (execs _ _) _ _ (Shared.mk _ _ _ (HAdd.hAdd (HAdd.hAdd (HAdd.hAdd (HAdd.hAdd _ _) _) _) _) _)); refine gen_toks ?_; intro tk9) | ((with_reducible show wpAny _ _ (eval (PySem.Expr.Name _ _) _) _ _ _); k_here; k_dflt (first | (refine' nameX_L (by k_asm) (by rfl) ?_ (by rfl) (by rfl); k_whole) | (refine' nameX_K (by k_asm) (by k_asm) (by k_asm) (by k_is) ?_ (by rfl) (by rfl); k_whole))) | ((with_reducible show wpAny _ _ (callWith _ (Value.ref _) _ _ _) _ _ _); k_here; k_dflt (first | (refine' callWith_K (by k_asm) (by k_is) ?_; k_whole) | (refine' callWith_K0 (by exact Frag.In.keeps (by k_asm) (Fr.keep (by k_asm))) (by k_is) ?_; k_whole)))) | walk1 | (dsimp only; walk1) | (leave1; walk_say "STEP leave1"; try dsimp only) | fail "no step")
  all_goals first
    | (exfalso; omega)
    | exact Say.of ⟨_, _, rfl, by simp only [Array.size_setIfInBounds, Array.size_replicate]; decide⟩
end
-- part T1
theorem anew_T1 : True ∧ True := by
  w_top off
  first | (walk1; all_goals trivial) | exact ⟨trivial, trivial⟩
section
set_option maxHeartbeats 4000000 in
theorem padded_spec (arr : Array UInt8) (k : Int) (t u : Tok) (h0 : arr.size ≤ 30000) (h1 : 1 ≤ k) (h2 : k ≤ 4) : SpecA PySem.Challenge.rw_pf0271_01.row.prog hd.heap_39 190 [.bytes arr t, .int k u] [] 1 (BytesOf (max (arr.size : Int) (4 - k))) := by
  walk_at "spec0"
  refine' specA (binds := [(Str.ofString "payload", .bytes arr t), (Str.ofString "number_size", .int k u)]) ?b1 ?b2 ?b3 ?b4 ?b5 ?kA ?kF ?kK ?k6 ?k7 ?k8 ?k9 ?kB ?_ ?c2 ?c3 ?c4 ?c5 ?ret
  walk_at "spec side"
  k_steps
  all_goals (refine Say.of ⟨_, _, rfl, ?_⟩; omega)
end
-- part T2
theorem anew_T2 : True ∧ True := by
  w_top off
  first | (walk1; all_goals trivial) | exact ⟨trivial, trivial⟩
section
set_option maxHeartbeats 4000000 in
theorem put_ids_spec (a b : Array UInt8) (t u : Tok) (h0 : a.size ≤ 20) (h1 : b.size ≤ 20) : SpecA PySem.Challenge.rw_pf0271_01.row.prog hd.heap_39 155 [.bytes a t, .bytes b u] [] 1 (BytesOf (2 + a.size + b.size)) := by
  walk_at "spec0"
  refine' specA (binds := [(Str.ofString "dcid", .bytes a t), (Str.ofString "scid", .bytes b u)]) ?b1 ?b2 ?b3 ?b4 ?b5 ?kA ?kF ?kK ?k6 ?k7 ?k8 ?k9 ?kB ?_ ?c2 ?c3 ?c4 ?c5 ?ret
  walk_at "spec side"
  k_steps
  all_goals (refine Say.of ⟨_, _, rfl, ?_⟩; omega)
set_option maxHeartbeats 4000000 in
theorem short_head_spec (a : Array UInt8) (k : Int) (t u v z : Tok) (h0 : a.size ≤ 20) (h1 : 1 ≤ k) (h2 : k ≤ 4) : SpecA PySem.Challenge.rw_pf0271_01.row.prog hd.heap_39 197 [.int 0 v, .int 0 z, .bytes a t, .int k u] [] 1 (BytesOf (1 + a.size)) := by
  walk_at "spec0"
  refine' specA (binds := [(Str.ofString "spin", .int 0 v), (Str.ofString "key_phase", .int 0 z), (Str.ofString "dcid", .bytes a t), (Str.ofString "number_size", .int k u)]) ?b1 ?b2 ?b3 ?b4 ?b5 ?kA ?kF ?kK ?k6 ?k7 ?k8 ?k9 ?kB ?_ ?c2 ?c3 ?c4 ?c5 ?ret
  walk_at "spec side"
  k_steps
  all_goals (refine Say.of ⟨_, _, rfl, ?_⟩; omega)
end
-- part T3
theorem anew_T3 : True ∧ True := by
  w_top off
  first | (walk1; all_goals trivial) | exact ⟨trivial, trivial⟩
section
set_option maxHeartbeats 4000000 in
theorem long_first_i (k : Int) (t u : Tok) (h1 : 0 ≤ k) (h2 : k ≤ 3) : SpecA PySem.Challenge.rw_pf0271_01.row.prog hd.heap_39 162 [.str (Str.ofString "initial") t, .int k u] [] 1 (IntOf (192 + k)) := by
  walk_at "spec0"
  refine' specA (binds := [(Str.ofString "kind", .str (Str.ofString "initial") t), (Str.ofString "low_bits", .int k u)]) ?b1 ?b2 ?b3 ?b4 ?b5 ?kA ?kF ?kK ?k6 ?k7 ?k8 ?k9 ?kB ?_ ?c2 ?c3 ?c4 ?c5 ?ret
  walk_at "spec side"
  k_steps
  all_goals exact Say.of (int_ex (by omega))
set_option maxHeartbeats 4000000 in
theorem long_first_h (k : Int) (t u : Tok) (h1 : 0 ≤ k) (h2 : k ≤ 3) : SpecA PySem.Challenge.rw_pf0271_01.row.prog hd.heap_39 162 [.str (Str.ofString "handshake") t, .int k u] [] 1 (IntOf (224 + k)) := by
  walk_at "spec0"
  refine' specA (binds := [(Str.ofString "kind", .str (Str.ofString "handshake") t), (Str.ofString "low_bits", .int k u)]) ?b1 ?b2 ?b3 ?b4 ?b5 ?kA ?kF ?kK ?k6 ?k7 ?k8 ?k9 ?kB ?_ ?c2 ?c3 ?c4 ?c5 ?ret
  walk_at "spec side"
  k_steps
  all_goals exact Say.of (int_ex (by omega))
end
-- part T4
theorem anew_T4 : True ∧ True := by
  w_top off
  first | (walk1; all_goals trivial) | exact ⟨trivial, trivial⟩
section
theorem vsOf_1 (n : Int) (h : vsOf n = 1) : n < 64 := by unfold vsOf at h; (repeat' split at h) <;> omega
theorem vsOf_2 (n : Int) (h : vsOf n = 2) : n < 16384 := by unfold vsOf at h; (repeat' split at h) <;> omega
theorem bitOr_in {x y d c : Int} (e : x = d) (hd : 0 ≤ d) (hy : 0 ≤ y) (h : d + y < c) : 0 ≤ Builtin.bitOr x y ∧ Builtin.bitOr x y < c := by
  subst e
  rw [bitOr_and, bitAnd_pp hd hy]
  have h1 := Nat.and_le_left (n := x.toNat) (m := y.toNat)
  omega
set_option maxHeartbeats 4000000 in
theorem put_varint_a (n : Int) (t : Tok) (h0 : 0 ≤ n) (h1 : n < 1000000) (hk : vsOf n = 1) : SpecP PySem.Challenge.rw_pf0271_01.row.prog hd.heap_39 147 [.int n t, .none] [] 2 (BytesOf 1) := by
  have hs := vsOf_1 n hk
  walk_at "spec0"
  refine' specP (binds := [(Str.ofString "n", .int n t), (Str.ofString "size", .none)]) ?b1 ?b2 ?b3 ?b4 ?b5 ?kA ?kF ?kK ?k6 ?k7 ?k8 ?k9 ?kB ?_ ?c2 ?c3 ?c4 ?c5 ?ret
  walk_at "spec side"
  repeat' (first | (k_unfold; (try dsimp only)) | ((with_reducible show wpP _ _ _ _ _ _); first | ((with_reducible show wpP _ _ (call (Value.ref 133) [Value.int _ _, Value.int 1 _]) _ _ _); k_dflt (refine' SpecP.use (put_whole_a _ _ _ (by exact (bitOr_in (d := 0) (c := 256) (by decide) (by decide) (by omega) (by omega)).1) (by exact (bitOr_in (d := 0) (c := 256) (by decide) (by decide) (by omega) (by omega)).2)) (by k_asm) (by k_asm) (by k_asm) (by k_asm) (by first | exact List.forall_mem_nil _ | exact SubL.mem (by k_subL)) (by k_asm) (by first | exact rfl | assumption) (by ktr_room) (by ktr_units) ?_); intro v' h' tk' F' N' hv'; (try dsimp only); (try k_fold)) | walk1) | (k_end; wrow_close) | ((with_reducible show wpAny _ _ _ _ _ _); first | ((with_reducible show wpAny _ _ (call (Value.ref 140) _) _ _ _); k_dflt (refine' SpecA.use (varint_size_spec _ _ _ (by first | assumption | omega) (by omega) (by assumption)) (by k_asm) (by k_asm) (by k_asm) (by k_asm) (by first | exact List.forall_mem_nil _ | exact SubL.mem (by k_subL)) (by k_asm) (by first | exact rfl | assumption) (by ktr_room) (by ktr_units) ?_); intro v' h' tk' F' N' hv'; (rename IntOf _ _ => hv9; obtain ⟨u9, e9⟩ := hv9; subst e9); (try dsimp only); (try k_fold)) | ((with_reducible show wpAny _ _ (execs _ _) _ _ (Shared.mk _ _ _ (HAdd.hAdd (HAdd.hAdd (HAdd.hAdd (HAdd.hAdd _ _) _) _) _) _)); refine gen_toks ?_; intro tk9) | ((with_reducible show wpAny _ _ (eval (PySem.Expr.Name _ _) _) _ _ _); k_here; k_dflt (first | (refine' nameX_L (by k_asm) (by rfl) ?_ (by rfl) (by rfl); k_whole) | (refine' nameX_K (by k_asm) (by k_asm) (by k_asm) (by k_is) ?_ (by rfl) (by rfl); k_whole))) | ((with_reducible show wpAny _ _ (callWith _ (Value.ref _) _ _ _) _ _ _); k_here; k_dflt (first | (refine' callWith_K (by k_asm) (by k_is) ?_; k_whole) | (refine' callWith_K0 (by exact Frag.In.keeps (by k_asm) (Fr.keep (by k_asm))) (by k_is) ?_; k_whole)))) | walk1 | (dsimp only; walk1) | (leave1; walk_say "STEP leave1"; try dsimp only) | fail "no step")
  all_goals (refine Say.of ?_; assumption)
set_option maxHeartbeats 4000000 in
theorem put_varint_b (n : Int) (t : Tok) (h0 : 0 ≤ n) (h1 : n < 1000000) (hk : vsOf n = 2) : SpecP PySem.Challenge.rw_pf0271_01.row.prog hd.heap_39 147 [.int n t, .none] [] 2 (BytesOf 2) := by
  have hs := vsOf_2 n hk
  walk_at "spec0"
  refine' specP (binds := [(Str.ofString "n", .int n t), (Str.ofString "size", .none)]) ?b1 ?b2 ?b3 ?b4 ?b5 ?kA ?kF ?kK ?k6 ?k7 ?k8 ?k9 ?kB ?_ ?c2 ?c3 ?c4 ?c5 ?ret
  walk_at "spec side"
  repeat' (first | (k_unfold; (try dsimp only)) | ((with_reducible show wpP _ _ _ _ _ _); first | ((with_reducible show wpP _ _ (call (Value.ref 133) [Value.int _ _, Value.int 2 _]) _ _ _); k_dflt (refine' SpecP.use (put_whole_b _ _ _ (by exact (bitOr_in (d := 16384) (c := 65536) (by decide) (by decide) (by omega) (by omega)).1) (by exact (bitOr_in (d := 16384) (c := 65536) (by decide) (by decide) (by omega) (by omega)).2)) (by k_asm) (by k_asm) (by k_asm) (by k_asm) (by first | exact List.forall_mem_nil _ | exact SubL.mem (by k_subL)) (by k_asm) (by first | exact rfl | assumption) (by ktr_room) (by ktr_units) ?_); intro v' h' tk' F' N' hv'; (try dsimp only); (try k_fold)) | ((with_reducible show wpP _ _ (call (Value.ref 133) [Value.int _ _, Value.int 1 _]) _ _ _); k_dflt (refine' SpecP.use (put_whole_a _ _ _ (by exact (bitOr_in (d := 0) (c := 256) (by decide) (by decide) (by omega) (by omega)).1) (by exact (bitOr_in (d := 0) (c := 256) (by decide) (by decide) (by omega) (by omega)).2)) (by k_asm) (by k_asm) (by k_asm) (by k_asm) (by first | exact List.forall_mem_nil _ | exact SubL.mem (by k_subL)) (by k_asm) (by first | exact rfl | assumption) (by ktr_room) (by ktr_units) ?_); intro v' h' tk' F' N' hv'; (try dsimp only); (try k_fold)) | walk1) | (k_end; wrow_close) | ((with_reducible show wpAny _ _ _ _ _ _); first | ((with_reducible show wpAny _ _ (call (Value.ref 140) _) _ _ _); k_dflt (refine' SpecA.use (varint_size_spec _ _ _ (by first | assumption | omega) (by omega) (by assumption)) (by k_asm) (by k_asm) (by k_asm) (by k_asm) (by first | exact List.forall_mem_nil _ | exact SubL.mem (by k_subL)) (by k_asm) (by first | exact rfl | assumption) (by ktr_room) (by ktr_units) ?_); intro v' h' tk' F' N' hv'; (rename IntOf _ _ => hv9; obtain ⟨u9, e9⟩ := hv9; subst e9); (try dsimp only); (try k_fold)) | ((with_reducible show wpAny _ _ (execs _ _) _ _ (Shared.mk _ _ _ (HAdd.hAdd (HAdd.hAdd (HAdd.hAdd (HAdd.hAdd _ _) _) _) _) _)); refine gen_toks ?_; intro tk9) | ((with_reducible show wpAny _ _ (eval (PySem.Expr.Name _ _) _) _ _ _); k_here; k_dflt (first | (refine' nameX_L (by k_asm) (by rfl) ?_ (by rfl) (by rfl); k_whole) | (refine' nameX_K (by k_asm) (by k_asm) (by k_asm) (by k_is) ?_ (by rfl) (by rfl); k_whole))) | ((with_reducible show wpAny _ _ (callWith _ (Value.ref _) _ _ _) _ _ _); k_here; k_dflt (first | (refine' callWith_K (by k_asm) (by k_is) ?_; k_whole) | (refine' callWith_K0 (by exact Frag.In.keeps (by k_asm) (Fr.keep (by k_asm))) (by k_is) ?_; k_whole)))) | walk1 | (dsimp only; walk1) | (leave1; walk_say "STEP leave1"; try dsimp only) | fail "no step")
  all_goals (refine Say.of ?_; assumption)
set_option maxHeartbeats 4000000 in
theorem put_varint_d (n : Int) (t : Tok) (h0 : 0 ≤ n) (h1 : n < 1000000) (hk : vsOf n = 4) : SpecP PySem.Challenge.rw_pf0271_01.row.prog hd.heap_39 147 [.int n t, .none] [] 2 (BytesOf 4) := by
  walk_at "spec0"
  refine' specP (binds := [(Str.ofString "n", .int n t), (Str.ofString "size", .none)]) ?b1 ?b2 ?b3 ?b4 ?b5 ?kA ?kF ?kK ?k6 ?k7 ?k8 ?k9 ?kB ?_ ?c2 ?c3 ?c4 ?c5 ?ret
  walk_at "spec side"
  repeat' (first | (k_unfold; (try dsimp only)) | ((with_reducible show wpP _ _ _ _ _ _); first | ((with_reducible show wpP _ _ (call (Value.ref 133) [Value.int _ _, Value.int 4 _]) _ _ _); k_dflt (refine' SpecP.use (put_whole_d _ _ _ (by exact (bitOr_in (d := 2147483648) (c := 4294967296) (by decide) (by decide) (by omega) (by omega)).1) (by exact (bitOr_in (d := 2147483648) (c := 4294967296) (by decide) (by decide) (by omega) (by omega)).2)) (by k_asm) (by k_asm) (by k_asm) (by k_asm) (by first | exact List.forall_mem_nil _ | exact SubL.mem (by k_subL)) (by k_asm) (by first | exact rfl | assumption) (by ktr_room) (by ktr_units) ?_); intro v' h' tk' F' N' hv'; (try dsimp only); (try k_fold)) | ((with_reducible show wpP _ _ (call (Value.ref 133) [Value.int _ _, Value.int 2 _]) _ _ _); k_dflt (refine' SpecP.use (put_whole_b _ _ _ (by exact (bitOr_in (d := 16384) (c := 65536) (by decide) (by decide) (by omega) (by omega)).1) (by exact (bitOr_in (d := 16384) (c := 65536) (by decide) (by decide) (by omega) (by omega)).2)) (by k_asm) (by k_asm) (by k_asm) (by k_asm) (by first | exact List.forall_mem_nil _ | exact SubL.mem (by k_subL)) (by k_asm) (by first | exact rfl | assumption) (by ktr_room) (by ktr_units) ?_); intro v' h' tk' F' N' hv'; (try dsimp only); (try k_fold)) | ((with_reducible show wpP _ _ (call (Value.ref 133) [Value.int _ _, Value.int 1 _]) _ _ _); k_dflt (refine' SpecP.use (put_whole_a _ _ _ (by exact (bitOr_in (d := 0) (c := 256) (by decide) (by decide) (by omega) (by omega)).1) (by exact (bitOr_in (d := 0) (c := 256) (by decide) (by decide) (by omega) (by omega)).2)) (by k_asm) (by k_asm) (by k_asm) (by k_asm) (by first | exact List.forall_mem_nil _ | exact SubL.mem (by k_subL)) (by k_asm) (by first | exact rfl | assumption) (by ktr_room) (by ktr_units) ?_); intro v' h' tk' F' N' hv'; (try dsimp only); (try k_fold)) | walk1) | (k_end; wrow_close) | ((with_reducible show wpAny _ _ _ _ _ _); first | ((with_reducible show wpAny _ _ (call (Value.ref 140) _) _ _ _); k_dflt (refine' SpecA.use (varint_size_spec _ _ _ (by first | assumption | omega) (by omega) (by assumption)) (by k_asm) (by k_asm) (by k_asm) (by k_asm) (by first | exact List.forall_mem_nil _ | exact SubL.mem (by k_subL)) (by k_asm) (by first | exact rfl | assumption) (by ktr_room) (by ktr_units) ?_); intro v' h' tk' F' N' hv'; (rename IntOf _ _ => hv9; obtain ⟨u9, e9⟩ := hv9; subst e9); (try dsimp only); (try k_fold)) | ((with_reducible show wpAny _ _ (execs _ _) _ _ (Shared.mk _ _ _ (HAdd.hAdd (HAdd.hAdd (HAdd.hAdd (HAdd.hAdd _ _) _) _) _) _)); refine gen_toks ?_; intro tk9) | ((with_reducible show wpAny _ _ (eval (PySem.Expr.Name _ _) _) _ _ _); k_here; k_dflt (first | (refine' nameX_L (by k_asm) (by rfl) ?_ (by rfl) (by rfl); k_whole) | (refine' nameX_K (by k_asm) (by k_asm) (by k_asm) (by k_is) ?_ (by rfl) (by rfl); k_whole))) | ((with_reducible show wpAny _ _ (callWith _ (Value.ref _) _ _ _) _ _ _); k_here; k_dflt (first | (refine' callWith_K (by k_asm) (by k_is) ?_; k_whole) | (refine' callWith_K0 (by exact Frag.In.keeps (by k_asm) (Fr.keep (by k_asm))) (by k_is) ?_; k_whole)))) | walk1 | (dsimp only; walk1) | (leave1; walk_say "STEP leave1"; try dsimp only) | fail "no step")
  all_goals (refine Say.of ?_; assumption)
theorem put_varint_spec (n : Int) (t : Tok) (h0 : 0 ≤ n) (h1 : n < 1000000) : SpecP PySem.Challenge.rw_pf0271_01.row.prog hd.heap_39 147 [.int n t, .none] [] 2 (BytesOf (vsOf n)) := by
  rcases vsOf_cases n with hk | hk | hk
  · rw [hk]; exact put_varint_a n t h0 h1 hk
  · rw [hk]; exact put_varint_b n t h0 h1 hk
  · rw [hk]; exact put_varint_d n t h0 h1 hk
end
-- part T5
theorem anew_T5 : True ∧ True := by
  w_top off
  first | (walk1; all_goals trivial) | exact ⟨trivial, trivial⟩
section
theorem fmod_in {n m c : Int} (e : m = c) (hc : 0 < c) : 0 ≤ n.fmod m ∧ n.fmod m < c := by
  subst e
  exact ⟨Int.fmod_nonneg_of_pos _ hc, Int.fmod_lt_of_pos _ hc⟩
set_option maxHeartbeats 4000000 in
theorem cut_none_a (n : Int) (t : Tok) (h0 : 0 ≤ n) (h1 : n < 1000000) (hk : nsOf (n + 1) = 1) : SpecP PySem.Challenge.rw_pf0271_01.row.prog hd.heap_39 183 [.int n t, .none] [] 2 (BytesOf 1) := by
  walk_at "spec0"
  refine' specP (binds := [(Str.ofString "full", .int n t), (Str.ofString "largest_acked", .none)]) ?b1 ?b2 ?b3 ?b4 ?b5 ?kA ?kF ?kK ?k6 ?k7 ?k8 ?k9 ?kB ?_ ?c2 ?c3 ?c4 ?c5 ?ret
  walk_at "spec side"
  repeat' (first | (k_unfold; (try dsimp only)) | ((with_reducible show wpP _ _ _ _ _ _); first | ((with_reducible show wpP _ _ (call (Value.ref 133) [Value.int _ _, Value.int 1 _]) _ _ _); k_dflt (refine' SpecP.use (put_whole_a _ _ _ (by exact (fmod_in (c := 256) (by decide) (by decide)).1) (by exact (fmod_in (c := 256) (by decide) (by decide)).2)) (by k_asm) (by k_asm) (by k_asm) (by k_asm) (by first | exact List.forall_mem_nil _ | exact SubL.mem (by k_subL)) (by k_asm) (by first | exact rfl | assumption) (by ktr_room) (by ktr_units) ?_); intro v' h' tk' F' N' hv'; (try dsimp only); (try k_fold)) | walk1) | (k_end; wrow_close) | ((with_reducible show wpAny _ _ _ _ _ _); first | ((with_reducible show wpAny _ _ (call (Value.ref 176) [_, Value.none]) _ _ _); k_dflt (refine' SpecA.use (number_size_none _ _ (by omega) (by omega)) (by k_asm) (by k_asm) (by k_asm) (by k_asm) (by first | exact List.forall_mem_nil _ | exact SubL.mem (by k_subL)) (by k_asm) (by first | exact rfl | assumption) (by ktr_room) (by ktr_units) ?_; skip); intro v' h' tk' F' N' hv'; (rename IntOf _ _ => hv9; rename nsOf _ = _ => hk9; rw [hk9] at hv9; obtain ⟨u9, e9⟩ := hv9; subst e9); (try dsimp only); (try k_fold)) | ((with_reducible show wpAny _ _ (execs _ _) _ _ (Shared.mk _ _ _ (HAdd.hAdd (HAdd.hAdd (HAdd.hAdd (HAdd.hAdd _ _) _) _) _) _)); refine gen_toks ?_; intro tk9) | ((with_reducible show wpAny _ _ (eval (PySem.Expr.Name _ _) _) _ _ _); k_here; k_dflt (first | (refine' nameX_L (by k_asm) (by rfl) ?_ (by rfl) (by rfl); k_whole) | (refine' nameX_K (by k_asm) (by k_asm) (by k_asm) (by k_is) ?_ (by rfl) (by rfl); k_whole))) | ((with_reducible show wpAny _ _ (callWith _ (Value.ref _) _ _ _) _ _ _); k_here; k_dflt (first | (refine' callWith_K (by k_asm) (by k_is) ?_; k_whole) | (refine' callWith_K0 (by exact Frag.In.keeps (by k_asm) (Fr.keep (by k_asm))) (by k_is) ?_; k_whole)))) | walk1 | (dsimp only; walk1) | (leave1; walk_say "STEP leave1"; try dsimp only) | fail "no step")
  all_goals (refine Say.of ?_; assumption)
set_option maxHeartbeats 4000000 in
theorem cut_none_b (n : Int) (t : Tok) (h0 : 0 ≤ n) (h1 : n < 1000000) (hk : nsOf (n + 1) = 2) : SpecP PySem.Challenge.rw_pf0271_01.row.prog hd.heap_39 183 [.int n t, .none] [] 2 (BytesOf 2) := by
  walk_at "spec0"
  refine' specP (binds := [(Str.ofString "full", .int n t), (Str.ofString "largest_acked", .none)]) ?b1 ?b2 ?b3 ?b4 ?b5 ?kA ?kF ?kK ?k6 ?k7 ?k8 ?k9 ?kB ?_ ?c2 ?c3 ?c4 ?c5 ?ret
  walk_at "spec side"
  repeat' (first | (k_unfold; (try dsimp only)) | ((with_reducible show wpP _ _ _ _ _ _); first | ((with_reducible show wpP _ _ (call (Value.ref 133) [Value.int _ _, Value.int 2 _]) _ _ _); k_dflt (refine' SpecP.use (put_whole_b _ _ _ (by exact (fmod_in (c := 65536) (by decide) (by decide)).1) (by exact (fmod_in (c := 65536) (by decide) (by decide)).2)) (by k_asm) (by k_asm) (by k_asm) (by k_asm) (by first | exact List.forall_mem_nil _ | exact SubL.mem (by k_subL)) (by k_asm) (by first | exact rfl | assumption) (by ktr_room) (by ktr_units) ?_); intro v' h' tk' F' N' hv'; (try dsimp only); (try k_fold)) | ((with_reducible show wpP _ _ (call (Value.ref 133) [Value.int _ _, Value.int 1 _]) _ _ _); k_dflt (refine' SpecP.use (put_whole_a _ _ _ (by exact (fmod_in (c := 256) (by decide) (by decide)).1) (by exact (fmod_in (c := 256) (by decide) (by decide)).2)) (by k_asm) (by k_asm) (by k_asm) (by k_asm) (by first | exact List.forall_mem_nil _ | exact SubL.mem (by k_subL)) (by k_asm) (by first | exact rfl | assumption) (by ktr_room) (by ktr_units) ?_); intro v' h' tk' F' N' hv'; (try dsimp only); (try k_fold)) | walk1) | (k_end; wrow_close) | ((with_reducible show wpAny _ _ _ _ _ _); first | ((with_reducible show wpAny _ _ (call (Value.ref 176) [_, Value.none]) _ _ _); k_dflt (refine' SpecA.use (number_size_none _ _ (by omega) (by omega)) (by k_asm) (by k_asm) (by k_asm) (by k_asm) (by first | exact List.forall_mem_nil _ | exact SubL.mem (by k_subL)) (by k_asm) (by first | exact rfl | assumption) (by ktr_room) (by ktr_units) ?_; skip); intro v' h' tk' F' N' hv'; (rename IntOf _ _ => hv9; rename nsOf _ = _ => hk9; rw [hk9] at hv9; obtain ⟨u9, e9⟩ := hv9; subst e9); (try dsimp only); (try k_fold)) | ((with_reducible show wpAny _ _ (execs _ _) _ _ (Shared.mk _ _ _ (HAdd.hAdd (HAdd.hAdd (HAdd.hAdd (HAdd.hAdd _ _) _) _) _) _)); refine gen_toks ?_; intro tk9) | ((with_reducible show wpAny _ _ (eval (PySem.Expr.Name _ _) _) _ _ _); k_here; k_dflt (first | (refine' nameX_L (by k_asm) (by rfl) ?_ (by rfl) (by rfl); k_whole) | (refine' nameX_K (by k_asm) (by k_asm) (by k_asm) (by k_is) ?_ (by rfl) (by rfl); k_whole))) | ((with_reducible show wpAny _ _ (callWith _ (Value.ref _) _ _ _) _ _ _); k_here; k_dflt (first | (refine' callWith_K (by k_asm) (by k_is) ?_; k_whole) | (refine' callWith_K0 (by exact Frag.In.keeps (by k_asm) (Fr.keep (by k_asm))) (by k_is) ?_; k_whole)))) | walk1 | (dsimp only; walk1) | (leave1; walk_say "STEP leave1"; try dsimp only) | fail "no step")
  all_goals (refine Say.of ?_; assumption)
set_option maxHeartbeats 4000000 in
theorem cut_none_c (n : Int) (t : Tok) (h0 : 0 ≤ n) (h1 : n < 1000000) (hk : nsOf (n + 1) = 3) : SpecP PySem.Challenge.rw_pf0271_01.row.prog hd.heap_39 183 [.int n t, .none] [] 2 (BytesOf 3) := by
  walk_at "spec0"
  refine' specP (binds := [(Str.ofString "full", .int n t), (Str.ofString "largest_acked", .none)]) ?b1 ?b2 ?b3 ?b4 ?b5 ?kA ?kF ?kK ?k6 ?k7 ?k8 ?k9 ?kB ?_ ?c2 ?c3 ?c4 ?c5 ?ret
  walk_at "spec side"
  repeat' (first | (k_unfold; (try dsimp only)) | ((with_reducible show wpP _ _ _ _ _ _); first | ((with_reducible show wpP _ _ (call (Value.ref 133) [Value.int _ _, Value.int 3 _]) _ _ _); k_dflt (refine' SpecP.use (put_whole_c _ _ _ (by exact (fmod_in (c := 16777216) (by decide) (by decide)).1) (by exact (fmod_in (c := 16777216) (by decide) (by decide)).2)) (by k_asm) (by k_asm) (by k_asm) (by k_asm) (by first | exact List.forall_mem_nil _ | exact SubL.mem (by k_subL)) (by k_asm) (by first | exact rfl | assumption) (by ktr_room) (by ktr_units) ?_); intro v' h' tk' F' N' hv'; (try dsimp only); (try k_fold)) | ((with_reducible show wpP _ _ (call (Value.ref 133) [Value.int _ _, Value.int 2 _]) _ _ _); k_dflt (refine' SpecP.use (put_whole_b _ _ _ (by exact (fmod_in (c := 65536) (by decide) (by decide)).1) (by exact (fmod_in (c := 65536) (by decide) (by decide)).2)) (by k_asm) (by k_asm) (by k_asm) (by k_asm) (by first | exact List.forall_mem_nil _ | exact SubL.mem (by k_subL)) (by k_asm) (by first | exact rfl | assumption) (by ktr_room) (by ktr_units) ?_); intro v' h' tk' F' N' hv'; (try dsimp only); (try k_fold)) | ((with_reducible show wpP _ _ (call (Value.ref 133) [Value.int _ _, Value.int 1 _]) _ _ _); k_dflt (refine' SpecP.use (put_whole_a _ _ _ (by exact (fmod_in (c := 256) (by decide) (by decide)).1) (by exact (fmod_in (c := 256) (by decide) (by decide)).2)) (by k_asm) (by k_asm) (by k_asm) (by k_asm) (by first | exact List.forall_mem_nil _ | exact SubL.mem (by k_subL)) (by k_asm) (by first | exact rfl | assumption) (by ktr_room) (by ktr_units) ?_); intro v' h' tk' F' N' hv'; (try dsimp only); (try k_fold)) | walk1) | (k_end; wrow_close) | ((with_reducible show wpAny _ _ _ _ _ _); first | ((with_reducible show wpAny _ _ (call (Value.ref 176) [_, Value.none]) _ _ _); k_dflt (refine' SpecA.use (number_size_none _ _ (by omega) (by omega)) (by k_asm) (by k_asm) (by k_asm) (by k_asm) (by first | exact List.forall_mem_nil _ | exact SubL.mem (by k_subL)) (by k_asm) (by first | exact rfl | assumption) (by ktr_room) (by ktr_units) ?_; skip); intro v' h' tk' F' N' hv'; (rename IntOf _ _ => hv9; rename nsOf _ = _ => hk9; rw [hk9] at hv9; obtain ⟨u9, e9⟩ := hv9; subst e9); (try dsimp only); (try k_fold)) | ((with_reducible show wpAny _ _ (execs _ _) _ _ (Shared.mk _ _ _ (HAdd.hAdd (HAdd.hAdd (HAdd.hAdd (HAdd.hAdd _ _) _) _) _) _)); refine gen_toks ?_; intro tk9) | ((with_reducible show wpAny _ _ (eval (PySem.Expr.Name _ _) _) _ _ _); k_here; k_dflt (first | (refine' nameX_L (by k_asm) (by rfl) ?_ (by rfl) (by rfl); k_whole) | (refine' nameX_K (by k_asm) (by k_asm) (by k_asm) (by k_is) ?_ (by rfl) (by rfl); k_whole))) | ((with_reducible show wpAny _ _ (callWith _ (Value.ref _) _ _ _) _ _ _); k_here; k_dflt (first | (refine' callWith_K (by k_asm) (by k_is) ?_; k_whole) | (refine' callWith_K0 (by exact Frag.In.keeps (by k_asm) (Fr.keep (by k_asm))) (by k_is) ?_; k_whole)))) | walk1 | (dsimp only; walk1) | (leave1; walk_say "STEP leave1"; try dsimp only) | fail "no step")
  all_goals (refine Say.of ?_; assumption)
set_option maxHeartbeats 4000000 in
theorem cut_none_d (n : Int) (t : Tok) (h0 : 0 ≤ n) (h1 : n < 1000000) (hk : nsOf (n + 1) = 4) : SpecP PySem.Challenge.rw_pf0271_01.row.prog hd.heap_39 183 [.int n t, .none] [] 2 (BytesOf 4) := by
  walk_at "spec0"
  refine' specP (binds := [(Str.ofString "full", .int n t), (Str.ofString "largest_acked", .none)]) ?b1 ?b2 ?b3 ?b4 ?b5 ?kA ?kF ?kK ?k6 ?k7 ?k8 ?k9 ?kB ?_ ?c2 ?c3 ?c4 ?c5 ?ret
  walk_at "spec side"
  repeat' (first | (k_unfold; (try dsimp only)) | ((with_reducible show wpP _ _ _ _ _ _); first | ((with_reducible show wpP _ _ (call (Value.ref 133) [Value.int _ _, Value.int 4 _]) _ _ _); k_dflt (refine' SpecP.use (put_whole_d _ _ _ (by exact (fmod_in (c := 4294967296) (by decide) (by decide)).1) (by exact (fmod_in (c := 4294967296) (by decide) (by decide)).2)) (by k_asm) (by k_asm) (by k_asm) (by k_asm) (by first | exact List.forall_mem_nil _ | exact SubL.mem (by k_subL)) (by k_asm) (by first | exact rfl | assumption) (by ktr_room) (by ktr_units) ?_); intro v' h' tk' F' N' hv'; (try dsimp only); (try k_fold)) | ((with_reducible show wpP _ _ (call (Value.ref 133) [Value.int _ _, Value.int 3 _]) _ _ _); k_dflt (refine' SpecP.use (put_whole_c _ _ _ (by exact (fmod_in (c := 16777216) (by decide) (by decide)).1) (by exact (fmod_in (c := 16777216) (by decide) (by decide)).2)) (by k_asm) (by k_asm) (by k_asm) (by k_asm) (by first | exact List.forall_mem_nil _ | exact SubL.mem (by k_subL)) (by k_asm) (by first | exact rfl | assumption) (by ktr_room) (by ktr_units) ?_); intro v' h' tk' F' N' hv'; (try dsimp only); (try k_fold)) | ((with_reducible show wpP _ _ (call (Value.ref 133) [Value.int _ _, Value.int 2 _]) _ _ _); k_dflt (refine' SpecP.use (put_whole_b _ _ _ (by exact (fmod_in (c := 65536) (by decide) (by decide)).1) (by exact (fmod_in (c := 65536) (by decide) (by decide)).2)) (by k_asm) (by k_asm) (by k_asm) (by k_asm) (by first | exact List.forall_mem_nil _ | exact SubL.mem (by k_subL)) (by k_asm) (by first | exact rfl | assumption) (by ktr_room) (by ktr_units) ?_); intro v' h' tk' F' N' hv'; (try dsimp only); (try k_fold)) | ((with_reducible show wpP _ _ (call (Value.ref 133) [Value.int _ _, Value.int 1 _]) _ _ _); k_dflt (refine' SpecP.use (put_whole_a _ _ _ (by exact (fmod_in (c := 256) (by decide) (by decide)).1) (by exact (fmod_in (c := 256) (by decide) (by decide)).2)) (by k_asm) (by k_asm) (by k_asm) (by k_asm) (by first | exact List.forall_mem_nil _ | exact SubL.mem (by k_subL)) (by k_asm) (by first | exact rfl | assumption) (by ktr_room) (by ktr_units) ?_); intro v' h' tk' F' N' hv'; (try dsimp only); (try k_fold)) | walk1) | (k_end; wrow_close) | ((with_reducible show wpAny _ _ _ _ _ _); first | ((with_reducible show wpAny _ _ (call (Value.ref 176) [_, Value.none]) _ _ _); k_dflt (refine' SpecA.use (number_size_none _ _ (by omega) (by omega)) (by k_asm) (by k_asm) (by k_asm) (by k_asm) (by first | exact List.forall_mem_nil _ | exact SubL.mem (by k_subL)) (by k_asm) (by first | exact rfl | assumption) (by ktr_room) (by ktr_units) ?_; skip); intro v' h' tk' F' N' hv'; (rename IntOf _ _ => hv9; rename nsOf _ = _ => hk9; rw [hk9] at hv9; obtain ⟨u9, e9⟩ := hv9; subst e9); (try dsimp only); (try k_fold)) | ((with_reducible show wpAny _ _ (execs _ _) _ _ (Shared.mk _ _ _ (HAdd.hAdd (HAdd.hAdd (HAdd.hAdd (HAdd.hAdd _ _) _) _) _) _)); refine gen_toks ?_; intro tk9) | ((with_reducible show wpAny _ _ (eval (PySem.Expr.Name _ _) _) _ _ _); k_here; k_dflt (first | (refine' nameX_L (by k_asm) (by rfl) ?_ (by rfl) (by rfl); k_whole) | (refine' nameX_K (by k_asm) (by k_asm) (by k_asm) (by k_is) ?_ (by rfl) (by rfl); k_whole))) | ((with_reducible show wpAny _ _ (callWith _ (Value.ref _) _ _ _) _ _ _); k_here; k_dflt (first | (refine' callWith_K (by k_asm) (by k_is) ?_; k_whole) | (refine' callWith_K0 (by exact Frag.In.keeps (by k_asm) (Fr.keep (by k_asm))) (by k_is) ?_; k_whole)))) | walk1 | (dsimp only; walk1) | (leave1; walk_say "STEP leave1"; try dsimp only) | fail "no step")
  all_goals (refine Say.of ?_; assumption)
theorem cut_none (n : Int) (t : Tok) (h0 : 0 ≤ n) (h1 : n < 1000000) : SpecP PySem.Challenge.rw_pf0271_01.row.prog hd.heap_39 183 [.int n t, .none] [] 2 (BytesOf (nsOf (n + 1))) := by
  rcases nsOf_cases (n + 1) with hk | hk | hk | hk
  · rw [hk]; exact cut_none_a n t h0 h1 hk
  · rw [hk]; exact cut_none_b n t h0 h1 hk
  · rw [hk]; exact cut_none_c n t h0 h1 hk
  · rw [hk]; exact cut_none_d n t h0 h1 hk
set_option maxHeartbeats 4000000 in
theorem cut_int_a (n j : Int) (t u : Tok) (h0 : 0 ≤ n - j) (h1 : n - j < 1000000) (h2 : 0 ≤ j) (h3 : j < 1000) (hk : nsOf (n - j) = 1) : SpecP PySem.Challenge.rw_pf0271_01.row.prog hd.heap_39 183 [.int n t, .int j u] [] 2 (BytesOf 1) := by
  walk_at "spec0"
  refine' specP (binds := [(Str.ofString "full", .int n t), (Str.ofString "largest_acked", .int j u)]) ?b1 ?b2 ?b3 ?b4 ?b5 ?kA ?kF ?kK ?k6 ?k7 ?k8 ?k9 ?kB ?_ ?c2 ?c3 ?c4 ?c5 ?ret
  walk_at "spec side"
  repeat' (first | (k_unfold; (try dsimp only)) | ((with_reducible show wpP _ _ _ _ _ _); first | ((with_reducible show wpP _ _ (call (Value.ref 133) [Value.int _ _, Value.int 1 _]) _ _ _); k_dflt (refine' SpecP.use (put_whole_a _ _ _ (by exact (fmod_in (c := 256) (by decide) (by decide)).1) (by exact (fmod_in (c := 256) (by decide) (by decide)).2)) (by k_asm) (by k_asm) (by k_asm) (by k_asm) (by first | exact List.forall_mem_nil _ | exact SubL.mem (by k_subL)) (by k_asm) (by first | exact rfl | assumption) (by ktr_room) (by ktr_units) ?_); intro v' h' tk' F' N' hv'; (try dsimp only); (try k_fold)) | ((with_reducible show wpP _ _ (call (Value.ref 133) [Value.int _ _, Value.int 4 _]) _ _ _); k_dflt (refine' SpecP.use (put_whole_d _ _ _ (by exact (fmod_in (c := 4294967296) (by decide) (by decide)).1) (by exact (fmod_in (c := 4294967296) (by decide) (by decide)).2)) (by k_asm) (by k_asm) (by k_asm) (by k_asm) (by first | exact List.forall_mem_nil _ | exact SubL.mem (by k_subL)) (by k_asm) (by first | exact rfl | assumption) (by ktr_room) (by ktr_units) ?_); intro v' h' tk' F' N' hv'; (try dsimp only); (try k_fold)) | ((with_reducible show wpP _ _ (call (Value.ref 133) [Value.int _ _, Value.int 3 _]) _ _ _); k_dflt (refine' SpecP.use (put_whole_c _ _ _ (by exact (fmod_in (c := 16777216) (by decide) (by decide)).1) (by exact (fmod_in (c := 16777216) (by decide) (by decide)).2)) (by k_asm) (by k_asm) (by k_asm) (by k_asm) (by first | exact List.forall_mem_nil _ | exact SubL.mem (by k_subL)) (by k_asm) (by first | exact rfl | assumption) (by ktr_room) (by ktr_units) ?_); intro v' h' tk' F' N' hv'; (try dsimp only); (try k_fold)) | ((with_reducible show wpP _ _ (call (Value.ref 133) [Value.int _ _, Value.int 2 _]) _ _ _); k_dflt (refine' SpecP.use (put_whole_b _ _ _ (by exact (fmod_in (c := 65536) (by decide) (by decide)).1) (by exact (fmod_in (c := 65536) (by decide) (by decide)).2)) (by k_asm) (by k_asm) (by k_asm) (by k_asm) (by first | exact List.forall_mem_nil _ | exact SubL.mem (by k_subL)) (by k_asm) (by first | exact rfl | assumption) (by ktr_room) (by ktr_units) ?_); intro v' h' tk' F' N' hv'; (try dsimp only); (try k_fold)) | ((with_reducible show wpP _ _ (call (Value.ref 133) [Value.int _ _, Value.int 1 _]) _ _ _); k_dflt (refine' SpecP.use (put_whole_a _ _ _ (by exact (fmod_in (c := 256) (by decide) (by decide)).1) (by exact (fmod_in (c := 256) (by decide) (by decide)).2)) (by k_asm) (by k_asm) (by k_asm) (by k_asm) (by first | exact List.forall_mem_nil _ | exact SubL.mem (by k_subL)) (by k_asm) (by first | exact rfl | assumption) (by ktr_room) (by ktr_units) ?_); intro v' h' tk' F' N' hv'; (try dsimp only); (try k_fold)) | walk1) | (k_end; wrow_close) | ((with_reducible show wpAny _ _ _ _ _ _); first | ((with_reducible show wpAny _ _ (call (Value.ref 176) [_, Value.int _ _]) _ _ _); k_dflt (refine' SpecA.use (number_size_int _ _ _ _ (by omega) (by omega) (by omega) (by omega)) (by k_asm) (by k_asm) (by k_asm) (by k_asm) (by first | exact List.forall_mem_nil _ | exact SubL.mem (by k_subL)) (by k_asm) (by first | exact rfl | assumption) (by ktr_room) (by ktr_units) ?_; skip); intro v' h' tk' F' N' hv'; (rename IntOf _ _ => hv9; rename nsOf _ = _ => hk9; rw [hk9] at hv9; obtain ⟨u9, e9⟩ := hv9; subst e9); (try dsimp only); (try k_fold)) | ((with_reducible show wpAny _ _ (call (Value.ref 176) [_, Value.none]) _ _ _); k_dflt (refine' SpecA.use (number_size_none _ _ (by omega) (by omega)) (by k_asm) (by k_asm) (by k_asm) (by k_asm) (by first | exact List.forall_mem_nil _ | exact SubL.mem (by k_subL)) (by k_asm) (by first | exact rfl | assumption) (by ktr_room) (by ktr_units) ?_; skip); intro v' h' tk' F' N' hv'; (rename IntOf _ _ => hv9; rename nsOf _ = _ => hk9; rw [hk9] at hv9; obtain ⟨u9, e9⟩ := hv9; subst e9); (try dsimp only); (try k_fold)) | ((with_reducible show wpAny _ _ (execs _ _) _ _ (Shared.mk _ _ _ (HAdd.hAdd (HAdd.hAdd (HAdd.hAdd (HAdd.hAdd _ _) _) _) _) _)); refine gen_toks ?_; intro tk9) | ((with_reducible show wpAny _ _ (eval (PySem.Expr.Name _ _) _) _ _ _); k_here; k_dflt (first | (refine' nameX_L (by k_asm) (by rfl) ?_ (by rfl) (by rfl); k_whole) | (refine' nameX_K (by k_asm) (by k_asm) (by k_asm) (by k_is) ?_ (by rfl) (by rfl); k_whole))) | ((with_reducible show wpAny _ _ (callWith _ (Value.ref _) _ _ _) _ _ _); k_here; k_dflt (first | (refine' callWith_K (by k_asm) (by k_is) ?_; k_whole) | (refine' callWith_K0 (by exact Frag.In.keeps (by k_asm) (Fr.keep (by k_asm))) (by k_is) ?_; k_whole)))) | walk1 | (dsimp only; walk1) | (leave1; walk_say "STEP leave1"; try dsimp only) | fail "no step")
  all_goals (refine Say.of ?_; assumption)
set_option maxHeartbeats 4000000 in
theorem cut_int_b (n j : Int) (t u : Tok) (h0 : 0 ≤ n - j) (h1 : n - j < 1000000) (h2 : 0 ≤ j) (h3 : j < 1000) (hk : nsOf (n - j) = 2) : SpecP PySem.Challenge.rw_pf0271_01.row.prog hd.heap_39 183 [.int n t, .int j u] [] 2 (BytesOf 2) := by
  walk_at "spec0"
  refine' specP (binds := [(Str.ofString "full", .int n t), (Str.ofString "largest_acked", .int j u)]) ?b1 ?b2 ?b3 ?b4 ?b5 ?kA ?kF ?kK ?k6 ?k7 ?k8 ?k9 ?kB ?_ ?c2 ?c3 ?c4 ?c5 ?ret
  walk_at "spec side"
  repeat' (first | (k_unfold; (try dsimp only)) | ((with_reducible show wpP _ _ _ _ _ _); first | ((with_reducible show wpP _ _ (call (Value.ref 133) [Value.int _ _, Value.int 2 _]) _ _ _); k_dflt (refine' SpecP.use (put_whole_b _ _ _ (by exact (fmod_in (c := 65536) (by decide) (by decide)).1) (by exact (fmod_in (c := 65536) (by decide) (by decide)).2)) (by k_asm) (by k_asm) (by k_asm) (by k_asm) (by first | exact List.forall_mem_nil _ | exact SubL.mem (by k_subL)) (by k_asm) (by first | exact rfl | assumption) (by ktr_room) (by ktr_units) ?_); intro v' h' tk' F' N' hv'; (try dsimp only); (try k_fold)) | ((with_reducible show wpP _ _ (call (Value.ref 133) [Value.int _ _, Value.int 1 _]) _ _ _); k_dflt (refine' SpecP.use (put_whole_a _ _ _ (by exact (fmod_in (c := 256) (by decide) (by decide)).1) (by exact (fmod_in (c := 256) (by decide) (by decide)).2)) (by k_asm) (by k_asm) (by k_asm) (by k_asm) (by first | exact List.forall_mem_nil _ | exact SubL.mem (by k_subL)) (by k_asm) (by first | exact rfl | assumption) (by ktr_room) (by ktr_units) ?_); intro v' h' tk' F' N' hv'; (try dsimp only); (try k_fold)) | ((with_reducible show wpP _ _ (call (Value.ref 133) [Value.int _ _, Value.int 4 _]) _ _ _); k_dflt (refine' SpecP.use (put_whole_d _ _ _ (by exact (fmod_in (c := 4294967296) (by decide) (by decide)).1) (by exact (fmod_in (c := 4294967296) (by decide) (by decide)).2)) (by k_asm) (by k_asm) (by k_asm) (by k_asm) (by first | exact List.forall_mem_nil _ | exact SubL.mem (by k_subL)) (by k_asm) (by first | exact rfl | assumption) (by ktr_room) (by ktr_units) ?_); intro v' h' tk' F' N' hv'; (try dsimp only); (try k_fold)) | ((with_reducible show wpP _ _ (call (Value.ref 133) [Value.int _ _, Value.int 3 _]) _ _ _); k_dflt (refine' SpecP.use (put_whole_c _ _ _ (by exact (fmod_in (c := 16777216) (by decide) (by decide)).1) (by exact (fmod_in (c := 16777216) (by decide) (by decide)).2)) (by k_asm) (by k_asm) (by k_asm) (by k_asm) (by first | exact List.forall_mem_nil _ | exact SubL.mem (by k_subL)) (by k_asm) (by first | exact rfl | assumption) (by ktr_room) (by ktr_units) ?_); intro v' h' tk' F' N' hv'; (try dsimp only); (try k_fold)) | ((with_reducible show wpP _ _ (call (Value.ref 133) [Value.int _ _, Value.int 2 _]) _ _ _); k_dflt (refine' SpecP.use (put_whole_b _ _ _ (by exact (fmod_in (c := 65536) (by decide) (by decide)).1) (by exact (fmod_in (c := 65536) (by decide) (by decide)).2)) (by k_asm) (by k_asm) (by k_asm) (by k_asm) (by first | exact List.forall_mem_nil _ | exact SubL.mem (by k_subL)) (by k_asm) (by first | exact rfl | assumption) (by ktr_room) (by ktr_units) ?_); intro v' h' tk' F' N' hv'; (try dsimp only); (try k_fold)) | ((with_reducible show wpP _ _ (call (Value.ref 133) [Value.int _ _, Value.int 1 _]) _ _ _); k_dflt (refine' SpecP.use (put_whole_a _ _ _ (by exact (fmod_in (c := 256) (by decide) (by decide)).1) (by exact (fmod_in (c := 256) (by decide) (by decide)).2)) (by k_asm) (by k_asm) (by k_asm) (by k_asm) (by first | exact List.forall_mem_nil _ | exact SubL.mem (by k_subL)) (by k_asm) (by first | exact rfl | assumption) (by ktr_room) (by ktr_units) ?_); intro v' h' tk' F' N' hv'; (try dsimp only); (try k_fold)) | walk1) | (k_end; wrow_close) | ((with_reducible show wpAny _ _ _ _ _ _); first | ((with_reducible show wpAny _ _ (call (Value.ref 176) [_, Value.int _ _]) _ _ _); k_dflt (refine' SpecA.use (number_size_int _ _ _ _ (by omega) (by omega) (by omega) (by omega)) (by k_asm) (by k_asm) (by k_asm) (by k_asm) (by first | exact List.forall_mem_nil _ | exact SubL.mem (by k_subL)) (by k_asm) (by first | exact rfl | assumption) (by ktr_room) (by ktr_units) ?_; skip); intro v' h' tk' F' N' hv'; (rename IntOf _ _ => hv9; rename nsOf _ = _ => hk9; rw [hk9] at hv9; obtain ⟨u9, e9⟩ := hv9; subst e9); (try dsimp only); (try k_fold)) | ((with_reducible show wpAny _ _ (call (Value.ref 176) [_, Value.none]) _ _ _); k_dflt (refine' SpecA.use (number_size_none _ _ (by omega) (by omega)) (by k_asm) (by k_asm) (by k_asm) (by k_asm) (by first | exact List.forall_mem_nil _ | exact SubL.mem (by k_subL)) (by k_asm) (by first | exact rfl | assumption) (by ktr_room) (by ktr_units) ?_; skip); intro v' h' tk' F' N' hv'; (rename IntOf _ _ => hv9; rename nsOf _ = _ => hk9; rw [hk9] at hv9; obtain ⟨u9, e9⟩ := hv9; subst e9); (try dsimp only); (try k_fold)) | ((with_reducible show wpAny _ _ (execs _ _) _ _ (Shared.mk _ _ _ (HAdd.hAdd (HAdd.hAdd (HAdd.hAdd (HAdd.hAdd _ _) _) _) _) _)); refine gen_toks ?_; intro tk9) | ((with_reducible show wpAny _ _ (eval (PySem.Expr.Name _ _) _) _ _ _); k_here; k_dflt (first | (refine' nameX_L (by k_asm) (by rfl) ?_ (by rfl) (by rfl); k_whole) | (refine' nameX_K (by k_asm) (by k_asm) (by k_asm) (by k_is) ?_ (by rfl) (by rfl); k_whole))) | ((with_reducible show wpAny _ _ (callWith _ (Value.ref _) _ _ _) _ _ _); k_here; k_dflt (first | (refine' callWith_K (by k_asm) (by k_is) ?_; k_whole) | (refine' callWith_K0 (by exact Frag.In.keeps (by k_asm) (Fr.keep (by k_asm))) (by k_is) ?_; k_whole)))) | walk1 | (dsimp only; walk1) | (leave1; walk_say "STEP leave1"; try dsimp only) | fail "no step")
  all_goals (refine Say.of ?_; assumption)
set_option maxHeartbeats 4000000 in
theorem cut_int_c (n j : Int) (t u : Tok) (h0 : 0 ≤ n - j) (h1 : n - j < 1000000) (h2 : 0 ≤ j) (h3 : j < 1000) (hk : nsOf (n - j) = 3) : SpecP PySem.Challenge.rw_pf0271_01.row.prog hd.heap_39 183 [.int n t, .int j u] [] 2 (BytesOf 3) := by
  walk_at "spec0"
  refine' specP (binds := [(Str.ofString "full", .int n t), (Str.ofString "largest_acked", .int j u)]) ?b1 ?b2 ?b3 ?b4 ?b5 ?kA ?kF ?kK ?k6 ?k7 ?k8 ?k9 ?kB ?_ ?c2 ?c3 ?c4 ?c5 ?ret
  walk_at "spec side"
  repeat' (first | (k_unfold; (try dsimp only)) | ((with_reducible show wpP _ _ _ _ _ _); first | ((with_reducible show wpP _ _ (call (Value.ref 133) [Value.int _ _, Value.int 3 _]) _ _ _); k_dflt (refine' SpecP.use (put_whole_c _ _ _ (by exact (fmod_in (c := 16777216) (by decide) (by decide)).1) (by exact (fmod_in (c := 16777216) (by decide) (by decide)).2)) (by k_asm) (by k_asm) (by k_asm) (by k_asm) (by first | exact List.forall_mem_nil _ | exact SubL.mem (by k_subL)) (by k_asm) (by first | exact rfl | assumption) (by ktr_room) (by ktr_units) ?_); intro v' h' tk' F' N' hv'; (try dsimp only); (try k_fold)) | ((with_reducible show wpP _ _ (call (Value.ref 133) [Value.int _ _, Value.int 2 _]) _ _ _); k_dflt (refine' SpecP.use (put_whole_b _ _ _ (by exact (fmod_in (c := 65536) (by decide) (by decide)).1) (by exact (fmod_in (c := 65536) (by decide) (by decide)).2)) (by k_asm) (by k_asm) (by k_asm) (by k_asm) (by first | exact List.forall_mem_nil _ | exact SubL.mem (by k_subL)) (by k_asm) (by first | exact rfl | assumption) (by ktr_room) (by ktr_units) ?_); intro v' h' tk' F' N' hv'; (try dsimp only); (try k_fold)) | ((with_reducible show wpP _ _ (call (Value.ref 133) [Value.int _ _, Value.int 1 _]) _ _ _); k_dflt (refine' SpecP.use (put_whole_a _ _ _ (by exact (fmod_in (c := 256) (by decide) (by decide)).1) (by exact (fmod_in (c := 256) (by decide) (by decide)).2)) (by k_asm) (by k_asm) (by k_asm) (by k_asm) (by first | exact List.forall_mem_nil _ | exact SubL.mem (by k_subL)) (by k_asm) (by first | exact rfl | assumption) (by ktr_room) (by ktr_units) ?_); intro v' h' tk' F' N' hv'; (try dsimp only); (try k_fold)) | ((with_reducible show wpP _ _ (call (Value.ref 133) [Value.int _ _, Value.int 4 _]) _ _ _); k_dflt (refine' SpecP.use (put_whole_d _ _ _ (by exact (fmod_in (c := 4294967296) (by decide) (by decide)).1) (by exact (fmod_in (c := 4294967296) (by decide) (by decide)).2)) (by k_asm) (by k_asm) (by k_asm) (by k_asm) (by first | exact List.forall_mem_nil _ | exact SubL.mem (by k_subL)) (by k_asm) (by first | exact rfl | assumption) (by ktr_room) (by ktr_units) ?_); intro v' h' tk' F' N' hv'; (try dsimp only); (try k_fold)) | ((with_reducible show wpP _ _ (call (Value.ref 133) [Value.int _ _, Value.int 3 _]) _ _ _); k_dflt (refine' SpecP.use (put_whole_c _ _ _ (by exact (fmod_in (c := 16777216) (by decide) (by decide)).1) (by exact (fmod_in (c := 16777216) (by decide) (by decide)).2)) (by k_asm) (by k_asm) (by k_asm) (by k_asm) (by first | exact List.forall_mem_nil _ | exact SubL.mem (by k_subL)) (by k_asm) (by first | exact rfl | assumption) (by ktr_room) (by ktr_units) ?_); intro v' h' tk' F' N' hv'; (try dsimp only); (try k_fold)) | ((with_reducible show wpP _ _ (call (Value.ref 133) [Value.int _ _, Value.int 2 _]) _ _ _); k_dflt (refine' SpecP.use (put_whole_b _ _ _ (by exact (fmod_in (c := 65536) (by decide) (by decide)).1) (by exact (fmod_in (c := 65536) (by decide) (by decide)).2)) (by k_asm) (by k_asm) (by k_asm) (by k_asm) (by first | exact List.forall_mem_nil _ | exact SubL.mem (by k_subL)) (by k_asm) (by first | exact rfl | assumption) (by ktr_room) (by ktr_units) ?_); intro v' h' tk' F' N' hv'; (try dsimp only); (try k_fold)) | ((with_reducible show wpP _ _ (call (Value.ref 133) [Value.int _ _, Value.int 1 _]) _ _ _); k_dflt (refine' SpecP.use (put_whole_a _ _ _ (by exact (fmod_in (c := 256) (by decide) (by decide)).1) (by exact (fmod_in (c := 256) (by decide) (by decide)).2)) (by k_asm) (by k_asm) (by k_asm) (by k_asm) (by first | exact List.forall_mem_nil _ | exact SubL.mem (by k_subL)) (by k_asm) (by first | exact rfl | assumption) (by ktr_room) (by ktr_units) ?_); intro v' h' tk' F' N' hv'; (try dsimp only); (try k_fold)) | walk1) | (k_end; wrow_close) | ((with_reducible show wpAny _ _ _ _ _ _); first | ((with_reducible show wpAny _ _ (call (Value.ref 176) [_, Value.int _ _]) _ _ _); k_dflt (refine' SpecA.use (number_size_int _ _ _ _ (by omega) (by omega) (by omega) (by omega)) (by k_asm) (by k_asm) (by k_asm) (by k_asm) (by first | exact List.forall_mem_nil _ | exact SubL.mem (by k_subL)) (by k_asm) (by first | exact rfl | assumption) (by ktr_room) (by ktr_units) ?_; skip); intro v' h' tk' F' N' hv'; (rename IntOf _ _ => hv9; rename nsOf _ = _ => hk9; rw [hk9] at hv9; obtain ⟨u9, e9⟩ := hv9; subst e9); (try dsimp only); (try k_fold)) | ((with_reducible show wpAny _ _ (call (Value.ref 176) [_, Value.none]) _ _ _); k_dflt (refine' SpecA.use (number_size_none _ _ (by omega) (by omega)) (by k_asm) (by k_asm) (by k_asm) (by k_asm) (by first | exact List.forall_mem_nil _ | exact SubL.mem (by k_subL)) (by k_asm) (by first | exact rfl | assumption) (by ktr_room) (by ktr_units) ?_; skip); intro v' h' tk' F' N' hv'; (rename IntOf _ _ => hv9; rename nsOf _ = _ => hk9; rw [hk9] at hv9; obtain ⟨u9, e9⟩ := hv9; subst e9); (try dsimp only); (try k_fold)) | ((with_reducible show wpAny _ _ (execs _ _) _ _ (Shared.mk _ _ _ (HAdd.hAdd (HAdd.hAdd (HAdd.hAdd (HAdd.hAdd _ _) _) _) _) _)); refine gen_toks ?_; intro tk9) | ((with_reducible show wpAny _ _ (eval (PySem.Expr.Name _ _) _) _ _ _); k_here; k_dflt (first | (refine' nameX_L (by k_asm) (by rfl) ?_ (by rfl) (by rfl); k_whole) | (refine' nameX_K (by k_asm) (by k_asm) (by k_asm) (by k_is) ?_ (by rfl) (by rfl); k_whole))) | ((with_reducible show wpAny _ _ (callWith _ (Value.ref _) _ _ _) _ _ _); k_here; k_dflt (first | (refine' callWith_K (by k_asm) (by k_is) ?_; k_whole) | (refine' callWith_K0 (by exact Frag.In.keeps (by k_asm) (Fr.keep (by k_asm))) (by k_is) ?_; k_whole)))) | walk1 | (dsimp only; walk1) | (leave1; walk_say "STEP leave1"; try dsimp only) | fail "no step")
  all_goals (refine Say.of ?_; assumption)
set_option maxHeartbeats 4000000 in
theorem cut_int_d (n j : Int) (t u : Tok) (h0 : 0 ≤ n - j) (h1 : n - j < 1000000) (h2 : 0 ≤ j) (h3 : j < 1000) (hk : nsOf (n - j) = 4) : SpecP PySem.Challenge.rw_pf0271_01.row.prog hd.heap_39 183 [.int n t, .int j u] [] 2 (BytesOf 4) := by
  walk_at "spec0"
  refine' specP (binds := [(Str.ofString "full", .int n t), (Str.ofString "largest_acked", .int j u)]) ?b1 ?b2 ?b3 ?b4 ?b5 ?kA ?kF ?kK ?k6 ?k7 ?k8 ?k9 ?kB ?_ ?c2 ?c3 ?c4 ?c5 ?ret
  walk_at "spec side"
  repeat' (first | (k_unfold; (try dsimp only)) | ((with_reducible show wpP _ _ _ _ _ _); first | ((with_reducible show wpP _ _ (call (Value.ref 133) [Value.int _ _, Value.int 4 _]) _ _ _); k_dflt (refine' SpecP.use (put_whole_d _ _ _ (by exact (fmod_in (c := 4294967296) (by decide) (by decide)).1) (by exact (fmod_in (c := 4294967296) (by decide) (by decide)).2)) (by k_asm) (by k_asm) (by k_asm) (by k_asm) (by first | exact List.forall_mem_nil _ | exact SubL.mem (by k_subL)) (by k_asm) (by first | exact rfl | assumption) (by ktr_room) (by ktr_units) ?_); intro v' h' tk' F' N' hv'; (try dsimp only); (try k_fold)) | ((with_reducible show wpP _ _ (call (Value.ref 133) [Value.int _ _, Value.int 3 _]) _ _ _); k_dflt (refine' SpecP.use (put_whole_c _ _ _ (by exact (fmod_in (c := 16777216) (by decide) (by decide)).1) (by exact (fmod_in (c := 16777216) (by decide) (by decide)).2)) (by k_asm) (by k_asm) (by k_asm) (by k_asm) (by first | exact List.forall_mem_nil _ | exact SubL.mem (by k_subL)) (by k_asm) (by first | exact rfl | assumption) (by ktr_room) (by ktr_units) ?_); intro v' h' tk' F' N' hv'; (try dsimp only); (try k_fold)) | ((with_reducible show wpP _ _ (call (Value.ref 133) [Value.int _ _, Value.int 2 _]) _ _ _); k_dflt (refine' SpecP.use (put_whole_b _ _ _ (by exact (fmod_in (c := 65536) (by decide) (by decide)).1) (by exact (fmod_in (c := 65536) (by decide) (by decide)).2)) (by k_asm) (by k_asm) (by k_asm) (by k_asm) (by first | exact List.forall_mem_nil _ | exact SubL.mem (by k_subL)) (by k_asm) (by first | exact rfl | assumption) (by ktr_room) (by ktr_units) ?_); intro v' h' tk' F' N' hv'; (try dsimp only); (try k_fold)) | ((with_reducible show wpP _ _ (call (Value.ref 133) [Value.int _ _, Value.int 1 _]) _ _ _); k_dflt (refine' SpecP.use (put_whole_a _ _ _ (by exact (fmod_in (c := 256) (by decide) (by decide)).1) (by exact (fmod_in (c := 256) (by decide) (by decide)).2)) (by k_asm) (by k_asm) (by k_asm) (by k_asm) (by first | exact List.forall_mem_nil _ | exact SubL.mem (by k_subL)) (by k_asm) (by first | exact rfl | assumption) (by ktr_room) (by ktr_units) ?_); intro v' h' tk' F' N' hv'; (try dsimp only); (try k_fold)) | ((with_reducible show wpP _ _ (call (Value.ref 133) [Value.int _ _, Value.int 4 _]) _ _ _); k_dflt (refine' SpecP.use (put_whole_d _ _ _ (by exact (fmod_in (c := 4294967296) (by decide) (by decide)).1) (by exact (fmod_in (c := 4294967296) (by decide) (by decide)).2)) (by k_asm) (by k_asm) (by k_asm) (by k_asm) (by first | exact List.forall_mem_nil _ | exact SubL.mem (by k_subL)) (by k_asm) (by first | exact rfl | assumption) (by ktr_room) (by ktr_units) ?_); intro v' h' tk' F' N' hv'; (try dsimp only); (try k_fold)) | ((with_reducible show wpP _ _ (call (Value.ref 133) [Value.int _ _, Value.int 3 _]) _ _ _); k_dflt (refine' SpecP.use (put_whole_c _ _ _ (by exact (fmod_in (c := 16777216) (by decide) (by decide)).1) (by exact (fmod_in (c := 16777216) (by decide) (by decide)).2)) (by k_asm) (by k_asm) (by k_asm) (by k_asm) (by first | exact List.forall_mem_nil _ | exact SubL.mem (by k_subL)) (by k_asm) (by first | exact rfl | assumption) (by ktr_room) (by ktr_units) ?_); intro v' h' tk' F' N' hv'; (try dsimp only); (try k_fold)) | ((with_reducible show wpP _ _ (call (Value.ref 133) [Value.int _ _, Value.int 2 _]) _ _ _); k_dflt (refine' SpecP.use (put_whole_b _ _ _ (by exact (fmod_in (c := 65536) (by decide) (by decide)).1) (by exact (fmod_in (c := 65536) (by decide) (by decide)).2)) (by k_asm) (by k_asm) (by k_asm) (by k_asm) (by first | exact List.forall_mem_nil _ | exact SubL.mem (by k_subL)) (by k_asm) (by first | exact rfl | assumption) (by ktr_room) (by ktr_units) ?_); intro v' h' tk' F' N' hv'; (try dsimp only); (try k_fold)) | ((with_reducible show wpP _ _ (call (Value.ref 133) [Value.int _ _, Value.int 1 _]) _ _ _); k_dflt (refine' SpecP.use (put_whole_a _ _ _ (by exact (fmod_in (c := 256) (by decide) (by decide)).1) (by exact (fmod_in (c := 256) (by decide) (by decide)).2)) (by k_asm) (by k_asm) (by k_asm) (by k_asm) (by first | exact List.forall_mem_nil _ | exact SubL.mem (by k_subL)) (by k_asm) (by first | exact rfl | assumption) (by ktr_room) (by ktr_units) ?_); intro v' h' tk' F' N' hv'; (try dsimp only); (try k_fold)) | walk1) | (k_end; wrow_close) | ((with_reducible show wpAny _ _ _ _ _ _); first | ((with_reducible show wpAny _ _ (call (Value.ref 176) [_, Value.int _ _]) _ _ _); k_dflt (refine' SpecA.use (number_size_int _ _ _ _ (by omega) (by omega) (by omega) (by omega)) (by k_asm) (by k_asm) (by k_asm) (by k_asm) (by first | exact List.forall_mem_nil _ | exact SubL.mem (by k_subL)) (by k_asm) (by first | exact rfl | assumption) (by ktr_room) (by ktr_units) ?_; skip); intro v' h' tk' F' N' hv'; (rename IntOf _ _ => hv9; rename nsOf _ = _ => hk9; rw [hk9] at hv9; obtain ⟨u9, e9⟩ := hv9; subst e9); (try dsimp only); (try k_fold)) | ((with_reducible show wpAny _ _ (call (Value.ref 176) [_, Value.none]) _ _ _); k_dflt (refine' SpecA.use (number_size_none _ _ (by omega) (by omega)) (by k_asm) (by k_asm) (by k_asm) (by k_asm) (by first | exact List.forall_mem_nil _ | exact SubL.mem (by k_subL)) (by k_asm) (by first | exact rfl | assumption) (by ktr_room) (by ktr_units) ?_; skip); intro v' h' tk' F' N' hv'; (rename IntOf _ _ => hv9; rename nsOf _ = _ => hk9; rw [hk9] at hv9; obtain ⟨u9, e9⟩ := hv9; subst e9); (try dsimp only); (try k_fold)) | ((with_reducible show wpAny _ _ (execs _ _) _ _ (Shared.mk _ _ _ (HAdd.hAdd (HAdd.hAdd (HAdd.hAdd (HAdd.hAdd _ _) _) _) _) _)); refine gen_toks ?_; intro tk9) | ((with_reducible show wpAny _ _ (eval (PySem.Expr.Name _ _) _) _ _ _); k_here; k_dflt (first | (refine' nameX_L (by k_asm) (by rfl) ?_ (by rfl) (by rfl); k_whole) | (refine' nameX_K (by k_asm) (by k_asm) (by k_asm) (by k_is) ?_ (by rfl) (by rfl); k_whole))) | ((with_reducible show wpAny _ _ (callWith _ (Value.ref _) _ _ _) _ _ _); k_here; k_dflt (first | (refine' callWith_K (by k_asm) (by k_is) ?_; k_whole) | (refine' callWith_K0 (by exact Frag.In.keeps (by k_asm) (Fr.keep (by k_asm))) (by k_is) ?_; k_whole)))) | walk1 | (dsimp only; walk1) | (leave1; walk_say "STEP leave1"; try dsimp only) | fail "no step")
  all_goals (refine Say.of ?_; assumption)
theorem cut_int (n j : Int) (t u : Tok) (h0 : 0 ≤ n - j) (h1 : n - j < 1000000) (h2 : 0 ≤ j) (h3 : j < 1000) : SpecP PySem.Challenge.rw_pf0271_01.row.prog hd.heap_39 183 [.int n t, .int j u] [] 2 (BytesOf (nsOf (n - j))) := by
  rcases nsOf_cases (n - j) with hk | hk | hk | hk
  · rw [hk]; exact cut_int_a n j t u h0 h1 h2 h3 hk
  · rw [hk]; exact cut_int_b n j t u h0 h1 h2 h3 hk
  · rw [hk]; exact cut_int_c n j t u h0 h1 h2 h3 hk
  · rw [hk]; exact cut_int_d n j t u h0 h1 h2 h3 hk
end
-- part T6
theorem anew_T6 : True ∧ True := by
  w_top off
  first | (walk1; all_goals trivial) | exact ⟨trivial, trivial⟩
section
theorem vsOf_0 : vsOf 0 = 1 := by decide
set_option maxHeartbeats 4000000 in
theorem long_head_i (d sc tk : Array UInt8) (rest k : Int) (t0 t1 t2 t3 t4 t5 t6 : Tok) (h1 : d.size ≤ 20) (h2 : sc.size ≤ 20) (h3 : tk.size ≤ 1000) (h4 : 1 ≤ k) (h5 : k ≤ 4) (h6 : 0 ≤ rest) (h7 : rest < 1000000) :
    SpecP PySem.Challenge.rw_pf0271_01.row.prog hd.heap_39 169 [.str (Str.ofString "initial") t0, .int 1 t1, .bytes d t2, .bytes sc t3, .bytes tk t4, .int rest t5, .int k t6] [] 3 (BytesOf (7 + d.size + sc.size + vsOf tk.size + tk.size + vsOf rest)) := by
  walk_at "spec0"
  refine' specP (binds := [(Str.ofString "kind", .str (Str.ofString "initial") t0), (Str.ofString "version", .int 1 t1), (Str.ofString "dcid", .bytes d t2), (Str.ofString "scid", .bytes sc t3), (Str.ofString "token", .bytes tk t4), (Str.ofString "rest_size", .int rest t5), (Str.ofString "number_size", .int k t6)]) ?b1 ?b2 ?b3 ?b4 ?b5 ?kA ?kF ?kK ?k6 ?k7 ?k8 ?k9 ?kB ?_ ?c2 ?c3 ?c4 ?c5 ?ret
  walk_at "spec side"
  have hvr := vsOf_bounds rest
  have hvt := vsOf_bounds tk.size
  repeat' (first | (k_unfold; (try dsimp only)) | ((with_reducible show wpP _ _ _ _ _ _); first | ((with_reducible show wpP _ _ (call (Value.ref 147) _) _ _ _); k_dflt (refine' SpecP.use (put_varint_spec _ _ (by first | decide | omega) (by first | decide | omega)) (by k_asm) (by k_asm) (by k_asm) (by k_asm) (by first | exact List.forall_mem_nil _ | exact SubL.mem (by k_subL)) (by k_asm) (by first | exact rfl | assumption) (by ktr_room) (by ktr_units) ?_; skip; intro v' h' tk' F' N' hv'; (rename BytesOf _ _ => hv9; obtain ⟨d9, u9, e9, hd9⟩ := hv9; subst e9); (try dsimp only)); (try k_fold)) | ((with_reducible show wpP _ _ (call (Value.ref 133) [Value.int _ _, Value.int 4 _]) _ _ _); k_dflt (refine' SpecP.use (put_whole_d _ _ _ (by first | decide | omega) (by first | decide | omega)) (by k_asm) (by k_asm) (by k_asm) (by k_asm) (by first | exact List.forall_mem_nil _ | exact SubL.mem (by k_subL)) (by k_asm) (by first | exact rfl | assumption) (by ktr_room) (by ktr_units) ?_; skip; intro v' h' tk' F' N' hv'; (rename BytesOf _ _ => hv9; obtain ⟨d9, u9, e9, hd9⟩ := hv9; subst e9); (try dsimp only)); (try k_fold)) | walk1) | (k_end; wrow_close) | ((with_reducible show wpAny _ _ _ _ _ _); first | ((with_reducible show wpAny _ _ (call (Value.ref 155) _) _ _ _); k_dflt (refine' SpecA.use (put_ids_spec _ _ _ _ (by first | decide | omega) (by first | decide | omega)) (by k_asm) (by k_asm) (by k_asm) (by k_asm) (by first | exact List.forall_mem_nil _ | exact SubL.mem (by k_subL)) (by k_asm) (by first | exact rfl | assumption) (by ktr_room) (by ktr_units) ?_; skip; intro v' h' tk' F' N' hv'; (rename BytesOf _ _ => hv9; obtain ⟨d9, u9, e9, hd9⟩ := hv9; subst e9); (try dsimp only)); (try k_fold)) | ((with_reducible show wpAny _ _ (call (Value.ref 162) [Value.str (Str.ofString "handshake") _, Value.int _ _]) _ _ _); k_dflt (refine' SpecA.use (long_first_h _ _ _ (by first | decide | omega) (by first | decide | omega)) (by k_asm) (by k_asm) (by k_asm) (by k_asm) (by first | exact List.forall_mem_nil _ | exact SubL.mem (by k_subL)) (by k_asm) (by first | exact rfl | assumption) (by ktr_room) (by ktr_units) ?_; skip; intro v' h' tk' F' N' hv'; (rename IntOf _ _ => hv9; obtain ⟨u9, e9⟩ := hv9; subst e9); (try dsimp only)); (try k_fold)) | ((with_reducible show wpAny _ _ (call (Value.ref 162) [Value.str (Str.ofString "initial") _, Value.int _ _]) _ _ _); k_dflt (refine' SpecA.use (long_first_i _ _ _ (by first | decide | omega) (by first | decide | omega)) (by k_asm) (by k_asm) (by k_asm) (by k_asm) (by first | exact List.forall_mem_nil _ | exact SubL.mem (by k_subL)) (by k_asm) (by first | exact rfl | assumption) (by ktr_room) (by ktr_units) ?_; skip; intro v' h' tk' F' N' hv'; (rename IntOf _ _ => hv9; obtain ⟨u9, e9⟩ := hv9; subst e9); (try dsimp only)); (try k_fold)) | ((with_reducible show wpAny _ _ (execs _ _) _ _ (Shared.mk _ _ _ (HAdd.hAdd (HAdd.hAdd (HAdd.hAdd (HAdd.hAdd _ _) _) _) _) _)); refine gen_toks ?_; intro tk9) | ((with_reducible show wpAny _ _ (eval (PySem.Expr.Name _ _) _) _ _ _); k_here; k_dflt (first | (refine' nameX_L (by k_asm) (by rfl) ?_ (by rfl) (by rfl); k_whole) | (refine' nameX_K (by k_asm) (by k_asm) (by k_asm) (by k_is) ?_ (by rfl) (by rfl); k_whole))) | ((with_reducible show wpAny _ _ (callWith _ (Value.ref _) _ _ _) _ _ _); k_here; k_dflt (first | (refine' callWith_K (by k_asm) (by k_is) ?_; k_whole) | (refine' callWith_K0 (by exact Frag.In.keeps (by k_asm) (Fr.keep (by k_asm))) (by k_is) ?_; k_whole)))) | walk1 | (dsimp only; walk1) | (leave1; walk_say "STEP leave1"; try dsimp only) | fail "no step")
  all_goals first | (refine Say.of ⟨_, _, rfl, ?_⟩; omega) | (set_option pp.maxSteps 400 in trace_state)
  all_goals w_report
set_option maxHeartbeats 4000000 in
theorem long_head_h (d sc tk : Array UInt8) (rest k : Int) (t0 t1 t2 t3 t4 t5 t6 : Tok) (h1 : d.size ≤ 20) (h2 : sc.size ≤ 20) (h4 : 1 ≤ k) (h5 : k ≤ 4) (h6 : 0 ≤ rest) (h7 : rest < 1000000) :
    SpecP PySem.Challenge.rw_pf0271_01.row.prog hd.heap_39 169 [.str (Str.ofString "handshake") t0, .int 1 t1, .bytes d t2, .bytes sc t3, .bytes tk t4, .int rest t5, .int k t6] [] 3 (BytesOf (7 + d.size + sc.size + vsOf rest)) := by
  walk_at "spec0"
  refine' specP (binds := [(Str.ofString "kind", .str (Str.ofString "handshake") t0), (Str.ofString "version", .int 1 t1), (Str.ofString "dcid", .bytes d t2), (Str.ofString "scid", .bytes sc t3), (Str.ofString "token", .bytes tk t4), (Str.ofString "rest_size", .int rest t5), (Str.ofString "number_size", .int k t6)]) ?b1 ?b2 ?b3 ?b4 ?b5 ?kA ?kF ?kK ?k6 ?k7 ?k8 ?k9 ?kB ?_ ?c2 ?c3 ?c4 ?c5 ?ret
  walk_at "spec side"
  have hvr := vsOf_bounds rest
  have hvt := vsOf_bounds tk.size
  repeat' (first | (k_unfold; (try dsimp only)) | ((with_reducible show wpP _ _ _ _ _ _); first | ((with_reducible show wpP _ _ (call (Value.ref 147) _) _ _ _); k_dflt (refine' SpecP.use (put_varint_spec _ _ (by first | decide | omega) (by first | decide | omega)) (by k_asm) (by k_asm) (by k_asm) (by k_asm) (by first | exact List.forall_mem_nil _ | exact SubL.mem (by k_subL)) (by k_asm) (by first | exact rfl | assumption) (by ktr_room) (by ktr_units) ?_; skip; intro v' h' tk' F' N' hv'; (rename BytesOf _ _ => hv9; obtain ⟨d9, u9, e9, hd9⟩ := hv9; subst e9); (try dsimp only)); (try k_fold)) | ((with_reducible show wpP _ _ (call (Value.ref 133) [Value.int _ _, Value.int 4 _]) _ _ _); k_dflt (refine' SpecP.use (put_whole_d _ _ _ (by first | decide | omega) (by first | decide | omega)) (by k_asm) (by k_asm) (by k_asm) (by k_asm) (by first | exact List.forall_mem_nil _ | exact SubL.mem (by k_subL)) (by k_asm) (by first | exact rfl | assumption) (by ktr_room) (by ktr_units) ?_; skip; intro v' h' tk' F' N' hv'; (rename BytesOf _ _ => hv9; obtain ⟨d9, u9, e9, hd9⟩ := hv9; subst e9); (try dsimp only)); (try k_fold)) | walk1) | (k_end; wrow_close) | ((with_reducible show wpAny _ _ _ _ _ _); first | ((with_reducible show wpAny _ _ (call (Value.ref 155) _) _ _ _); k_dflt (refine' SpecA.use (put_ids_spec _ _ _ _ (by first | decide | omega) (by first | decide | omega)) (by k_asm) (by k_asm) (by k_asm) (by k_asm) (by first | exact List.forall_mem_nil _ | exact SubL.mem (by k_subL)) (by k_asm) (by first | exact rfl | assumption) (by ktr_room) (by ktr_units) ?_; skip; intro v' h' tk' F' N' hv'; (rename BytesOf _ _ => hv9; obtain ⟨d9, u9, e9, hd9⟩ := hv9; subst e9); (try dsimp only)); (try k_fold)) | ((with_reducible show wpAny _ _ (call (Value.ref 162) [Value.str (Str.ofString "handshake") _, Value.int _ _]) _ _ _); k_dflt (refine' SpecA.use (long_first_h _ _ _ (by first | decide | omega) (by first | decide | omega)) (by k_asm) (by k_asm) (by k_asm) (by k_asm) (by first | exact List.forall_mem_nil _ | exact SubL.mem (by k_subL)) (by k_asm) (by first | exact rfl | assumption) (by ktr_room) (by ktr_units) ?_; skip; intro v' h' tk' F' N' hv'; (rename IntOf _ _ => hv9; obtain ⟨u9, e9⟩ := hv9; subst e9); (try dsimp only)); (try k_fold)) | ((with_reducible show wpAny _ _ (call (Value.ref 162) [Value.str (Str.ofString "initial") _, Value.int _ _]) _ _ _); k_dflt (refine' SpecA.use (long_first_i _ _ _ (by first | decide | omega) (by first | decide | omega)) (by k_asm) (by k_asm) (by k_asm) (by k_asm) (by first | exact List.forall_mem_nil _ | exact SubL.mem (by k_subL)) (by k_asm) (by first | exact rfl | assumption) (by ktr_room) (by ktr_units) ?_; skip; intro v' h' tk' F' N' hv'; (rename IntOf _ _ => hv9; obtain ⟨u9, e9⟩ := hv9; subst e9); (try dsimp only)); (try k_fold)) | ((with_reducible show wpAny _ _ (execs _ _) _ _ (Shared.mk _ _ _ (HAdd.hAdd (HAdd.hAdd (HAdd.hAdd (HAdd.hAdd _ _) _) _) _) _)); refine gen_toks ?_; intro tk9) | ((with_reducible show wpAny _ _ (eval (PySem.Expr.Name _ _) _) _ _ _); k_here; k_dflt (first | (refine' nameX_L (by k_asm) (by rfl) ?_ (by rfl) (by rfl); k_whole) | (refine' nameX_K (by k_asm) (by k_asm) (by k_asm) (by k_is) ?_ (by rfl) (by rfl); k_whole))) | ((with_reducible show wpAny _ _ (callWith _ (Value.ref _) _ _ _) _ _ _); k_here; k_dflt (first | (refine' callWith_K (by k_asm) (by k_is) ?_; k_whole) | (refine' callWith_K0 (by exact Frag.In.keeps (by k_asm) (Fr.keep (by k_asm))) (by k_is) ?_; k_whole)))) | walk1 | (dsimp only; walk1) | (leave1; walk_say "STEP leave1"; try dsimp only) | fail "no step")
  all_goals first | (refine Say.of ⟨_, _, rfl, ?_⟩; omega) | (set_option pp.maxSteps 400 in trace_state)
  all_goals w_report
end
-- part T7
theorem anew_T7 : True ∧ True := by
  w_top off
  first | (walk1; all_goals trivial) | exact ⟨trivial, trivial⟩
section
abbrev pkS (d pl : Array UInt8) (n : Int) (t0 t1 t2 t3 t4 t5 : Tok) (z : Nat) : Obj := tupOf [.str (Str.ofString "short") t0, .int 0 t1, .int 0 t2, .bytes d t3, .int n t4, .bytes pl t5] z
abbrev pkI (d sc tk pl : Array UInt8) (n : Int) (t0 t1 t2 t3 t4 t5 t6 : Tok) (z : Nat) : Obj := tupOf [.str (Str.ofString "initial") t0, .int 1 t1, .bytes d t2, .bytes sc t3, .bytes tk t4, .int n t5, .bytes pl t6] z
abbrev pkH (d sc pl : Array UInt8) (n : Int) (t0 t1 t2 t3 t4 t5 : Tok) (z : Nat) : Obj := tupOf [.str (Str.ofString "handshake") t0, .int 1 t1, .bytes d t2, .bytes sc t3, .int n t4, .bytes pl t5] z
set_option maxHeartbeats 4000000 in
theorem head_of_s (d sc tk pl pq : Array UInt8) (n k : Int) (pa : Addr) (t0 t1 t2 t3 t4 t5 t6 u0 u1 : Tok) (z : Nat) (h1 : d.size ≤ 20) (h2 : sc.size ≤ 20) (h3 : tk.size ≤ 1000) (h4 : 1 ≤ k) (h5 : k ≤ 4) (h6 : pl.size ≤ 50000) :
    SpecP PySem.Challenge.rw_pf0271_01.row.prog hd.heap_39 204 [.ref pa, .int k u0, .bytes pl u1] [(pa, pkS d pq n t0 t1 t2 t3 t4 t5 z)] 2 (BytesOf (1 + d.size)) := by
  walk_at "spec0"
  refine' specP (binds := [(Str.ofString "packet", .ref pa), (Str.ofString "number_size", .int k u0), (Str.ofString "payload", .bytes pl u1)]) ?b1 ?b2 ?b3 ?b4 ?b5 ?kA ?kF ?kK ?k6 ?k7 ?k8 ?k9 ?kB ?_ ?c2 ?c3 ?c4 ?c5 ?ret
  walk_at "spec side"
  repeat' (first | (k_unfold; (try dsimp only)) | ((with_reducible show wpP _ _ _ _ _ _); first | ((with_reducible show wpP _ _ (call (Value.ref 169) (Value.str (Str.ofString "handshake") _ :: _)) _ _ _); k_dflt (refine' SpecP.use (long_head_h _ _ _ _ _ _ _ _ _ _ _ _ (by first | decide | omega) (by first | decide | omega) (by first | decide | omega) (by first | decide | omega) (by first | decide | omega) (by first | decide | omega)) (by k_asm) (by k_asm) (by k_asm) (by k_asm) (by first | exact List.forall_mem_nil _ | exact SubL.mem (by k_subL)) (by k_asm) (by first | exact rfl | assumption) (by ktr_room) (by ktr_units) ?_; intro v' h' tk' F' N' hv'; (rename BytesOf _ _ => hv9; obtain ⟨d9, u9, e9, hd9⟩ := hv9; subst e9); (try dsimp only)); (try k_fold)) | ((with_reducible show wpP _ _ (call (Value.ref 169) (Value.str (Str.ofString "initial") _ :: _)) _ _ _); k_dflt (refine' SpecP.use (long_head_i _ _ _ _ _ _ _ _ _ _ _ _ (by first | decide | omega) (by first | decide | omega) (by first | decide | omega) (by first | decide | omega) (by first | decide | omega) (by first | decide | omega) (by first | decide | omega)) (by k_asm) (by k_asm) (by k_asm) (by k_asm) (by first | exact List.forall_mem_nil _ | exact SubL.mem (by k_subL)) (by k_asm) (by first | exact rfl | assumption) (by ktr_room) (by ktr_units) ?_; intro v' h' tk' F' N' hv'; (rename BytesOf _ _ => hv9; obtain ⟨d9, u9, e9, hd9⟩ := hv9; subst e9); (try dsimp only)); (try k_fold)) | walk1) | (k_end; wrow_close) | ((with_reducible show wpAny _ _ _ _ _ _); first | ((with_reducible show wpAny _ _ (call (Value.ref 197) _) _ _ _); k_dflt (refine' SpecA.use (short_head_spec _ _ _ _ _ _ (by first | decide | omega) (by first | decide | omega) (by first | decide | omega)) (by k_asm) (by k_asm) (by k_asm) (by k_asm) (by first | exact List.forall_mem_nil _ | exact SubL.mem (by k_subL)) (by k_asm) (by first | exact rfl | assumption) (by ktr_room) (by ktr_units) ?_; intro v' h' tk' F' N' hv'; (rename BytesOf _ _ => hv9; obtain ⟨d9, u9, e9, hd9⟩ := hv9; subst e9); (try dsimp only)); (try k_fold)) | ((with_reducible show wpAny _ _ (execs _ _) _ _ (Shared.mk _ _ _ (HAdd.hAdd (HAdd.hAdd (HAdd.hAdd (HAdd.hAdd _ _) _) _) _) _)); refine gen_toks ?_; intro tk9) | ((with_reducible show wpAny _ _ (eval (PySem.Expr.Name _ _) _) _ _ _); k_here; k_dflt (first | (refine' nameX_L (by k_asm) (by rfl) ?_ (by rfl) (by rfl); k_whole) | (refine' nameX_K (by k_asm) (by k_asm) (by k_asm) (by k_is) ?_ (by rfl) (by rfl); k_whole))) | ((with_reducible show wpAny _ _ (callWith _ (Value.ref _) _ _ _) _ _ _); k_here; k_dflt (first | (refine' callWith_K (by k_asm) (by k_is) ?_; k_whole) | (refine' callWith_K0 (by exact Frag.In.keeps (by k_asm) (Fr.keep (by k_asm))) (by k_is) ?_; k_whole)))) | walk1 | (dsimp only; walk1) | (leave1; walk_say "STEP leave1"; try dsimp only) | fail "no step")
  all_goals first | (refine Say.of ⟨_, _, rfl, ?_⟩; omega) | (set_option pp.maxSteps 400 in trace_state)
  all_goals w_report
set_option maxHeartbeats 4000000 in
theorem head_of_i (d sc tk pl pq : Array UInt8) (n k : Int) (pa : Addr) (t0 t1 t2 t3 t4 t5 t6 u0 u1 : Tok) (z : Nat) (h1 : d.size ≤ 20) (h2 : sc.size ≤ 20) (h3 : tk.size ≤ 1000) (h4 : 1 ≤ k) (h5 : k ≤ 4) (h6 : pl.size ≤ 50000) :
    SpecP PySem.Challenge.rw_pf0271_01.row.prog hd.heap_39 204 [.ref pa, .int k u0, .bytes pl u1] [(pa, pkI d sc tk pq n t0 t1 t2 t3 t4 t5 t6 z)] 4 (BytesOf (7 + d.size + sc.size + vsOf tk.size + tk.size + vsOf (k + pl.size + 16))) := by
  walk_at "spec0"
  refine' specP (binds := [(Str.ofString "packet", .ref pa), (Str.ofString "number_size", .int k u0), (Str.ofString "payload", .bytes pl u1)]) ?b1 ?b2 ?b3 ?b4 ?b5 ?kA ?kF ?kK ?k6 ?k7 ?k8 ?k9 ?kB ?_ ?c2 ?c3 ?c4 ?c5 ?ret
  walk_at "spec side"
  repeat' (first | (k_unfold; (try dsimp only)) | ((with_reducible show wpP _ _ _ _ _ _); first | ((with_reducible show wpP _ _ (call (Value.ref 169) (Value.str (Str.ofString "handshake") _ :: _)) _ _ _); k_dflt (refine' SpecP.use (long_head_h _ _ _ _ _ _ _ _ _ _ _ _ (by first | decide | omega) (by first | decide | omega) (by first | decide | omega) (by first | decide | omega) (by first | decide | omega) (by first | decide | omega)) (by k_asm) (by k_asm) (by k_asm) (by k_asm) (by first | exact List.forall_mem_nil _ | exact SubL.mem (by k_subL)) (by k_asm) (by first | exact rfl | assumption) (by ktr_room) (by ktr_units) ?_; intro v' h' tk' F' N' hv'; (rename BytesOf _ _ => hv9; obtain ⟨d9, u9, e9, hd9⟩ := hv9; subst e9); (try dsimp only)); (try k_fold)) | ((with_reducible show wpP _ _ (call (Value.ref 169) (Value.str (Str.ofString "initial") _ :: _)) _ _ _); k_dflt (refine' SpecP.use (long_head_i _ _ _ _ _ _ _ _ _ _ _ _ (by first | decide | omega) (by first | decide | omega) (by first | decide | omega) (by first | decide | omega) (by first | decide | omega) (by first | decide | omega) (by first | decide | omega)) (by k_asm) (by k_asm) (by k_asm) (by k_asm) (by first | exact List.forall_mem_nil _ | exact SubL.mem (by k_subL)) (by k_asm) (by first | exact rfl | assumption) (by ktr_room) (by ktr_units) ?_; intro v' h' tk' F' N' hv'; (rename BytesOf _ _ => hv9; obtain ⟨d9, u9, e9, hd9⟩ := hv9; subst e9); (try dsimp only)); (try k_fold)) | walk1) | (k_end; wrow_close) | ((with_reducible show wpAny _ _ _ _ _ _); first | ((with_reducible show wpAny _ _ (call (Value.ref 197) _) _ _ _); k_dflt (refine' SpecA.use (short_head_spec _ _ _ _ _ _ (by first | decide | omega) (by first | decide | omega) (by first | decide | omega)) (by k_asm) (by k_asm) (by k_asm) (by k_asm) (by first | exact List.forall_mem_nil _ | exact SubL.mem (by k_subL)) (by k_asm) (by first | exact rfl | assumption) (by ktr_room) (by ktr_units) ?_; intro v' h' tk' F' N' hv'; (rename BytesOf _ _ => hv9; obtain ⟨d9, u9, e9, hd9⟩ := hv9; subst e9); (try dsimp only)); (try k_fold)) | ((with_reducible show wpAny _ _ (execs _ _) _ _ (Shared.mk _ _ _ (HAdd.hAdd (HAdd.hAdd (HAdd.hAdd (HAdd.hAdd _ _) _) _) _) _)); refine gen_toks ?_; intro tk9) | ((with_reducible show wpAny _ _ (eval (PySem.Expr.Name _ _) _) _ _ _); k_here; k_dflt (first | (refine' nameX_L (by k_asm) (by rfl) ?_ (by rfl) (by rfl); k_whole) | (refine' nameX_K (by k_asm) (by k_asm) (by k_asm) (by k_is) ?_ (by rfl) (by rfl); k_whole))) | ((with_reducible show wpAny _ _ (callWith _ (Value.ref _) _ _ _) _ _ _); k_here; k_dflt (first | (refine' callWith_K (by k_asm) (by k_is) ?_; k_whole) | (refine' callWith_K0 (by exact Frag.In.keeps (by k_asm) (Fr.keep (by k_asm))) (by k_is) ?_; k_whole)))) | walk1 | (dsimp only; walk1) | (leave1; walk_say "STEP leave1"; try dsimp only) | fail "no step")
  all_goals first | (refine Say.of ⟨_, _, rfl, ?_⟩; omega) | (set_option pp.maxSteps 400 in trace_state)
  all_goals w_report
set_option maxHeartbeats 4000000 in
theorem head_of_h (d sc tk pl pq : Array UInt8) (n k : Int) (pa : Addr) (t0 t1 t2 t3 t4 t5 t6 u0 u1 : Tok) (z : Nat) (h1 : d.size ≤ 20) (h2 : sc.size ≤ 20) (h3 : tk.size ≤ 1000) (h4 : 1 ≤ k) (h5 : k ≤ 4) (h6 : pl.size ≤ 50000) :
    SpecP PySem.Challenge.rw_pf0271_01.row.prog hd.heap_39 204 [.ref pa, .int k u0, .bytes pl u1] [(pa, pkH d sc pq n t0 t1 t2 t3 t4 t5 z)] 4 (BytesOf (7 + d.size + sc.size + vsOf (k + pl.size + 16))) := by
  walk_at "spec0"
  refine' specP (binds := [(Str.ofString "packet", .ref pa), (Str.ofString "number_size", .int k u0), (Str.ofString "payload", .bytes pl u1)]) ?b1 ?b2 ?b3 ?b4 ?b5 ?kA ?kF ?kK ?k6 ?k7 ?k8 ?k9 ?kB ?_ ?c2 ?c3 ?c4 ?c5 ?ret
  walk_at "spec side"
  repeat' (first | (k_unfold; (try dsimp only)) | ((with_reducible show wpP _ _ _ _ _ _); first | ((with_reducible show wpP _ _ (call (Value.ref 169) (Value.str (Str.ofString "handshake") _ :: _)) _ _ _); k_dflt (refine' SpecP.use (long_head_h _ _ _ _ _ _ _ _ _ _ _ _ (by first | decide | omega) (by first | decide | omega) (by first | decide | omega) (by first | decide | omega) (by first | decide | omega) (by first | decide | omega)) (by k_asm) (by k_asm) (by k_asm) (by k_asm) (by first | exact List.forall_mem_nil _ | exact SubL.mem (by k_subL)) (by k_asm) (by first | exact rfl | assumption) (by ktr_room) (by ktr_units) ?_; intro v' h' tk' F' N' hv'; (rename BytesOf _ _ => hv9; obtain ⟨d9, u9, e9, hd9⟩ := hv9; subst e9); (try dsimp only)); (try k_fold)) | ((with_reducible show wpP _ _ (call (Value.ref 169) (Value.str (Str.ofString "initial") _ :: _)) _ _ _); k_dflt (refine' SpecP.use (long_head_i _ _ _ _ _ _ _ _ _ _ _ _ (by first | decide | omega) (by first | decide | omega) (by first | decide | omega) (by first | decide | omega) (by first | decide | omega) (by first | decide | omega) (by first | decide | omega)) (by k_asm) (by k_asm) (by k_asm) (by k_asm) (by first | exact List.forall_mem_nil _ | exact SubL.mem (by k_subL)) (by k_asm) (by first | exact rfl | assumption) (by ktr_room) (by ktr_units) ?_; intro v' h' tk' F' N' hv'; (rename BytesOf _ _ => hv9; obtain ⟨d9, u9, e9, hd9⟩ := hv9; subst e9); (try dsimp only)); (try k_fold)) | walk1) | (k_end; wrow_close) | ((with_reducible show wpAny _ _ _ _ _ _); first | ((with_reducible show wpAny _ _ (call (Value.ref 197) _) _ _ _); k_dflt (refine' SpecA.use (short_head_spec _ _ _ _ _ _ (by first | decide | omega) (by first | decide | omega) (by first | decide | omega)) (by k_asm) (by k_asm) (by k_asm) (by k_asm) (by first | exact List.forall_mem_nil _ | exact SubL.mem (by k_subL)) (by k_asm) (by first | exact rfl | assumption) (by ktr_room) (by ktr_units) ?_; intro v' h' tk' F' N' hv'; (rename BytesOf _ _ => hv9; obtain ⟨d9, u9, e9, hd9⟩ := hv9; subst e9); (try dsimp only)); (try k_fold)) | ((with_reducible show wpAny _ _ (execs _ _) _ _ (Shared.mk _ _ _ (HAdd.hAdd (HAdd.hAdd (HAdd.hAdd (HAdd.hAdd _ _) _) _) _) _)); refine gen_toks ?_; intro tk9) | ((with_reducible show wpAny _ _ (eval (PySem.Expr.Name _ _) _) _ _ _); k_here; k_dflt (first | (refine' nameX_L (by k_asm) (by rfl) ?_ (by rfl) (by rfl); k_whole) | (refine' nameX_K (by k_asm) (by k_asm) (by k_asm) (by k_is) ?_ (by rfl) (by rfl); k_whole))) | ((with_reducible show wpAny _ _ (callWith _ (Value.ref _) _ _ _) _ _ _); k_here; k_dflt (first | (refine' callWith_K (by k_asm) (by k_is) ?_; k_whole) | (refine' callWith_K0 (by exact Frag.In.keeps (by k_asm) (Fr.keep (by k_asm))) (by k_is) ?_; k_whole)))) | walk1 | (dsimp only; walk1) | (leave1; walk_say "STEP leave1"; try dsimp only) | fail "no step")
  all_goals first | (refine Say.of ⟨_, _, rfl, ?_⟩; omega) | (set_option pp.maxSteps 400 in trace_state)
  all_goals w_report
end
-- part T8
theorem anew_T8 : True ∧ True := by
  w_top off
  first | (walk1; all_goals trivial) | exact ⟨trivial, trivial⟩
section
theorem SpecP.weaken {prog : Program} {K : Params → Frag} {f : Addr} {vs : List Value} {sub : List (Addr × Obj)} {c : Nat} {P P' : Value → Prop} (h : SpecP prog K f vs sub c P) (w : ∀ v, P v → P' v) : SpecP prog K f vs sub c P' :=
  fun w' p loose mean mg mb dp un gd cn cs a ccd cl outer A₀ base h₀ L m s Q E h1 h2 h3 h4 h5 h6 h7 h8 h9 =>
    h w' p loose mean mg mb dp un gd cn cs a ccd cl outer A₀ base h₀ L m s Q E h1 h2 h3 h4 h5 h6 h7 h8 fun v h' tk' k hp => h9 v h' tk' k (w v hp)
theorem vsOf_small (n : Int) (h : n < 64) : vsOf n = 1 := by unfold vsOf; rw [if_pos h]
/-- octets of a long head: c and those of a varint of r -/
def HeadOf (c r : Int) (val : Value) : Prop := ∃ v : Int, (1 ≤ v ∧ v ≤ 4) ∧ (r < 64 → v = 1) ∧ BytesOf (c + v) val
theorem HeadOf.of {c r : Int} {val : Value} (h : BytesOf (c + vsOf r) val) : HeadOf c r val := ⟨_, vsOf_bounds r, vsOf_small r, h⟩
/-- octets of a packet with a payload of a size: what is told ahead, B, and size; three less at most -/
def OctOf (B size : Int) (val : Value) : Prop := ∃ (o : Int) (t : Tok), val = .int o t ∧ 0 ≤ B + size - o ∧ B + size - o ≤ 3 ∧ (size = 4 → o = B + 1)
theorem head_i (d sc tk pl pq : Array UInt8) (n k : Int) (pa : Addr) (t0 t1 t2 t3 t4 t5 t6 u0 u1 : Tok) (z : Nat) (h1 : d.size ≤ 20) (h2 : sc.size ≤ 20) (h3 : tk.size = 0) (h4 : 1 ≤ k) (h5 : k ≤ 4) (h6 : pl.size ≤ 50000) :
    SpecP PySem.Challenge.rw_pf0271_01.row.prog hd.heap_39 204 [.ref pa, .int k u0, .bytes pl u1] [(pa, pkI d sc tk pq n t0 t1 t2 t3 t4 t5 t6 z)] 4 (HeadOf (8 + d.size + sc.size) (k + pl.size + 16)) := by
  refine (head_of_i d sc tk pl pq n k pa t0 t1 t2 t3 t4 t5 t6 u0 u1 z h1 h2 (by omega) h4 h5 h6).weaken fun v hv => HeadOf.of ?_
  rw [h3] at hv
  have e : (7 + (d.size : Int) + sc.size + vsOf ((0 : Nat) : Int) + ((0 : Nat) : Int) + vsOf (k + pl.size + 16)) = 8 + d.size + sc.size + vsOf (k + pl.size + 16) := by
    rw [show vsOf ((0 : Nat) : Int) = 1 from by decide]; omega
  rwa [e] at hv
theorem head_h (d sc pl pq : Array UInt8) (n k : Int) (pa : Addr) (t0 t1 t2 t3 t4 t5 u0 u1 : Tok) (z : Nat) (h1 : d.size ≤ 20) (h2 : sc.size ≤ 20) (h4 : 1 ≤ k) (h5 : k ≤ 4) (h6 : pl.size ≤ 50000) :
    SpecP PySem.Challenge.rw_pf0271_01.row.prog hd.heap_39 204 [.ref pa, .int k u0, .bytes pl u1] [(pa, pkH d sc pq n t0 t1 t2 t3 t4 t5 z)] 4 (HeadOf (7 + d.size + sc.size) (k + pl.size + 16)) :=
  (head_of_h d sc #[] pl pq n k pa t0 t1 t2 t3 t4 t5 0 u0 u1 z h1 h2 (by decide) h4 h5 h6).weaken fun _ hv => HeadOf.of hv
set_option maxHeartbeats 4000000 in
theorem number_in_s (d sc tk pl : Array UInt8) (n : Int) (pa : Addr) (t0 t1 t2 t3 t4 t5 t6 : Tok) (z : Nat) :
    SpecA PySem.Challenge.rw_pf0271_01.row.prog hd.heap_39 211 [.ref pa] [(pa, pkS d pl n t0 t1 t2 t3 t4 t5 z)] 1 (IntOf n) := by
  walk_at "spec0"
  refine' specA (binds := [(Str.ofString "packet", .ref pa)]) ?b1 ?b2 ?b3 ?b4 ?b5 ?kA ?kF ?kK ?k6 ?k7 ?k8 ?k9 ?kB ?_ ?c2 ?c3 ?c4 ?c5 ?ret
  walk_at "spec side"
  k_steps
  all_goals exact Say.of (int_ex rfl)
set_option maxHeartbeats 4000000 in
theorem packet_size_s_none (d sc tk pl : Array UInt8) (n j : Int) (pa : Addr) (t0 t1 t2 t3 t4 t5 t6 u0 : Tok) (z : Nat) (h1 : d.size ≤ 20) (h2 : sc.size ≤ 20) (h3 : tk.size = 0) (h6 : pl.size ≤ 30000) (h7 : 0 ≤ n) (h8 : n < 1000000) :
    SpecP PySem.Challenge.rw_pf0271_01.row.prog hd.heap_39 218 [.ref pa, .none] [(pa, pkS d pl n t0 t1 t2 t3 t4 t5 z)] 5 (OctOf (20 + d.size + nsOf (n + 1)) pl.size) := by
  walk_at "spec0"
  refine' specP (binds := [(Str.ofString "packet", .ref pa), (Str.ofString "largest_acked", .none)]) ?b1 ?b2 ?b3 ?b4 ?b5 ?kA ?kF ?kK ?k6 ?k7 ?k8 ?k9 ?kB ?_ ?c2 ?c3 ?c4 ?c5 ?ret
  walk_at "spec side"
  have hns := nsOf_bounds (n + 1)
  repeat' (first | (k_unfold; (try dsimp only)) | ((with_reducible show wpP _ _ _ _ _ _); first | ((with_reducible show wpP _ _ (call (Value.ref 204) _) _ _ _); k_dflt (refine' SpecP.use (head_of_s _ #[] #[] _ _ _ _ _ _ _ _ _ _ _ 0 _ _ _ ?_ ?_ ?_ ?_ ?_ ?_) (by k_asm) (by k_asm) (by k_asm) (by k_asm) (by first | exact List.forall_mem_nil _ | exact SubL.mem (by k_subL)) (by k_asm) (by first | exact rfl | assumption) (by ktr_room) (by ktr_units) ?_; (all_goals (first | decide | omega | skip)); intro v' h' tk' F' N' hv'; (rename BytesOf _ _ => hv9; obtain ⟨d9, u9, e9, hd9⟩ := hv9; subst e9); (try dsimp only)); (try k_fold)) | ((with_reducible show wpP _ _ (call (Value.ref 183) [_, Value.int _ _]) _ _ _); k_dflt (refine' SpecP.use (cut_int _ _ _ _ ?_ ?_ ?_ ?_) (by k_asm) (by k_asm) (by k_asm) (by k_asm) (by first | exact List.forall_mem_nil _ | exact SubL.mem (by k_subL)) (by k_asm) (by first | exact rfl | assumption) (by ktr_room) (by ktr_units) ?_; (all_goals (first | decide | omega | skip)); intro v' h' tk' F' N' hv'; (rename BytesOf _ _ => hv9; obtain ⟨d9, u9, e9, hd9⟩ := hv9; subst e9); (try dsimp only)); (try k_fold)) | ((with_reducible show wpP _ _ (call (Value.ref 183) [_, Value.none]) _ _ _); k_dflt (refine' SpecP.use (cut_none _ _ ?_ ?_) (by k_asm) (by k_asm) (by k_asm) (by k_asm) (by first | exact List.forall_mem_nil _ | exact SubL.mem (by k_subL)) (by k_asm) (by first | exact rfl | assumption) (by ktr_room) (by ktr_units) ?_; (all_goals (first | decide | omega | skip)); intro v' h' tk' F' N' hv'; (rename BytesOf _ _ => hv9; obtain ⟨d9, u9, e9, hd9⟩ := hv9; subst e9); (try dsimp only)); (try k_fold)) | walk1) | (k_end; wrow_close) | ((with_reducible show wpAny _ _ _ _ _ _); first | ((with_reducible show wpAny _ _ (call (Value.ref 211) _) _ _ _); k_dflt (refine' SpecA.use (number_in_s _ #[] #[] _ _ _ _ _ _ _ _ _ 0 _) (by k_asm) (by k_asm) (by k_asm) (by k_asm) (by first | exact List.forall_mem_nil _ | exact SubL.mem (by k_subL)) (by k_asm) (by first | exact rfl | assumption) (by ktr_room) (by ktr_units) ?_; intro v' h' tk' F' N' hv'; (rename IntOf _ _ => hv9; obtain ⟨u9, e9⟩ := hv9; subst e9); (try dsimp only)); (try k_fold)) | ((with_reducible show wpAny _ _ (call (Value.ref 190) _) _ _ _); k_dflt (refine' SpecA.use (padded_spec _ _ _ _ ?_ ?_ ?_) (by k_asm) (by k_asm) (by k_asm) (by k_asm) (by first | exact List.forall_mem_nil _ | exact SubL.mem (by k_subL)) (by k_asm) (by first | exact rfl | assumption) (by ktr_room) (by ktr_units) ?_; (all_goals (first | decide | omega | skip)); intro v' h' tk' F' N' hv'; (rename BytesOf _ _ => hv9; obtain ⟨d9, u9, e9, hd9⟩ := hv9; subst e9); (try dsimp only)); (try k_fold)) | ((with_reducible show wpAny _ _ (execs _ _) _ _ (Shared.mk _ _ _ (HAdd.hAdd (HAdd.hAdd (HAdd.hAdd (HAdd.hAdd _ _) _) _) _) _)); refine gen_toks ?_; intro tk9) | ((with_reducible show wpAny _ _ (eval (PySem.Expr.Name _ _) _) _ _ _); k_here; k_dflt (first | (refine' nameX_L (by k_asm) (by rfl) ?_ (by rfl) (by rfl); k_whole) | (refine' nameX_K (by k_asm) (by k_asm) (by k_asm) (by k_is) ?_ (by rfl) (by rfl); k_whole))) | ((with_reducible show wpAny _ _ (callWith _ (Value.ref _) _ _ _) _ _ _); k_here; k_dflt (first | (refine' callWith_K (by k_asm) (by k_is) ?_; k_whole) | (refine' callWith_K0 (by exact Frag.In.keeps (by k_asm) (Fr.keep (by k_asm))) (by k_is) ?_; k_whole)))) | walk1 | (dsimp only; walk1) | (leave1; walk_say "STEP leave1"; try dsimp only) | fail "no step")
  all_goals first | (refine Say.of ⟨_, _, rfl, ?_, ?_, ?_⟩ <;> omega) | (set_option pp.maxSteps 400 in trace_state)
  all_goals w_report
set_option maxHeartbeats 4000000 in
theorem packet_size_s_int (d sc tk pl : Array UInt8) (n j : Int) (pa : Addr) (t0 t1 t2 t3 t4 t5 t6 u0 : Tok) (z : Nat) (h1 : d.size ≤ 20) (h2 : sc.size ≤ 20) (h3 : tk.size = 0) (h6 : pl.size ≤ 30000) (h7 : 0 ≤ n - j) (h8 : n - j < 1000000) (h9 : 0 ≤ j) (h10 : j < 1000) :
    SpecP PySem.Challenge.rw_pf0271_01.row.prog hd.heap_39 218 [.ref pa, .int j u0] [(pa, pkS d pl n t0 t1 t2 t3 t4 t5 z)] 5 (OctOf (20 + d.size + nsOf (n - j)) pl.size) := by
  walk_at "spec0"
  refine' specP (binds := [(Str.ofString "packet", .ref pa), (Str.ofString "largest_acked", .int j u0)]) ?b1 ?b2 ?b3 ?b4 ?b5 ?kA ?kF ?kK ?k6 ?k7 ?k8 ?k9 ?kB ?_ ?c2 ?c3 ?c4 ?c5 ?ret
  walk_at "spec side"
  have hns := nsOf_bounds (n - j)
  repeat' (first | (k_unfold; (try dsimp only)) | ((with_reducible show wpP _ _ _ _ _ _); first | ((with_reducible show wpP _ _ (call (Value.ref 204) _) _ _ _); k_dflt (refine' SpecP.use (head_of_s _ #[] #[] _ _ _ _ _ _ _ _ _ _ _ 0 _ _ _ ?_ ?_ ?_ ?_ ?_ ?_) (by k_asm) (by k_asm) (by k_asm) (by k_asm) (by first | exact List.forall_mem_nil _ | exact SubL.mem (by k_subL)) (by k_asm) (by first | exact rfl | assumption) (by ktr_room) (by ktr_units) ?_; (all_goals (first | decide | omega | skip)); intro v' h' tk' F' N' hv'; (rename BytesOf _ _ => hv9; obtain ⟨d9, u9, e9, hd9⟩ := hv9; subst e9); (try dsimp only)); (try k_fold)) | ((with_reducible show wpP _ _ (call (Value.ref 183) [_, Value.int _ _]) _ _ _); k_dflt (refine' SpecP.use (cut_int _ _ _ _ ?_ ?_ ?_ ?_) (by k_asm) (by k_asm) (by k_asm) (by k_asm) (by first | exact List.forall_mem_nil _ | exact SubL.mem (by k_subL)) (by k_asm) (by first | exact rfl | assumption) (by ktr_room) (by ktr_units) ?_; (all_goals (first | decide | omega | skip)); intro v' h' tk' F' N' hv'; (rename BytesOf _ _ => hv9; obtain ⟨d9, u9, e9, hd9⟩ := hv9; subst e9); (try dsimp only)); (try k_fold)) | ((with_reducible show wpP _ _ (call (Value.ref 183) [_, Value.none]) _ _ _); k_dflt (refine' SpecP.use (cut_none _ _ ?_ ?_) (by k_asm) (by k_asm) (by k_asm) (by k_asm) (by first | exact List.forall_mem_nil _ | exact SubL.mem (by k_subL)) (by k_asm) (by first | exact rfl | assumption) (by ktr_room) (by ktr_units) ?_; (all_goals (first | decide | omega | skip)); intro v' h' tk' F' N' hv'; (rename BytesOf _ _ => hv9; obtain ⟨d9, u9, e9, hd9⟩ := hv9; subst e9); (try dsimp only)); (try k_fold)) | walk1) | (k_end; wrow_close) | ((with_reducible show wpAny _ _ _ _ _ _); first | ((with_reducible show wpAny _ _ (call (Value.ref 211) _) _ _ _); k_dflt (refine' SpecA.use (number_in_s _ #[] #[] _ _ _ _ _ _ _ _ _ 0 _) (by k_asm) (by k_asm) (by k_asm) (by k_asm) (by first | exact List.forall_mem_nil _ | exact SubL.mem (by k_subL)) (by k_asm) (by first | exact rfl | assumption) (by ktr_room) (by ktr_units) ?_; intro v' h' tk' F' N' hv'; (rename IntOf _ _ => hv9; obtain ⟨u9, e9⟩ := hv9; subst e9); (try dsimp only)); (try k_fold)) | ((with_reducible show wpAny _ _ (call (Value.ref 190) _) _ _ _); k_dflt (refine' SpecA.use (padded_spec _ _ _ _ ?_ ?_ ?_) (by k_asm) (by k_asm) (by k_asm) (by k_asm) (by first | exact List.forall_mem_nil _ | exact SubL.mem (by k_subL)) (by k_asm) (by first | exact rfl | assumption) (by ktr_room) (by ktr_units) ?_; (all_goals (first | decide | omega | skip)); intro v' h' tk' F' N' hv'; (rename BytesOf _ _ => hv9; obtain ⟨d9, u9, e9, hd9⟩ := hv9; subst e9); (try dsimp only)); (try k_fold)) | ((with_reducible show wpAny _ _ (execs _ _) _ _ (Shared.mk _ _ _ (HAdd.hAdd (HAdd.hAdd (HAdd.hAdd (HAdd.hAdd _ _) _) _) _) _)); refine gen_toks ?_; intro tk9) | ((with_reducible show wpAny _ _ (eval (PySem.Expr.Name _ _) _) _ _ _); k_here; k_dflt (first | (refine' nameX_L (by k_asm) (by rfl) ?_ (by rfl) (by rfl); k_whole) | (refine' nameX_K (by k_asm) (by k_asm) (by k_asm) (by k_is) ?_ (by rfl) (by rfl); k_whole))) | ((with_reducible show wpAny _ _ (callWith _ (Value.ref _) _ _ _) _ _ _); k_here; k_dflt (first | (refine' callWith_K (by k_asm) (by k_is) ?_; k_whole) | (refine' callWith_K0 (by exact Frag.In.keeps (by k_asm) (Fr.keep (by k_asm))) (by k_is) ?_; k_whole)))) | walk1 | (dsimp only; walk1) | (leave1; walk_say "STEP leave1"; try dsimp only) | fail "no step")
  all_goals first | (refine Say.of ⟨_, _, rfl, ?_, ?_, ?_⟩ <;> omega) | (set_option pp.maxSteps 400 in trace_state)
  all_goals w_report
set_option maxHeartbeats 4000000 in
theorem number_in_i (d sc tk pl : Array UInt8) (n : Int) (pa : Addr) (t0 t1 t2 t3 t4 t5 t6 : Tok) (z : Nat) :
    SpecA PySem.Challenge.rw_pf0271_01.row.prog hd.heap_39 211 [.ref pa] [(pa, pkI d sc tk pl n t0 t1 t2 t3 t4 t5 t6 z)] 1 (IntOf n) := by
  walk_at "spec0"
  refine' specA (binds := [(Str.ofString "packet", .ref pa)]) ?b1 ?b2 ?b3 ?b4 ?b5 ?kA ?kF ?kK ?k6 ?k7 ?k8 ?k9 ?kB ?_ ?c2 ?c3 ?c4 ?c5 ?ret
  walk_at "spec side"
  k_steps
  all_goals exact Say.of (int_ex rfl)
set_option maxHeartbeats 4000000 in
theorem packet_size_i_none (d sc tk pl : Array UInt8) (n j : Int) (pa : Addr) (t0 t1 t2 t3 t4 t5 t6 u0 : Tok) (z : Nat) (h1 : d.size ≤ 20) (h2 : sc.size ≤ 20) (h3 : tk.size = 0) (h6 : pl.size ≤ 30000) (h7 : 0 ≤ n) (h8 : n < 1000000) :
    SpecP PySem.Challenge.rw_pf0271_01.row.prog hd.heap_39 218 [.ref pa, .none] [(pa, pkI d sc tk pl n t0 t1 t2 t3 t4 t5 t6 z)] 5 (OctOf (28 + d.size + sc.size + nsOf (n + 1)) pl.size) := by
  walk_at "spec0"
  refine' specP (binds := [(Str.ofString "packet", .ref pa), (Str.ofString "largest_acked", .none)]) ?b1 ?b2 ?b3 ?b4 ?b5 ?kA ?kF ?kK ?k6 ?k7 ?k8 ?k9 ?kB ?_ ?c2 ?c3 ?c4 ?c5 ?ret
  walk_at "spec side"
  have hns := nsOf_bounds (n + 1)
  repeat' (first | (k_unfold; (try dsimp only)) | ((with_reducible show wpP _ _ _ _ _ _); first | ((with_reducible show wpP _ _ (call (Value.ref 204) _) _ _ _); k_dflt (refine' SpecP.use (head_i _ _ _ _ _ _ _ _ _ _ _ _ _ _ _ _ _ _ ?_ ?_ ?_ ?_ ?_ ?_) (by k_asm) (by k_asm) (by k_asm) (by k_asm) (by first | exact List.forall_mem_nil _ | exact SubL.mem (by k_subL)) (by k_asm) (by first | exact rfl | assumption) (by ktr_room) (by ktr_units) ?_; (all_goals (first | decide | omega | skip)); intro v' h' tk' F' N' hv'; (rename HeadOf _ _ _ => hv9; obtain ⟨v9, hv91, hv92, d9, u9, e9, hd9⟩ := hv9; subst e9); (try dsimp only)); (try k_fold)) | ((with_reducible show wpP _ _ (call (Value.ref 204) _) _ _ _); k_dflt (refine' SpecP.use (head_of_s _ #[] #[] _ _ _ _ _ _ _ _ _ _ _ 0 _ _ _ ?_ ?_ ?_ ?_ ?_ ?_) (by k_asm) (by k_asm) (by k_asm) (by k_asm) (by first | exact List.forall_mem_nil _ | exact SubL.mem (by k_subL)) (by k_asm) (by first | exact rfl | assumption) (by ktr_room) (by ktr_units) ?_; (all_goals (first | decide | omega | skip)); intro v' h' tk' F' N' hv'; (rename BytesOf _ _ => hv9; obtain ⟨d9, u9, e9, hd9⟩ := hv9; subst e9); (try dsimp only)); (try k_fold)) | ((with_reducible show wpP _ _ (call (Value.ref 183) [_, Value.int _ _]) _ _ _); k_dflt (refine' SpecP.use (cut_int _ _ _ _ ?_ ?_ ?_ ?_) (by k_asm) (by k_asm) (by k_asm) (by k_asm) (by first | exact List.forall_mem_nil _ | exact SubL.mem (by k_subL)) (by k_asm) (by first | exact rfl | assumption) (by ktr_room) (by ktr_units) ?_; (all_goals (first | decide | omega | skip)); intro v' h' tk' F' N' hv'; (rename BytesOf _ _ => hv9; obtain ⟨d9, u9, e9, hd9⟩ := hv9; subst e9); (try dsimp only)); (try k_fold)) | ((with_reducible show wpP _ _ (call (Value.ref 183) [_, Value.none]) _ _ _); k_dflt (refine' SpecP.use (cut_none _ _ ?_ ?_) (by k_asm) (by k_asm) (by k_asm) (by k_asm) (by first | exact List.forall_mem_nil _ | exact SubL.mem (by k_subL)) (by k_asm) (by first | exact rfl | assumption) (by ktr_room) (by ktr_units) ?_; (all_goals (first | decide | omega | skip)); intro v' h' tk' F' N' hv'; (rename BytesOf _ _ => hv9; obtain ⟨d9, u9, e9, hd9⟩ := hv9; subst e9); (try dsimp only)); (try k_fold)) | walk1) | (k_end; wrow_close) | ((with_reducible show wpAny _ _ _ _ _ _); first | ((with_reducible show wpAny _ _ (call (Value.ref 211) _) _ _ _); k_dflt (refine' SpecA.use (number_in_i _ _ _ _ _ _ _ _ _ _ _ _ _ _) (by k_asm) (by k_asm) (by k_asm) (by k_asm) (by first | exact List.forall_mem_nil _ | exact SubL.mem (by k_subL)) (by k_asm) (by first | exact rfl | assumption) (by ktr_room) (by ktr_units) ?_; intro v' h' tk' F' N' hv'; (rename IntOf _ _ => hv9; obtain ⟨u9, e9⟩ := hv9; subst e9); (try dsimp only)); (try k_fold)) | ((with_reducible show wpAny _ _ (call (Value.ref 211) _) _ _ _); k_dflt (refine' SpecA.use (number_in_s _ #[] #[] _ _ _ _ _ _ _ _ _ 0 _) (by k_asm) (by k_asm) (by k_asm) (by k_asm) (by first | exact List.forall_mem_nil _ | exact SubL.mem (by k_subL)) (by k_asm) (by first | exact rfl | assumption) (by ktr_room) (by ktr_units) ?_; intro v' h' tk' F' N' hv'; (rename IntOf _ _ => hv9; obtain ⟨u9, e9⟩ := hv9; subst e9); (try dsimp only)); (try k_fold)) | ((with_reducible show wpAny _ _ (call (Value.ref 190) _) _ _ _); k_dflt (refine' SpecA.use (padded_spec _ _ _ _ ?_ ?_ ?_) (by k_asm) (by k_asm) (by k_asm) (by k_asm) (by first | exact List.forall_mem_nil _ | exact SubL.mem (by k_subL)) (by k_asm) (by first | exact rfl | assumption) (by ktr_room) (by ktr_units) ?_; (all_goals (first | decide | omega | skip)); intro v' h' tk' F' N' hv'; (rename BytesOf _ _ => hv9; obtain ⟨d9, u9, e9, hd9⟩ := hv9; subst e9); (try dsimp only)); (try k_fold)) | ((with_reducible show wpAny _ _ (execs _ _) _ _ (Shared.mk _ _ _ (HAdd.hAdd (HAdd.hAdd (HAdd.hAdd (HAdd.hAdd _ _) _) _) _) _)); refine gen_toks ?_; intro tk9) | ((with_reducible show wpAny _ _ (eval (PySem.Expr.Name _ _) _) _ _ _); k_here; k_dflt (first | (refine' nameX_L (by k_asm) (by rfl) ?_ (by rfl) (by rfl); k_whole) | (refine' nameX_K (by k_asm) (by k_asm) (by k_asm) (by k_is) ?_ (by rfl) (by rfl); k_whole))) | ((with_reducible show wpAny _ _ (callWith _ (Value.ref _) _ _ _) _ _ _); k_here; k_dflt (first | (refine' callWith_K (by k_asm) (by k_is) ?_; k_whole) | (refine' callWith_K0 (by exact Frag.In.keeps (by k_asm) (Fr.keep (by k_asm))) (by k_is) ?_; k_whole)))) | walk1 | (dsimp only; walk1) | (leave1; walk_say "STEP leave1"; try dsimp only) | fail "no step")
  all_goals first | (refine Say.of ⟨_, _, rfl, ?_, ?_, ?_⟩ <;> omega) | (set_option pp.maxSteps 400 in trace_state)
  all_goals w_report
set_option maxHeartbeats 4000000 in
theorem packet_size_i_int (d sc tk pl : Array UInt8) (n j : Int) (pa : Addr) (t0 t1 t2 t3 t4 t5 t6 u0 : Tok) (z : Nat) (h1 : d.size ≤ 20) (h2 : sc.size ≤ 20) (h3 : tk.size = 0) (h6 : pl.size ≤ 30000) (h7 : 0 ≤ n - j) (h8 : n - j < 1000000) (h9 : 0 ≤ j) (h10 : j < 1000) :
    SpecP PySem.Challenge.rw_pf0271_01.row.prog hd.heap_39 218 [.ref pa, .int j u0] [(pa, pkI d sc tk pl n t0 t1 t2 t3 t4 t5 t6 z)] 5 (OctOf (28 + d.size + sc.size + nsOf (n - j)) pl.size) := by
  walk_at "spec0"
  refine' specP (binds := [(Str.ofString "packet", .ref pa), (Str.ofString "largest_acked", .int j u0)]) ?b1 ?b2 ?b3 ?b4 ?b5 ?kA ?kF ?kK ?k6 ?k7 ?k8 ?k9 ?kB ?_ ?c2 ?c3 ?c4 ?c5 ?ret
  walk_at "spec side"
  have hns := nsOf_bounds (n - j)
  repeat' (first | (k_unfold; (try dsimp only)) | ((with_reducible show wpP _ _ _ _ _ _); first | ((with_reducible show wpP _ _ (call (Value.ref 204) _) _ _ _); k_dflt (refine' SpecP.use (head_i _ _ _ _ _ _ _ _ _ _ _ _ _ _ _ _ _ _ ?_ ?_ ?_ ?_ ?_ ?_) (by k_asm) (by k_asm) (by k_asm) (by k_asm) (by first | exact List.forall_mem_nil _ | exact SubL.mem (by k_subL)) (by k_asm) (by first | exact rfl | assumption) (by ktr_room) (by ktr_units) ?_; (all_goals (first | decide | omega | skip)); intro v' h' tk' F' N' hv'; (rename HeadOf _ _ _ => hv9; obtain ⟨v9, hv91, hv92, d9, u9, e9, hd9⟩ := hv9; subst e9); (try dsimp only)); (try k_fold)) | ((with_reducible show wpP _ _ (call (Value.ref 204) _) _ _ _); k_dflt (refine' SpecP.use (head_of_s _ #[] #[] _ _ _ _ _ _ _ _ _ _ _ 0 _ _ _ ?_ ?_ ?_ ?_ ?_ ?_) (by k_asm) (by k_asm) (by k_asm) (by k_asm) (by first | exact List.forall_mem_nil _ | exact SubL.mem (by k_subL)) (by k_asm) (by first | exact rfl | assumption) (by ktr_room) (by ktr_units) ?_; (all_goals (first | decide | omega | skip)); intro v' h' tk' F' N' hv'; (rename BytesOf _ _ => hv9; obtain ⟨d9, u9, e9, hd9⟩ := hv9; subst e9); (try dsimp only)); (try k_fold)) | ((with_reducible show wpP _ _ (call (Value.ref 183) [_, Value.int _ _]) _ _ _); k_dflt (refine' SpecP.use (cut_int _ _ _ _ ?_ ?_ ?_ ?_) (by k_asm) (by k_asm) (by k_asm) (by k_asm) (by first | exact List.forall_mem_nil _ | exact SubL.mem (by k_subL)) (by k_asm) (by first | exact rfl | assumption) (by ktr_room) (by ktr_units) ?_; (all_goals (first | decide | omega | skip)); intro v' h' tk' F' N' hv'; (rename BytesOf _ _ => hv9; obtain ⟨d9, u9, e9, hd9⟩ := hv9; subst e9); (try dsimp only)); (try k_fold)) | ((with_reducible show wpP _ _ (call (Value.ref 183) [_, Value.none]) _ _ _); k_dflt (refine' SpecP.use (cut_none _ _ ?_ ?_) (by k_asm) (by k_asm) (by k_asm) (by k_asm) (by first | exact List.forall_mem_nil _ | exact SubL.mem (by k_subL)) (by k_asm) (by first | exact rfl | assumption) (by ktr_room) (by ktr_units) ?_; (all_goals (first | decide | omega | skip)); intro v' h' tk' F' N' hv'; (rename BytesOf _ _ => hv9; obtain ⟨d9, u9, e9, hd9⟩ := hv9; subst e9); (try dsimp only)); (try k_fold)) | walk1) | (k_end; wrow_close) | ((with_reducible show wpAny _ _ _ _ _ _); first | ((with_reducible show wpAny _ _ (call (Value.ref 211) _) _ _ _); k_dflt (refine' SpecA.use (number_in_i _ _ _ _ _ _ _ _ _ _ _ _ _ _) (by k_asm) (by k_asm) (by k_asm) (by k_asm) (by first | exact List.forall_mem_nil _ | exact SubL.mem (by k_subL)) (by k_asm) (by first | exact rfl | assumption) (by ktr_room) (by ktr_units) ?_; intro v' h' tk' F' N' hv'; (rename IntOf _ _ => hv9; obtain ⟨u9, e9⟩ := hv9; subst e9); (try dsimp only)); (try k_fold)) | ((with_reducible show wpAny _ _ (call (Value.ref 211) _) _ _ _); k_dflt (refine' SpecA.use (number_in_s _ #[] #[] _ _ _ _ _ _ _ _ _ 0 _) (by k_asm) (by k_asm) (by k_asm) (by k_asm) (by first | exact List.forall_mem_nil _ | exact SubL.mem (by k_subL)) (by k_asm) (by first | exact rfl | assumption) (by ktr_room) (by ktr_units) ?_; intro v' h' tk' F' N' hv'; (rename IntOf _ _ => hv9; obtain ⟨u9, e9⟩ := hv9; subst e9); (try dsimp only)); (try k_fold)) | ((with_reducible show wpAny _ _ (call (Value.ref 190) _) _ _ _); k_dflt (refine' SpecA.use (padded_spec _ _ _ _ ?_ ?_ ?_) (by k_asm) (by k_asm) (by k_asm) (by k_asm) (by first | exact List.forall_mem_nil _ | exact SubL.mem (by k_subL)) (by k_asm) (by first | exact rfl | assumption) (by ktr_room) (by ktr_units) ?_; (all_goals (first | decide | omega | skip)); intro v' h' tk' F' N' hv'; (rename BytesOf _ _ => hv9; obtain ⟨d9, u9, e9, hd9⟩ := hv9; subst e9); (try dsimp only)); (try k_fold)) | ((with_reducible show wpAny _ _ (execs _ _) _ _ (Shared.mk _ _ _ (HAdd.hAdd (HAdd.hAdd (HAdd.hAdd (HAdd.hAdd _ _) _) _) _) _)); refine gen_toks ?_; intro tk9) | ((with_reducible show wpAny _ _ (eval (PySem.Expr.Name _ _) _) _ _ _); k_here; k_dflt (first | (refine' nameX_L (by k_asm) (by rfl) ?_ (by rfl) (by rfl); k_whole) | (refine' nameX_K (by k_asm) (by k_asm) (by k_asm) (by k_is) ?_ (by rfl) (by rfl); k_whole))) | ((with_reducible show wpAny _ _ (callWith _ (Value.ref _) _ _ _) _ _ _); k_here; k_dflt (first | (refine' callWith_K (by k_asm) (by k_is) ?_; k_whole) | (refine' callWith_K0 (by exact Frag.In.keeps (by k_asm) (Fr.keep (by k_asm))) (by k_is) ?_; k_whole)))) | walk1 | (dsimp only; walk1) | (leave1; walk_say "STEP leave1"; try dsimp only) | fail "no step")
  all_goals first | (refine Say.of ⟨_, _, rfl, ?_, ?_, ?_⟩ <;> omega) | (set_option pp.maxSteps 400 in trace_state)
  all_goals w_report
set_option maxHeartbeats 4000000 in
theorem number_in_h (d sc tk pl : Array UInt8) (n : Int) (pa : Addr) (t0 t1 t2 t3 t4 t5 t6 : Tok) (z : Nat) :
    SpecA PySem.Challenge.rw_pf0271_01.row.prog hd.heap_39 211 [.ref pa] [(pa, pkH d sc pl n t0 t1 t2 t3 t4 t5 z)] 1 (IntOf n) := by
  walk_at "spec0"
  refine' specA (binds := [(Str.ofString "packet", .ref pa)]) ?b1 ?b2 ?b3 ?b4 ?b5 ?kA ?kF ?kK ?k6 ?k7 ?k8 ?k9 ?kB ?_ ?c2 ?c3 ?c4 ?c5 ?ret
  walk_at "spec side"
  k_steps
  all_goals exact Say.of (int_ex rfl)
set_option maxHeartbeats 4000000 in
theorem packet_size_h_none (d sc tk pl : Array UInt8) (n j : Int) (pa : Addr) (t0 t1 t2 t3 t4 t5 t6 u0 : Tok) (z : Nat) (h1 : d.size ≤ 20) (h2 : sc.size ≤ 20) (h3 : tk.size = 0) (h6 : pl.size ≤ 30000) (h7 : 0 ≤ n) (h8 : n < 1000000) :
    SpecP PySem.Challenge.rw_pf0271_01.row.prog hd.heap_39 218 [.ref pa, .none] [(pa, pkH d sc pl n t0 t1 t2 t3 t4 t5 z)] 5 (OctOf (27 + d.size + sc.size + nsOf (n + 1)) pl.size) := by
  walk_at "spec0"
  refine' specP (binds := [(Str.ofString "packet", .ref pa), (Str.ofString "largest_acked", .none)]) ?b1 ?b2 ?b3 ?b4 ?b5 ?kA ?kF ?kK ?k6 ?k7 ?k8 ?k9 ?kB ?_ ?c2 ?c3 ?c4 ?c5 ?ret
  walk_at "spec side"
  have hns := nsOf_bounds (n + 1)
  repeat' (first | (k_unfold; (try dsimp only)) | ((with_reducible show wpP _ _ _ _ _ _); first | ((with_reducible show wpP _ _ (call (Value.ref 204) _) _ _ _); k_dflt (refine' SpecP.use (head_h _ _ _ _ _ _ _ _ _ _ _ _ _ _ _ _ ?_ ?_ ?_ ?_ ?_) (by k_asm) (by k_asm) (by k_asm) (by k_asm) (by first | exact List.forall_mem_nil _ | exact SubL.mem (by k_subL)) (by k_asm) (by first | exact rfl | assumption) (by ktr_room) (by ktr_units) ?_; (all_goals (first | decide | omega | skip)); intro v' h' tk' F' N' hv'; (rename HeadOf _ _ _ => hv9; obtain ⟨v9, hv91, hv92, d9, u9, e9, hd9⟩ := hv9; subst e9); (try dsimp only)); (try k_fold)) | ((with_reducible show wpP _ _ (call (Value.ref 204) _) _ _ _); k_dflt (refine' SpecP.use (head_i _ _ _ _ _ _ _ _ _ _ _ _ _ _ _ _ _ _ ?_ ?_ ?_ ?_ ?_ ?_) (by k_asm) (by k_asm) (by k_asm) (by k_asm) (by first | exact List.forall_mem_nil _ | exact SubL.mem (by k_subL)) (by k_asm) (by first | exact rfl | assumption) (by ktr_room) (by ktr_units) ?_; (all_goals (first | decide | omega | skip)); intro v' h' tk' F' N' hv'; (rename HeadOf _ _ _ => hv9; obtain ⟨v9, hv91, hv92, d9, u9, e9, hd9⟩ := hv9; subst e9); (try dsimp only)); (try k_fold)) | ((with_reducible show wpP _ _ (call (Value.ref 204) _) _ _ _); k_dflt (refine' SpecP.use (head_of_s _ #[] #[] _ _ _ _ _ _ _ _ _ _ _ 0 _ _ _ ?_ ?_ ?_ ?_ ?_ ?_) (by k_asm) (by k_asm) (by k_asm) (by k_asm) (by first | exact List.forall_mem_nil _ | exact SubL.mem (by k_subL)) (by k_asm) (by first | exact rfl | assumption) (by ktr_room) (by ktr_units) ?_; (all_goals (first | decide | omega | skip)); intro v' h' tk' F' N' hv'; (rename BytesOf _ _ => hv9; obtain ⟨d9, u9, e9, hd9⟩ := hv9; subst e9); (try dsimp only)); (try k_fold)) | ((with_reducible show wpP _ _ (call (Value.ref 183) [_, Value.int _ _]) _ _ _); k_dflt (refine' SpecP.use (cut_int _ _ _ _ ?_ ?_ ?_ ?_) (by k_asm) (by k_asm) (by k_asm) (by k_asm) (by first | exact List.forall_mem_nil _ | exact SubL.mem (by k_subL)) (by k_asm) (by first | exact rfl | assumption) (by ktr_room) (by ktr_units) ?_; (all_goals (first | decide | omega | skip)); intro v' h' tk' F' N' hv'; (rename BytesOf _ _ => hv9; obtain ⟨d9, u9, e9, hd9⟩ := hv9; subst e9); (try dsimp only)); (try k_fold)) | ((with_reducible show wpP _ _ (call (Value.ref 183) [_, Value.none]) _ _ _); k_dflt (refine' SpecP.use (cut_none _ _ ?_ ?_) (by k_asm) (by k_asm) (by k_asm) (by k_asm) (by first | exact List.forall_mem_nil _ | exact SubL.mem (by k_subL)) (by k_asm) (by first | exact rfl | assumption) (by ktr_room) (by ktr_units) ?_; (all_goals (first | decide | omega | skip)); intro v' h' tk' F' N' hv'; (rename BytesOf _ _ => hv9; obtain ⟨d9, u9, e9, hd9⟩ := hv9; subst e9); (try dsimp only)); (try k_fold)) | walk1) | (k_end; wrow_close) | ((with_reducible show wpAny _ _ _ _ _ _); first | ((with_reducible show wpAny _ _ (call (Value.ref 211) _) _ _ _); k_dflt (refine' SpecA.use (number_in_h _ _ #[] _ _ _ _ _ _ _ _ _ 0 _) (by k_asm) (by k_asm) (by k_asm) (by k_asm) (by first | exact List.forall_mem_nil _ | exact SubL.mem (by k_subL)) (by k_asm) (by first | exact rfl | assumption) (by ktr_room) (by ktr_units) ?_; intro v' h' tk' F' N' hv'; (rename IntOf _ _ => hv9; obtain ⟨u9, e9⟩ := hv9; subst e9); (try dsimp only)); (try k_fold)) | ((with_reducible show wpAny _ _ (call (Value.ref 211) _) _ _ _); k_dflt (refine' SpecA.use (number_in_i _ _ _ _ _ _ _ _ _ _ _ _ _ _) (by k_asm) (by k_asm) (by k_asm) (by k_asm) (by first | exact List.forall_mem_nil _ | exact SubL.mem (by k_subL)) (by k_asm) (by first | exact rfl | assumption) (by ktr_room) (by ktr_units) ?_; intro v' h' tk' F' N' hv'; (rename IntOf _ _ => hv9; obtain ⟨u9, e9⟩ := hv9; subst e9); (try dsimp only)); (try k_fold)) | ((with_reducible show wpAny _ _ (call (Value.ref 211) _) _ _ _); k_dflt (refine' SpecA.use (number_in_s _ #[] #[] _ _ _ _ _ _ _ _ _ 0 _) (by k_asm) (by k_asm) (by k_asm) (by k_asm) (by first | exact List.forall_mem_nil _ | exact SubL.mem (by k_subL)) (by k_asm) (by first | exact rfl | assumption) (by ktr_room) (by ktr_units) ?_; intro v' h' tk' F' N' hv'; (rename IntOf _ _ => hv9; obtain ⟨u9, e9⟩ := hv9; subst e9); (try dsimp only)); (try k_fold)) | ((with_reducible show wpAny _ _ (call (Value.ref 190) _) _ _ _); k_dflt (refine' SpecA.use (padded_spec _ _ _ _ ?_ ?_ ?_) (by k_asm) (by k_asm) (by k_asm) (by k_asm) (by first | exact List.forall_mem_nil _ | exact SubL.mem (by k_subL)) (by k_asm) (by first | exact rfl | assumption) (by ktr_room) (by ktr_units) ?_; (all_goals (first | decide | omega | skip)); intro v' h' tk' F' N' hv'; (rename BytesOf _ _ => hv9; obtain ⟨d9, u9, e9, hd9⟩ := hv9; subst e9); (try dsimp only)); (try k_fold)) | ((with_reducible show wpAny _ _ (execs _ _) _ _ (Shared.mk _ _ _ (HAdd.hAdd (HAdd.hAdd (HAdd.hAdd (HAdd.hAdd _ _) _) _) _) _)); refine gen_toks ?_; intro tk9) | ((with_reducible show wpAny _ _ (eval (PySem.Expr.Name _ _) _) _ _ _); k_here; k_dflt (first | (refine' nameX_L (by k_asm) (by rfl) ?_ (by rfl) (by rfl); k_whole) | (refine' nameX_K (by k_asm) (by k_asm) (by k_asm) (by k_is) ?_ (by rfl) (by rfl); k_whole))) | ((with_reducible show wpAny _ _ (callWith _ (Value.ref _) _ _ _) _ _ _); k_here; k_dflt (first | (refine' callWith_K (by k_asm) (by k_is) ?_; k_whole) | (refine' callWith_K0 (by exact Frag.In.keeps (by k_asm) (Fr.keep (by k_asm))) (by k_is) ?_; k_whole)))) | walk1 | (dsimp only; walk1) | (leave1; walk_say "STEP leave1"; try dsimp only) | fail "no step")
  all_goals first | (refine Say.of ⟨_, _, rfl, ?_, ?_, ?_⟩ <;> omega) | (set_option pp.maxSteps 400 in trace_state)
  all_goals w_report
set_option maxHeartbeats 4000000 in
theorem packet_size_h_int (d sc tk pl : Array UInt8) (n j : Int) (pa : Addr) (t0 t1 t2 t3 t4 t5 t6 u0 : Tok) (z : Nat) (h1 : d.size ≤ 20) (h2 : sc.size ≤ 20) (h3 : tk.size = 0) (h6 : pl.size ≤ 30000) (h7 : 0 ≤ n - j) (h8 : n - j < 1000000) (h9 : 0 ≤ j) (h10 : j < 1000) :
    SpecP PySem.Challenge.rw_pf0271_01.row.prog hd.heap_39 218 [.ref pa, .int j u0] [(pa, pkH d sc pl n t0 t1 t2 t3 t4 t5 z)] 5 (OctOf (27 + d.size + sc.size + nsOf (n - j)) pl.size) := by
  walk_at "spec0"
  refine' specP (binds := [(Str.ofString "packet", .ref pa), (Str.ofString "largest_acked", .int j u0)]) ?b1 ?b2 ?b3 ?b4 ?b5 ?kA ?kF ?kK ?k6 ?k7 ?k8 ?k9 ?kB ?_ ?c2 ?c3 ?c4 ?c5 ?ret
  walk_at "spec side"
  have hns := nsOf_bounds (n - j)
  repeat' (first | (k_unfold; (try dsimp only)) | ((with_reducible show wpP _ _ _ _ _ _); first | ((with_reducible show wpP _ _ (call (Value.ref 204) _) _ _ _); k_dflt (refine' SpecP.use (head_h _ _ _ _ _ _ _ _ _ _ _ _ _ _ _ _ ?_ ?_ ?_ ?_ ?_) (by k_asm) (by k_asm) (by k_asm) (by k_asm) (by first | exact List.forall_mem_nil _ | exact SubL.mem (by k_subL)) (by k_asm) (by first | exact rfl | assumption) (by ktr_room) (by ktr_units) ?_; (all_goals (first | decide | omega | skip)); intro v' h' tk' F' N' hv'; (rename HeadOf _ _ _ => hv9; obtain ⟨v9, hv91, hv92, d9, u9, e9, hd9⟩ := hv9; subst e9); (try dsimp only)); (try k_fold)) | ((with_reducible show wpP _ _ (call (Value.ref 204) _) _ _ _); k_dflt (refine' SpecP.use (head_i _ _ _ _ _ _ _ _ _ _ _ _ _ _ _ _ _ _ ?_ ?_ ?_ ?_ ?_ ?_) (by k_asm) (by k_asm) (by k_asm) (by k_asm) (by first | exact List.forall_mem_nil _ | exact SubL.mem (by k_subL)) (by k_asm) (by first | exact rfl | assumption) (by ktr_room) (by ktr_units) ?_; (all_goals (first | decide | omega | skip)); intro v' h' tk' F' N' hv'; (rename HeadOf _ _ _ => hv9; obtain ⟨v9, hv91, hv92, d9, u9, e9, hd9⟩ := hv9; subst e9); (try dsimp only)); (try k_fold)) | ((with_reducible show wpP _ _ (call (Value.ref 204) _) _ _ _); k_dflt (refine' SpecP.use (head_of_s _ #[] #[] _ _ _ _ _ _ _ _ _ _ _ 0 _ _ _ ?_ ?_ ?_ ?_ ?_ ?_) (by k_asm) (by k_asm) (by k_asm) (by k_asm) (by first | exact List.forall_mem_nil _ | exact SubL.mem (by k_subL)) (by k_asm) (by first | exact rfl | assumption) (by ktr_room) (by ktr_units) ?_; (all_goals (first | decide | omega | skip)); intro v' h' tk' F' N' hv'; (rename BytesOf _ _ => hv9; obtain ⟨d9, u9, e9, hd9⟩ := hv9; subst e9); (try dsimp only)); (try k_fold)) | ((with_reducible show wpP _ _ (call (Value.ref 183) [_, Value.int _ _]) _ _ _); k_dflt (refine' SpecP.use (cut_int _ _ _ _ ?_ ?_ ?_ ?_) (by k_asm) (by k_asm) (by k_asm) (by k_asm) (by first | exact List.forall_mem_nil _ | exact SubL.mem (by k_subL)) (by k_asm) (by first | exact rfl | assumption) (by ktr_room) (by ktr_units) ?_; (all_goals (first | decide | omega | skip)); intro v' h' tk' F' N' hv'; (rename BytesOf _ _ => hv9; obtain ⟨d9, u9, e9, hd9⟩ := hv9; subst e9); (try dsimp only)); (try k_fold)) | ((with_reducible show wpP _ _ (call (Value.ref 183) [_, Value.none]) _ _ _); k_dflt (refine' SpecP.use (cut_none _ _ ?_ ?_) (by k_asm) (by k_asm) (by k_asm) (by k_asm) (by first | exact List.forall_mem_nil _ | exact SubL.mem (by k_subL)) (by k_asm) (by first | exact rfl | assumption) (by ktr_room) (by ktr_units) ?_; (all_goals (first | decide | omega | skip)); intro v' h' tk' F' N' hv'; (rename BytesOf _ _ => hv9; obtain ⟨d9, u9, e9, hd9⟩ := hv9; subst e9); (try dsimp only)); (try k_fold)) | walk1) | (k_end; wrow_close) | ((with_reducible show wpAny _ _ _ _ _ _); first | ((with_reducible show wpAny _ _ (call (Value.ref 211) _) _ _ _); k_dflt (refine' SpecA.use (number_in_h _ _ #[] _ _ _ _ _ _ _ _ _ 0 _) (by k_asm) (by k_asm) (by k_asm) (by k_asm) (by first | exact List.forall_mem_nil _ | exact SubL.mem (by k_subL)) (by k_asm) (by first | exact rfl | assumption) (by ktr_room) (by ktr_units) ?_; intro v' h' tk' F' N' hv'; (rename IntOf _ _ => hv9; obtain ⟨u9, e9⟩ := hv9; subst e9); (try dsimp only)); (try k_fold)) | ((with_reducible show wpAny _ _ (call (Value.ref 211) _) _ _ _); k_dflt (refine' SpecA.use (number_in_i _ _ _ _ _ _ _ _ _ _ _ _ _ _) (by k_asm) (by k_asm) (by k_asm) (by k_asm) (by first | exact List.forall_mem_nil _ | exact SubL.mem (by k_subL)) (by k_asm) (by first | exact rfl | assumption) (by ktr_room) (by ktr_units) ?_; intro v' h' tk' F' N' hv'; (rename IntOf _ _ => hv9; obtain ⟨u9, e9⟩ := hv9; subst e9); (try dsimp only)); (try k_fold)) | ((with_reducible show wpAny _ _ (call (Value.ref 211) _) _ _ _); k_dflt (refine' SpecA.use (number_in_s _ #[] #[] _ _ _ _ _ _ _ _ _ 0 _) (by k_asm) (by k_asm) (by k_asm) (by k_asm) (by first | exact List.forall_mem_nil _ | exact SubL.mem (by k_subL)) (by k_asm) (by first | exact rfl | assumption) (by ktr_room) (by ktr_units) ?_; intro v' h' tk' F' N' hv'; (rename IntOf _ _ => hv9; obtain ⟨u9, e9⟩ := hv9; subst e9); (try dsimp only)); (try k_fold)) | ((with_reducible show wpAny _ _ (call (Value.ref 190) _) _ _ _); k_dflt (refine' SpecA.use (padded_spec _ _ _ _ ?_ ?_ ?_) (by k_asm) (by k_asm) (by k_asm) (by k_asm) (by first | exact List.forall_mem_nil _ | exact SubL.mem (by k_subL)) (by k_asm) (by first | exact rfl | assumption) (by ktr_room) (by ktr_units) ?_; (all_goals (first | decide | omega | skip)); intro v' h' tk' F' N' hv'; (rename BytesOf _ _ => hv9; obtain ⟨d9, u9, e9, hd9⟩ := hv9; subst e9); (try dsimp only)); (try k_fold)) | ((with_reducible show wpAny _ _ (execs _ _) _ _ (Shared.mk _ _ _ (HAdd.hAdd (HAdd.hAdd (HAdd.hAdd (HAdd.hAdd _ _) _) _) _) _)); refine gen_toks ?_; intro tk9) | ((with_reducible show wpAny _ _ (eval (PySem.Expr.Name _ _) _) _ _ _); k_here; k_dflt (first | (refine' nameX_L (by k_asm) (by rfl) ?_ (by rfl) (by rfl); k_whole) | (refine' nameX_K (by k_asm) (by k_asm) (by k_asm) (by k_is) ?_ (by rfl) (by rfl); k_whole))) | ((with_reducible show wpAny _ _ (callWith _ (Value.ref _) _ _ _) _ _ _); k_here; k_dflt (first | (refine' callWith_K (by k_asm) (by k_is) ?_; k_whole) | (refine' callWith_K0 (by exact Frag.In.keeps (by k_asm) (Fr.keep (by k_asm))) (by k_is) ?_; k_whole)))) | walk1 | (dsimp only; walk1) | (leave1; walk_say "STEP leave1"; try dsimp only) | fail "no step")
  all_goals first | (refine Say.of ⟨_, _, rfl, ?_, ?_, ?_⟩ <;> omega) | (set_option pp.maxSteps 400 in trace_state)
  all_goals w_report
end
-- part T9
theorem anew_T9 : True ∧ True := by
  w_top off
  first | (walk1; all_goals trivial) | exact ⟨trivial, trivial⟩
section
local macro_rules | `(tactic| walk_at "EndU") => `(tactic| (k_dflt (refine' EndU.say ?F ?N ?S ?_; (case F => k_asm); (case N => k_asm); (case S => exact SubL.mem (by k_subL)))))
set_option maxHeartbeats 4000000 in
theorem take_k (k : Int) (hk0 : 0 < k) : SpecT PySem.Challenge.rw_pf0271_01.row.prog hd.heap_39 386 k := by
  k_fill
  unfold SpecT
  intro w p loose mean mg mb dp un gd cn cs a ccd cl outer A₀ base h₀ L m s Q E bx lst c t u z zc vs ns B F X N T hk hd hu hlt hi hn h0 h1 ret
  refine' specU (binds := [(Str.ofString "box", .ref bx), (Str.ofString "many", .int k u)]) (keep := fun t' => [(bx, boxOf lst (c + 1) t' z), (lst, listOf vs.toArray zc)]) (P := fun v => ∃ (n : Int) (tv : Tok), v = .int n tv ∧ 0 ≤ n ∧ n < k) B F X N T ?kA ?kF ?kK ?k6 ?k7 ?k8 ?k9 ?kB ?_ ?c2 ?c3 ?c4 ?c5 ret
  (case kA => exact rfl); (case kF => exact rfl); (case kK => assumption); (case k6 => k_dflt k_is); (case k7 => k_dflt k_is); (case k8 => ktr_room)
  (case k9 => exact BindsTo.of_eq rfl); (case kB => exact locs rfl); (case c2 => exact rfl); (case c3 => exact rfl); (case c4 => exact rfl); (case c5 => decide)
  clear ret N F X T B
  intro g' L' h' F' N' B' X' T' l1
  replace hlt := ltN hlt
  (try k_lt l1)
  (try dsimp only)
  (try k_fold)
  k_steps
  all_goals first
    | exact Say.of ⟨_, _, rfl, fmod_lo _ hk0, fmod_hi _ hk0⟩
    | (set_option pp.maxSteps 800 in trace_state)
  all_goals w_report
theorem take_3 : SpecT PySem.Challenge.rw_pf0271_01.row.prog hd.heap_39 386 3 := take_k 3 (by decide)
theorem take_21 : SpecT PySem.Challenge.rw_pf0271_01.row.prog hd.heap_39 386 21 := take_k 21 (by decide)
theorem take_4 : SpecT PySem.Challenge.rw_pf0271_01.row.prog hd.heap_39 386 4 := take_k 4 (by decide)
theorem take_6 : SpecT PySem.Challenge.rw_pf0271_01.row.prog hd.heap_39 386 6 := take_k 6 (by decide)
theorem take_50 : SpecT PySem.Challenge.rw_pf0271_01.row.prog hd.heap_39 386 50 := take_k 50 (by decide)
end
-- part T10
theorem anew_T10 : True ∧ True := by
  w_top off
  first | (walk1; all_goals trivial) | exact ⟨trivial, trivial⟩
section
local macro_rules | `(tactic| walk_at "EndT") => `(tactic| (k_dflt (refine' EndT.say ?F ?N ?S ?_; (case F => k_asm); (case N => k_asm); (case S => exact SubL.mem (by k_subL)))))
set_option maxHeartbeats 4000000 in
theorem packet_with_s (ida : Addr) (d e pl : Array UInt8) (n : Int) (td te t1 t2 t3 : Tok) (z0 : Nat) :
    SpecN PySem.Challenge.rw_pf0271_01.row.prog hd.heap_39 225 [.ref ida, .str (Str.ofString "application") t1, .int n t2, .bytes pl t3] [(ida, tupOf [.bytes d td, .bytes e te] z0)] 1 (fun ob => ∃ t0 t1 t2 t3 t4 t5 z, ob = pkS d pl n t0 t1 t2 t3 t4 t5 z) := by
  k_fill
  unfold SpecN
  intro w p loose mean mg mb dp un gd cn cs a ccd cl outer A₀ base h₀ L m s Q E B F X N T hk hd hu ret
  refine' specT (binds := [(Str.ofString "ids", .ref ida), (Str.ofString "space", .str (Str.ofString "application") t1), (Str.ofString "number", .int n t2), (Str.ofString "payload", .bytes pl t3)]) (Pk := fun ob => ∃ t0 t1 t2 t3 t4 t5 z, ob = pkS d pl n t0 t1 t2 t3 t4 t5 z) B F X N T ?kA ?kF ?kK ?k6 ?k7 ?k8 ?k9 ?kB ?_ ?c2 ?c3 ?c4 ?c5 ret
  (case kA => exact rfl); (case kF => exact rfl); (case kK => assumption); (case k6 => k_dflt k_is); (case k7 => k_dflt k_is); (case k8 => ktr_room)
  (case k9 => exact BindsTo.of_eq rfl); (case kB => exact locs rfl); (case c2 => exact rfl); (case c3 => exact rfl); (case c4 => exact rfl); (case c5 => decide)
  clear ret N F X T B
  intro g' L' h' F' N' B' X' T' l1
  (try k_lt l1)
  (try dsimp only)
  (try k_fold)
  k_steps
  all_goals first
    | exact Say.of ⟨_, _, _, _, _, _, _, rfl⟩
    | (set_option pp.maxSteps 800 in trace_state)
  all_goals w_report
set_option maxHeartbeats 4000000 in
theorem packet_with_i (ida : Addr) (d e pl : Array UInt8) (n : Int) (td te t1 t2 t3 : Tok) (z0 : Nat) :
    SpecN PySem.Challenge.rw_pf0271_01.row.prog hd.heap_39 225 [.ref ida, .str (Str.ofString "initial") t1, .int n t2, .bytes pl t3] [(ida, tupOf [.bytes d td, .bytes e te] z0)] 1 (fun ob => ∃ tk t0 t1 t2 t3 t4 t5 t6 z, ob = pkI d e tk pl n t0 t1 t2 t3 t4 t5 t6 z ∧ tk.size = 0) := by
  k_fill
  unfold SpecN
  intro w p loose mean mg mb dp un gd cn cs a ccd cl outer A₀ base h₀ L m s Q E B F X N T hk hd hu ret
  refine' specT (binds := [(Str.ofString "ids", .ref ida), (Str.ofString "space", .str (Str.ofString "initial") t1), (Str.ofString "number", .int n t2), (Str.ofString "payload", .bytes pl t3)]) (Pk := fun ob => ∃ tk t0 t1 t2 t3 t4 t5 t6 z, ob = pkI d e tk pl n t0 t1 t2 t3 t4 t5 t6 z ∧ tk.size = 0) B F X N T ?kA ?kF ?kK ?k6 ?k7 ?k8 ?k9 ?kB ?_ ?c2 ?c3 ?c4 ?c5 ret
  (case kA => exact rfl); (case kF => exact rfl); (case kK => assumption); (case k6 => k_dflt k_is); (case k7 => k_dflt k_is); (case k8 => ktr_room)
  (case k9 => exact BindsTo.of_eq rfl); (case kB => exact locs rfl); (case c2 => exact rfl); (case c3 => exact rfl); (case c4 => exact rfl); (case c5 => decide)
  clear ret N F X T B
  intro g' L' h' F' N' B' X' T' l1
  (try k_lt l1)
  (try dsimp only)
  (try k_fold)
  k_steps
  all_goals first
    | exact Say.of ⟨_, _, _, _, _, _, _, _, _, rfl, by first | rfl | decide⟩
    | (set_option pp.maxSteps 800 in trace_state)
  all_goals w_report
set_option maxHeartbeats 4000000 in
theorem packet_with_h (ida : Addr) (d e pl : Array UInt8) (n : Int) (td te t1 t2 t3 : Tok) (z0 : Nat) :
    SpecN PySem.Challenge.rw_pf0271_01.row.prog hd.heap_39 225 [.ref ida, .str (Str.ofString "handshake") t1, .int n t2, .bytes pl t3] [(ida, tupOf [.bytes d td, .bytes e te] z0)] 1 (fun ob => ∃ t0 t1 t2 t3 t4 t5 z, ob = pkH d e pl n t0 t1 t2 t3 t4 t5 z) := by
  k_fill
  unfold SpecN
  intro w p loose mean mg mb dp un gd cn cs a ccd cl outer A₀ base h₀ L m s Q E B F X N T hk hd hu ret
  refine' specT (binds := [(Str.ofString "ids", .ref ida), (Str.ofString "space", .str (Str.ofString "handshake") t1), (Str.ofString "number", .int n t2), (Str.ofString "payload", .bytes pl t3)]) (Pk := fun ob => ∃ t0 t1 t2 t3 t4 t5 z, ob = pkH d e pl n t0 t1 t2 t3 t4 t5 z) B F X N T ?kA ?kF ?kK ?k6 ?k7 ?k8 ?k9 ?kB ?_ ?c2 ?c3 ?c4 ?c5 ret
  (case kA => exact rfl); (case kF => exact rfl); (case kK => assumption); (case k6 => k_dflt k_is); (case k7 => k_dflt k_is); (case k8 => ktr_room)
  (case k9 => exact BindsTo.of_eq rfl); (case kB => exact locs rfl); (case c2 => exact rfl); (case c3 => exact rfl); (case c4 => exact rfl); (case c5 => decide)
  clear ret N F X T B
  intro g' L' h' F' N' B' X' T' l1
  (try k_lt l1)
  (try dsimp only)
  (try k_fold)
  k_steps
  all_goals first
    | exact Say.of ⟨_, _, _, _, _, _, _, rfl⟩
    | (set_option pp.maxSteps 800 in trace_state)
  all_goals w_report
end
-- part T11
theorem anew_T11 : True ∧ True := by
  w_top off
  first | (walk1; all_goals trivial) | exact ⟨trivial, trivial⟩
section
/-- SpecP in one world -/
def SpecPW (prog : Program) (w : World) (K : Params → Frag) (f : Addr) (vs : List Value) (sub : List (Addr × Obj)) (c : Nat) (P : Value → Prop) : Prop :=
  ∀ (p : Program) (loose : List Str) (mean : ExcName → Option Value) (mg mb : Str → Option Value) (dp un : Nat) (gd : Option (List Code)) (cn : Str) (cs : Scope) (a : Addr) (ccd : Value) (cl : List (Str × Addr)) (outer : List Env) (A₀ : Around) (base h₀ : Heap) (L : Addr) (m : Str → Option Value) (s : Shared) (Q E : Value → Shared → Prop),
    Below A₀ base outer h₀ → Fr h₀ L s.heap m → (K w.params).In h₀ → News h₀ L s.heap sub → Top p loose mean mg mb h₀ → cs.kind = .function → dp + c < recursionLimit → un + 8 * c < cLine → RetS s P Q →
      wpP (model prog w) (ktrTop dp un gd cn cs L a ccd cl outer) (call (.ref f) vs) Q E s
theorem SpecPW.use {prog : Program} {w : World} {E : Value → Shared → Prop} {s : Shared} {h₀ base : Heap} {L : Addr} {m mg mb : Str → Option Value} {news sub : List (Addr × Obj)} {K : Params → Frag} {f : Addr} {vs : List Value} {c : Nat} {P : Value → Prop} {Q : Value → Shared → Prop}
    {p : Program} {loose : List Str} {mean : ExcName → Option Value} {dp un : Nat} {gd : Option (List Code)} {cn : Str} {cs : Scope} {a : Addr} {ccd : Value} {cl : List (Str × Addr)} {outer : List Env} {A₀ : Around}
    (h : SpecPW prog w K f vs sub c P) (B : Below A₀ base outer h₀) (F : Fr h₀ L s.heap m) (X : (K w.params).In h₀) (N : News h₀ L s.heap news) (S : ∀ p ∈ sub, p ∈ news) (T : Top p loose mean mg mb h₀) (hk : cs.kind = .function)
    (hd : dp + c < recursionLimit) (hu : un + 8 * c < cLine)
    (ret : ∀ v h' tk', Fr h₀ L h' m → News h₀ L h' news → P v → Q v { s with heap := h', toks := tk' }) : wpP (model prog w) (ktrTop dp un gd cn cs L a ccd cl outer) (call (.ref f) vs) Q E s :=
  h p loose mean mg mb dp un gd cn cs a ccd cl outer A₀ base h₀ L m s Q E B F X (fun p hp => N p (S p hp)) T hk hd hu
    fun v h' tk' kp hv => ret v h' tk' (F.keeps kp) (fun q hq => ⟨kp _ _ (N q hq).1, (N q hq).2⟩) hv
set_option maxHeartbeats 4000000 in
theorem head_octets_s_none (w : World) (o : Obj) (ida pla tpa : Addr) (d e : Array UInt8) (n j : Int) (td te tn u0 t1 : Tok) (z0 z1 : Nat) (hd0 : o.IsDictOf (PySem.strKind PySem.Challenge.rw_pf0271_01.row.prog w) [(Str.ofString "application", .ref tpa)]) (hs0 : (pla == sysModules) = false) (h1 : d.size ≤ 20) (h2 : e.size ≤ 20) (h7 : 0 ≤ n) (h8 : n < 1000000) :
    SpecPW PySem.Challenge.rw_pf0271_01.row.prog w hd.heap_39 232 [.ref ida, .ref pla, .str (Str.ofString "application") t1] [(ida, tupOf [.bytes d td, .bytes e te] z0), (pla, o), (tpa, tupOf [.int n tn, .none] z1)] 6 (IntOf (20 + d.size + nsOf (n + 1))) := by
  k_fill
  unfold SpecPW
  intros
  refine' specP (binds := [(Str.ofString "ids", .ref ida), (Str.ofString "places", .ref pla), (Str.ofString "space", .str (Str.ofString "application") t1)]) ?b1 ?b2 ?b3 ?b4 ?b5 ?kA ?kF ?kK ?k6 ?k7 ?k8 ?k9 ?kB ?_ ?c2 ?c3 ?c4 ?c5 ?ret
  walk_at "spec side"
  repeat' (first | (k_unfold; (try dsimp only)) | ((with_reducible show wpP _ _ _ _ _ _); first | ((with_reducible show wpP _ _ (call (Value.ref 218) [Value.ref _, Value.int _ _]) _ _ _); k_dflt (refine' SpecP.use (packet_size_h_int _ _ #[] _ _ _ _ _ _ _ _ _ _ 0 _ _ ?_ ?_ (by decide) ?_ ?_ ?_ ?_ ?_) (by k_asm) (by k_asm) (by k_asm) (by k_asm) (by first | exact List.forall_mem_nil _ | exact SubL.mem (by k_subL)) (by k_asm) (by first | exact rfl | assumption) (by ktr_room) (by ktr_units) ?_; (all_goals (first | decide | assumption | omega | skip)); intro v' h' tk' F' N' hv'; (rename OctOf _ _ _ => hv9; obtain ⟨o9, u9, e9, ho91, ho92, ho93⟩ := hv9; subst e9); (try dsimp only)); (try k_fold)) | ((with_reducible show wpP _ _ (call (Value.ref 218) [Value.ref _, Value.none]) _ _ _); k_dflt (refine' SpecP.use (packet_size_h_none _ _ #[] _ _ 0 _ _ _ _ _ _ _ 0 0 _ ?_ ?_ (by decide) ?_ ?_ ?_) (by k_asm) (by k_asm) (by k_asm) (by k_asm) (by first | exact List.forall_mem_nil _ | exact SubL.mem (by k_subL)) (by k_asm) (by first | exact rfl | assumption) (by ktr_room) (by ktr_units) ?_; (all_goals (first | decide | assumption | omega | skip)); intro v' h' tk' F' N' hv'; (rename OctOf _ _ _ => hv9; obtain ⟨o9, u9, e9, ho91, ho92, ho93⟩ := hv9; subst e9); (try dsimp only)); (try k_fold)) | ((with_reducible show wpP _ _ (call (Value.ref 218) [Value.ref _, Value.int _ _]) _ _ _); k_dflt (refine' SpecP.use (packet_size_i_int _ _ _ _ _ _ _ _ _ _ _ _ _ _ _ _ ?_ ?_ ?_ ?_ ?_ ?_ ?_ ?_) (by k_asm) (by k_asm) (by k_asm) (by k_asm) (by first | exact List.forall_mem_nil _ | exact SubL.mem (by k_subL)) (by k_asm) (by first | exact rfl | assumption) (by ktr_room) (by ktr_units) ?_; (all_goals (first | decide | assumption | omega | skip)); intro v' h' tk' F' N' hv'; (rename OctOf _ _ _ => hv9; obtain ⟨o9, u9, e9, ho91, ho92, ho93⟩ := hv9; subst e9); (try dsimp only)); (try k_fold)) | ((with_reducible show wpP _ _ (call (Value.ref 218) [Value.ref _, Value.none]) _ _ _); k_dflt (refine' SpecP.use (packet_size_i_none _ _ _ _ _ 0 _ _ _ _ _ _ _ _ 0 _ ?_ ?_ ?_ ?_ ?_ ?_) (by k_asm) (by k_asm) (by k_asm) (by k_asm) (by first | exact List.forall_mem_nil _ | exact SubL.mem (by k_subL)) (by k_asm) (by first | exact rfl | assumption) (by ktr_room) (by ktr_units) ?_; (all_goals (first | decide | assumption | omega | skip)); intro v' h' tk' F' N' hv'; (rename OctOf _ _ _ => hv9; obtain ⟨o9, u9, e9, ho91, ho92, ho93⟩ := hv9; subst e9); (try dsimp only)); (try k_fold)) | ((with_reducible show wpP _ _ (call (Value.ref 218) [Value.ref _, Value.int _ _]) _ _ _); k_dflt (refine' SpecP.use (packet_size_s_int _ #[] #[] _ _ _ _ _ _ _ _ _ _ 0 _ _ ?_ (by decide) (by decide) ?_ ?_ ?_ ?_ ?_) (by k_asm) (by k_asm) (by k_asm) (by k_asm) (by first | exact List.forall_mem_nil _ | exact SubL.mem (by k_subL)) (by k_asm) (by first | exact rfl | assumption) (by ktr_room) (by ktr_units) ?_; (all_goals (first | decide | assumption | omega | skip)); intro v' h' tk' F' N' hv'; (rename OctOf _ _ _ => hv9; obtain ⟨o9, u9, e9, ho91, ho92, ho93⟩ := hv9; subst e9); (try dsimp only)); (try k_fold)) | ((with_reducible show wpP _ _ (call (Value.ref 218) [Value.ref _, Value.none]) _ _ _); k_dflt (refine' SpecP.use (packet_size_s_none _ #[] #[] _ _ 0 _ _ _ _ _ _ _ 0 0 _ ?_ (by decide) (by decide) ?_ ?_ ?_) (by k_asm) (by k_asm) (by k_asm) (by k_asm) (by first | exact List.forall_mem_nil _ | exact SubL.mem (by k_subL)) (by k_asm) (by first | exact rfl | assumption) (by ktr_room) (by ktr_units) ?_; (all_goals (first | decide | assumption | omega | skip)); intro v' h' tk' F' N' hv'; (rename OctOf _ _ _ => hv9; obtain ⟨o9, u9, e9, ho91, ho92, ho93⟩ := hv9; subst e9); (try dsimp only)); (try k_fold)) | walk1) | (k_end; wrow_close) | ((with_reducible show wpAny _ _ _ _ _ _); first | ((with_reducible show wpAny _ _ (call (Value.ref 225) [_, Value.str (Str.ofString "handshake") _, _, _]) _ _ _); k_dflt (refine' SpecN.use (packet_with_h _ _ _ _ _ _ _ _ _ _ _) (by k_asm) (by k_asm) (by k_asm) (by k_asm) (by first | exact List.forall_mem_nil _ | exact SubL.mem (by k_subL)) (by k_asm) (by first | exact rfl | assumption) (by ktr_room) (by ktr_units) ?_; intro a' ob' h' tk' F' N' hp'; obtain ⟨_, _, _, _, _, _, _, e9⟩ := hp'; subst e9; (try dsimp only)); (try k_fold)) | ((with_reducible show wpAny _ _ (call (Value.ref 225) [_, Value.str (Str.ofString "initial") _, _, _]) _ _ _); k_dflt (refine' SpecN.use (packet_with_i _ _ _ _ _ _ _ _ _ _ _) (by k_asm) (by k_asm) (by k_asm) (by k_asm) (by first | exact List.forall_mem_nil _ | exact SubL.mem (by k_subL)) (by k_asm) (by first | exact rfl | assumption) (by ktr_room) (by ktr_units) ?_; intro a' ob' h' tk' F' N' hp'; obtain ⟨_, _, _, _, _, _, _, _, _, e9, hz9⟩ := hp'; subst e9; (try dsimp only)); (try k_fold)) | ((with_reducible show wpAny _ _ (call (Value.ref 225) [_, Value.str (Str.ofString "application") _, _, _]) _ _ _); k_dflt (refine' SpecN.use (packet_with_s _ _ _ _ _ _ _ _ _ _ _) (by k_asm) (by k_asm) (by k_asm) (by k_asm) (by first | exact List.forall_mem_nil _ | exact SubL.mem (by k_subL)) (by k_asm) (by first | exact rfl | assumption) (by ktr_room) (by ktr_units) ?_; intro a' ob' h' tk' F' N' hp'; obtain ⟨_, _, _, _, _, _, _, e9⟩ := hp'; subst e9; (try dsimp only)); (try k_fold)) | ((with_reducible show wpAny _ _ (execs _ _) _ _ (Shared.mk _ _ _ (HAdd.hAdd (HAdd.hAdd (HAdd.hAdd (HAdd.hAdd _ _) _) _) _) _)); refine gen_toks ?_; intro tk9) | ((with_reducible show wpAny _ _ (eval (PySem.Expr.Name _ _) _) _ _ _); k_here; k_dflt (first | (refine' nameX_L (by k_asm) (by rfl) ?_ (by rfl) (by rfl); k_whole) | (refine' nameX_K (by k_asm) (by k_asm) (by k_asm) (by k_is) ?_ (by rfl) (by rfl); k_whole))) | ((with_reducible show wpAny _ _ (callWith _ (Value.ref _) _ _ _) _ _ _); k_here; k_dflt (first | (refine' callWith_K (by k_asm) (by k_is) ?_; k_whole) | (refine' callWith_K0 (by exact Frag.In.keeps (by k_asm) (Fr.keep (by k_asm))) (by k_is) ?_; k_whole)))) | walk1 | (dsimp only; walk1) | (leave1; walk_say "STEP leave1"; try dsimp only) | fail "no step")
  all_goals first
    | exact Say.of (int_ex (by omega))
    | (set_option pp.maxSteps 1500 in trace_state)
  all_goals w_report
set_option maxHeartbeats 4000000 in
theorem head_octets_s_int (w : World) (o : Obj) (ida pla tpa : Addr) (d e : Array UInt8) (n j : Int) (td te tn u0 t1 : Tok) (z0 z1 : Nat) (hd0 : o.IsDictOf (PySem.strKind PySem.Challenge.rw_pf0271_01.row.prog w) [(Str.ofString "application", .ref tpa)]) (hs0 : (pla == sysModules) = false) (h1 : d.size ≤ 20) (h2 : e.size ≤ 20) (h7 : 0 ≤ n - j) (h8 : n - j < 1000000) (h9 : 0 ≤ j) (h10 : j < 1000) :
    SpecPW PySem.Challenge.rw_pf0271_01.row.prog w hd.heap_39 232 [.ref ida, .ref pla, .str (Str.ofString "application") t1] [(ida, tupOf [.bytes d td, .bytes e te] z0), (pla, o), (tpa, tupOf [.int n tn, .int j u0] z1)] 6 (IntOf (20 + d.size + nsOf (n - j))) := by
  k_fill
  unfold SpecPW
  intros
  refine' specP (binds := [(Str.ofString "ids", .ref ida), (Str.ofString "places", .ref pla), (Str.ofString "space", .str (Str.ofString "application") t1)]) ?b1 ?b2 ?b3 ?b4 ?b5 ?kA ?kF ?kK ?k6 ?k7 ?k8 ?k9 ?kB ?_ ?c2 ?c3 ?c4 ?c5 ?ret
  walk_at "spec side"
  repeat' (first | (k_unfold; (try dsimp only)) | ((with_reducible show wpP _ _ _ _ _ _); first | ((with_reducible show wpP _ _ (call (Value.ref 218) [Value.ref _, Value.int _ _]) _ _ _); k_dflt (refine' SpecP.use (packet_size_h_int _ _ #[] _ _ _ _ _ _ _ _ _ _ 0 _ _ ?_ ?_ (by decide) ?_ ?_ ?_ ?_ ?_) (by k_asm) (by k_asm) (by k_asm) (by k_asm) (by first | exact List.forall_mem_nil _ | exact SubL.mem (by k_subL)) (by k_asm) (by first | exact rfl | assumption) (by ktr_room) (by ktr_units) ?_; (all_goals (first | decide | assumption | omega | skip)); intro v' h' tk' F' N' hv'; (rename OctOf _ _ _ => hv9; obtain ⟨o9, u9, e9, ho91, ho92, ho93⟩ := hv9; subst e9); (try dsimp only)); (try k_fold)) | ((with_reducible show wpP _ _ (call (Value.ref 218) [Value.ref _, Value.none]) _ _ _); k_dflt (refine' SpecP.use (packet_size_h_none _ _ #[] _ _ 0 _ _ _ _ _ _ _ 0 0 _ ?_ ?_ (by decide) ?_ ?_ ?_) (by k_asm) (by k_asm) (by k_asm) (by k_asm) (by first | exact List.forall_mem_nil _ | exact SubL.mem (by k_subL)) (by k_asm) (by first | exact rfl | assumption) (by ktr_room) (by ktr_units) ?_; (all_goals (first | decide | assumption | omega | skip)); intro v' h' tk' F' N' hv'; (rename OctOf _ _ _ => hv9; obtain ⟨o9, u9, e9, ho91, ho92, ho93⟩ := hv9; subst e9); (try dsimp only)); (try k_fold)) | ((with_reducible show wpP _ _ (call (Value.ref 218) [Value.ref _, Value.int _ _]) _ _ _); k_dflt (refine' SpecP.use (packet_size_i_int _ _ _ _ _ _ _ _ _ _ _ _ _ _ _ _ ?_ ?_ ?_ ?_ ?_ ?_ ?_ ?_) (by k_asm) (by k_asm) (by k_asm) (by k_asm) (by first | exact List.forall_mem_nil _ | exact SubL.mem (by k_subL)) (by k_asm) (by first | exact rfl | assumption) (by ktr_room) (by ktr_units) ?_; (all_goals (first | decide | assumption | omega | skip)); intro v' h' tk' F' N' hv'; (rename OctOf _ _ _ => hv9; obtain ⟨o9, u9, e9, ho91, ho92, ho93⟩ := hv9; subst e9); (try dsimp only)); (try k_fold)) | ((with_reducible show wpP _ _ (call (Value.ref 218) [Value.ref _, Value.none]) _ _ _); k_dflt (refine' SpecP.use (packet_size_i_none _ _ _ _ _ 0 _ _ _ _ _ _ _ _ 0 _ ?_ ?_ ?_ ?_ ?_ ?_) (by k_asm) (by k_asm) (by k_asm) (by k_asm) (by first | exact List.forall_mem_nil _ | exact SubL.mem (by k_subL)) (by k_asm) (by first | exact rfl | assumption) (by ktr_room) (by ktr_units) ?_; (all_goals (first | decide | assumption | omega | skip)); intro v' h' tk' F' N' hv'; (rename OctOf _ _ _ => hv9; obtain ⟨o9, u9, e9, ho91, ho92, ho93⟩ := hv9; subst e9); (try dsimp only)); (try k_fold)) | ((with_reducible show wpP _ _ (call (Value.ref 218) [Value.ref _, Value.int _ _]) _ _ _); k_dflt (refine' SpecP.use (packet_size_s_int _ #[] #[] _ _ _ _ _ _ _ _ _ _ 0 _ _ ?_ (by decide) (by decide) ?_ ?_ ?_ ?_ ?_) (by k_asm) (by k_asm) (by k_asm) (by k_asm) (by first | exact List.forall_mem_nil _ | exact SubL.mem (by k_subL)) (by k_asm) (by first | exact rfl | assumption) (by ktr_room) (by ktr_units) ?_; (all_goals (first | decide | assumption | omega | skip)); intro v' h' tk' F' N' hv'; (rename OctOf _ _ _ => hv9; obtain ⟨o9, u9, e9, ho91, ho92, ho93⟩ := hv9; subst e9); (try dsimp only)); (try k_fold)) | ((with_reducible show wpP _ _ (call (Value.ref 218) [Value.ref _, Value.none]) _ _ _); k_dflt (refine' SpecP.use (packet_size_s_none _ #[] #[] _ _ 0 _ _ _ _ _ _ _ 0 0 _ ?_ (by decide) (by decide) ?_ ?_ ?_) (by k_asm) (by k_asm) (by k_asm) (by k_asm) (by first | exact List.forall_mem_nil _ | exact SubL.mem (by k_subL)) (by k_asm) (by first | exact rfl | assumption) (by ktr_room) (by ktr_units) ?_; (all_goals (first | decide | assumption | omega | skip)); intro v' h' tk' F' N' hv'; (rename OctOf _ _ _ => hv9; obtain ⟨o9, u9, e9, ho91, ho92, ho93⟩ := hv9; subst e9); (try dsimp only)); (try k_fold)) | walk1) | (k_end; wrow_close) | ((with_reducible show wpAny _ _ _ _ _ _); first | ((with_reducible show wpAny _ _ (call (Value.ref 225) [_, Value.str (Str.ofString "handshake") _, _, _]) _ _ _); k_dflt (refine' SpecN.use (packet_with_h _ _ _ _ _ _ _ _ _ _ _) (by k_asm) (by k_asm) (by k_asm) (by k_asm) (by first | exact List.forall_mem_nil _ | exact SubL.mem (by k_subL)) (by k_asm) (by first | exact rfl | assumption) (by ktr_room) (by ktr_units) ?_; intro a' ob' h' tk' F' N' hp'; obtain ⟨_, _, _, _, _, _, _, e9⟩ := hp'; subst e9; (try dsimp only)); (try k_fold)) | ((with_reducible show wpAny _ _ (call (Value.ref 225) [_, Value.str (Str.ofString "initial") _, _, _]) _ _ _); k_dflt (refine' SpecN.use (packet_with_i _ _ _ _ _ _ _ _ _ _ _) (by k_asm) (by k_asm) (by k_asm) (by k_asm) (by first | exact List.forall_mem_nil _ | exact SubL.mem (by k_subL)) (by k_asm) (by first | exact rfl | assumption) (by ktr_room) (by ktr_units) ?_; intro a' ob' h' tk' F' N' hp'; obtain ⟨_, _, _, _, _, _, _, _, _, e9, hz9⟩ := hp'; subst e9; (try dsimp only)); (try k_fold)) | ((with_reducible show wpAny _ _ (call (Value.ref 225) [_, Value.str (Str.ofString "application") _, _, _]) _ _ _); k_dflt (refine' SpecN.use (packet_with_s _ _ _ _ _ _ _ _ _ _ _) (by k_asm) (by k_asm) (by k_asm) (by k_asm) (by first | exact List.forall_mem_nil _ | exact SubL.mem (by k_subL)) (by k_asm) (by first | exact rfl | assumption) (by ktr_room) (by ktr_units) ?_; intro a' ob' h' tk' F' N' hp'; obtain ⟨_, _, _, _, _, _, _, e9⟩ := hp'; subst e9; (try dsimp only)); (try k_fold)) | ((with_reducible show wpAny _ _ (execs _ _) _ _ (Shared.mk _ _ _ (HAdd.hAdd (HAdd.hAdd (HAdd.hAdd (HAdd.hAdd _ _) _) _) _) _)); refine gen_toks ?_; intro tk9) | ((with_reducible show wpAny _ _ (eval (PySem.Expr.Name _ _) _) _ _ _); k_here; k_dflt (first | (refine' nameX_L (by k_asm) (by rfl) ?_ (by rfl) (by rfl); k_whole) | (refine' nameX_K (by k_asm) (by k_asm) (by k_asm) (by k_is) ?_ (by rfl) (by rfl); k_whole))) | ((with_reducible show wpAny _ _ (callWith _ (Value.ref _) _ _ _) _ _ _); k_here; k_dflt (first | (refine' callWith_K (by k_asm) (by k_is) ?_; k_whole) | (refine' callWith_K0 (by exact Frag.In.keeps (by k_asm) (Fr.keep (by k_asm))) (by k_is) ?_; k_whole)))) | walk1 | (dsimp only; walk1) | (leave1; walk_say "STEP leave1"; try dsimp only) | fail "no step")
  all_goals first
    | exact Say.of (int_ex (by omega))
    | (set_option pp.maxSteps 1500 in trace_state)
  all_goals w_report
set_option maxHeartbeats 4000000 in
theorem head_octets_i_none (w : World) (o : Obj) (ida pla tpa : Addr) (d e : Array UInt8) (n j : Int) (td te tn u0 t1 : Tok) (z0 z1 : Nat) (hd0 : o.IsDictOf (PySem.strKind PySem.Challenge.rw_pf0271_01.row.prog w) [(Str.ofString "initial", .ref tpa)]) (hs0 : (pla == sysModules) = false) (h1 : d.size ≤ 20) (h2 : e.size ≤ 20) (h7 : 0 ≤ n) (h8 : n < 1000000) :
    SpecPW PySem.Challenge.rw_pf0271_01.row.prog w hd.heap_39 232 [.ref ida, .ref pla, .str (Str.ofString "initial") t1] [(ida, tupOf [.bytes d td, .bytes e te] z0), (pla, o), (tpa, tupOf [.int n tn, .none] z1)] 6 (IntOf (28 + d.size + e.size + nsOf (n + 1))) := by
  k_fill
  unfold SpecPW
  intros
  refine' specP (binds := [(Str.ofString "ids", .ref ida), (Str.ofString "places", .ref pla), (Str.ofString "space", .str (Str.ofString "initial") t1)]) ?b1 ?b2 ?b3 ?b4 ?b5 ?kA ?kF ?kK ?k6 ?k7 ?k8 ?k9 ?kB ?_ ?c2 ?c3 ?c4 ?c5 ?ret
  walk_at "spec side"
  repeat' (first | (k_unfold; (try dsimp only)) | ((with_reducible show wpP _ _ _ _ _ _); first | ((with_reducible show wpP _ _ (call (Value.ref 218) [Value.ref _, Value.int _ _]) _ _ _); k_dflt (refine' SpecP.use (packet_size_h_int _ _ #[] _ _ _ _ _ _ _ _ _ _ 0 _ _ ?_ ?_ (by decide) ?_ ?_ ?_ ?_ ?_) (by k_asm) (by k_asm) (by k_asm) (by k_asm) (by first | exact List.forall_mem_nil _ | exact SubL.mem (by k_subL)) (by k_asm) (by first | exact rfl | assumption) (by ktr_room) (by ktr_units) ?_; (all_goals (first | decide | assumption | omega | skip)); intro v' h' tk' F' N' hv'; (rename OctOf _ _ _ => hv9; obtain ⟨o9, u9, e9, ho91, ho92, ho93⟩ := hv9; subst e9); (try dsimp only)); (try k_fold)) | ((with_reducible show wpP _ _ (call (Value.ref 218) [Value.ref _, Value.none]) _ _ _); k_dflt (refine' SpecP.use (packet_size_h_none _ _ #[] _ _ 0 _ _ _ _ _ _ _ 0 0 _ ?_ ?_ (by decide) ?_ ?_ ?_) (by k_asm) (by k_asm) (by k_asm) (by k_asm) (by first | exact List.forall_mem_nil _ | exact SubL.mem (by k_subL)) (by k_asm) (by first | exact rfl | assumption) (by ktr_room) (by ktr_units) ?_; (all_goals (first | decide | assumption | omega | skip)); intro v' h' tk' F' N' hv'; (rename OctOf _ _ _ => hv9; obtain ⟨o9, u9, e9, ho91, ho92, ho93⟩ := hv9; subst e9); (try dsimp only)); (try k_fold)) | ((with_reducible show wpP _ _ (call (Value.ref 218) [Value.ref _, Value.int _ _]) _ _ _); k_dflt (refine' SpecP.use (packet_size_i_int _ _ _ _ _ _ _ _ _ _ _ _ _ _ _ _ ?_ ?_ ?_ ?_ ?_ ?_ ?_ ?_) (by k_asm) (by k_asm) (by k_asm) (by k_asm) (by first | exact List.forall_mem_nil _ | exact SubL.mem (by k_subL)) (by k_asm) (by first | exact rfl | assumption) (by ktr_room) (by ktr_units) ?_; (all_goals (first | decide | assumption | omega | skip)); intro v' h' tk' F' N' hv'; (rename OctOf _ _ _ => hv9; obtain ⟨o9, u9, e9, ho91, ho92, ho93⟩ := hv9; subst e9); (try dsimp only)); (try k_fold)) | ((with_reducible show wpP _ _ (call (Value.ref 218) [Value.ref _, Value.none]) _ _ _); k_dflt (refine' SpecP.use (packet_size_i_none _ _ _ _ _ 0 _ _ _ _ _ _ _ _ 0 _ ?_ ?_ ?_ ?_ ?_ ?_) (by k_asm) (by k_asm) (by k_asm) (by k_asm) (by first | exact List.forall_mem_nil _ | exact SubL.mem (by k_subL)) (by k_asm) (by first | exact rfl | assumption) (by ktr_room) (by ktr_units) ?_; (all_goals (first | decide | assumption | omega | skip)); intro v' h' tk' F' N' hv'; (rename OctOf _ _ _ => hv9; obtain ⟨o9, u9, e9, ho91, ho92, ho93⟩ := hv9; subst e9); (try dsimp only)); (try k_fold)) | ((with_reducible show wpP _ _ (call (Value.ref 218) [Value.ref _, Value.int _ _]) _ _ _); k_dflt (refine' SpecP.use (packet_size_s_int _ #[] #[] _ _ _ _ _ _ _ _ _ _ 0 _ _ ?_ (by decide) (by decide) ?_ ?_ ?_ ?_ ?_) (by k_asm) (by k_asm) (by k_asm) (by k_asm) (by first | exact List.forall_mem_nil _ | exact SubL.mem (by k_subL)) (by k_asm) (by first | exact rfl | assumption) (by ktr_room) (by ktr_units) ?_; (all_goals (first | decide | assumption | omega | skip)); intro v' h' tk' F' N' hv'; (rename OctOf _ _ _ => hv9; obtain ⟨o9, u9, e9, ho91, ho92, ho93⟩ := hv9; subst e9); (try dsimp only)); (try k_fold)) | ((with_reducible show wpP _ _ (call (Value.ref 218) [Value.ref _, Value.none]) _ _ _); k_dflt (refine' SpecP.use (packet_size_s_none _ #[] #[] _ _ 0 _ _ _ _ _ _ _ 0 0 _ ?_ (by decide) (by decide) ?_ ?_ ?_) (by k_asm) (by k_asm) (by k_asm) (by k_asm) (by first | exact List.forall_mem_nil _ | exact SubL.mem (by k_subL)) (by k_asm) (by first | exact rfl | assumption) (by ktr_room) (by ktr_units) ?_; (all_goals (first | decide | assumption | omega | skip)); intro v' h' tk' F' N' hv'; (rename OctOf _ _ _ => hv9; obtain ⟨o9, u9, e9, ho91, ho92, ho93⟩ := hv9; subst e9); (try dsimp only)); (try k_fold)) | walk1) | (k_end; wrow_close) | ((with_reducible show wpAny _ _ _ _ _ _); first | ((with_reducible show wpAny _ _ (call (Value.ref 225) [_, Value.str (Str.ofString "handshake") _, _, _]) _ _ _); k_dflt (refine' SpecN.use (packet_with_h _ _ _ _ _ _ _ _ _ _ _) (by k_asm) (by k_asm) (by k_asm) (by k_asm) (by first | exact List.forall_mem_nil _ | exact SubL.mem (by k_subL)) (by k_asm) (by first | exact rfl | assumption) (by ktr_room) (by ktr_units) ?_; intro a' ob' h' tk' F' N' hp'; obtain ⟨_, _, _, _, _, _, _, e9⟩ := hp'; subst e9; (try dsimp only)); (try k_fold)) | ((with_reducible show wpAny _ _ (call (Value.ref 225) [_, Value.str (Str.ofString "initial") _, _, _]) _ _ _); k_dflt (refine' SpecN.use (packet_with_i _ _ _ _ _ _ _ _ _ _ _) (by k_asm) (by k_asm) (by k_asm) (by k_asm) (by first | exact List.forall_mem_nil _ | exact SubL.mem (by k_subL)) (by k_asm) (by first | exact rfl | assumption) (by ktr_room) (by ktr_units) ?_; intro a' ob' h' tk' F' N' hp'; obtain ⟨_, _, _, _, _, _, _, _, _, e9, hz9⟩ := hp'; subst e9; (try dsimp only)); (try k_fold)) | ((with_reducible show wpAny _ _ (call (Value.ref 225) [_, Value.str (Str.ofString "application") _, _, _]) _ _ _); k_dflt (refine' SpecN.use (packet_with_s _ _ _ _ _ _ _ _ _ _ _) (by k_asm) (by k_asm) (by k_asm) (by k_asm) (by first | exact List.forall_mem_nil _ | exact SubL.mem (by k_subL)) (by k_asm) (by first | exact rfl | assumption) (by ktr_room) (by ktr_units) ?_; intro a' ob' h' tk' F' N' hp'; obtain ⟨_, _, _, _, _, _, _, e9⟩ := hp'; subst e9; (try dsimp only)); (try k_fold)) | ((with_reducible show wpAny _ _ (execs _ _) _ _ (Shared.mk _ _ _ (HAdd.hAdd (HAdd.hAdd (HAdd.hAdd (HAdd.hAdd _ _) _) _) _) _)); refine gen_toks ?_; intro tk9) | ((with_reducible show wpAny _ _ (eval (PySem.Expr.Name _ _) _) _ _ _); k_here; k_dflt (first | (refine' nameX_L (by k_asm) (by rfl) ?_ (by rfl) (by rfl); k_whole) | (refine' nameX_K (by k_asm) (by k_asm) (by k_asm) (by k_is) ?_ (by rfl) (by rfl); k_whole))) | ((with_reducible show wpAny _ _ (callWith _ (Value.ref _) _ _ _) _ _ _); k_here; k_dflt (first | (refine' callWith_K (by k_asm) (by k_is) ?_; k_whole) | (refine' callWith_K0 (by exact Frag.In.keeps (by k_asm) (Fr.keep (by k_asm))) (by k_is) ?_; k_whole)))) | walk1 | (dsimp only; walk1) | (leave1; walk_say "STEP leave1"; try dsimp only) | fail "no step")
  all_goals first
    | exact Say.of (int_ex (by omega))
    | (set_option pp.maxSteps 1500 in trace_state)
  all_goals w_report
set_option maxHeartbeats 4000000 in
theorem head_octets_i_int (w : World) (o : Obj) (ida pla tpa : Addr) (d e : Array UInt8) (n j : Int) (td te tn u0 t1 : Tok) (z0 z1 : Nat) (hd0 : o.IsDictOf (PySem.strKind PySem.Challenge.rw_pf0271_01.row.prog w) [(Str.ofString "initial", .ref tpa)]) (hs0 : (pla == sysModules) = false) (h1 : d.size ≤ 20) (h2 : e.size ≤ 20) (h7 : 0 ≤ n - j) (h8 : n - j < 1000000) (h9 : 0 ≤ j) (h10 : j < 1000) :
    SpecPW PySem.Challenge.rw_pf0271_01.row.prog w hd.heap_39 232 [.ref ida, .ref pla, .str (Str.ofString "initial") t1] [(ida, tupOf [.bytes d td, .bytes e te] z0), (pla, o), (tpa, tupOf [.int n tn, .int j u0] z1)] 6 (IntOf (28 + d.size + e.size + nsOf (n - j))) := by
  k_fill
  unfold SpecPW
  intros
  refine' specP (binds := [(Str.ofString "ids", .ref ida), (Str.ofString "places", .ref pla), (Str.ofString "space", .str (Str.ofString "initial") t1)]) ?b1 ?b2 ?b3 ?b4 ?b5 ?kA ?kF ?kK ?k6 ?k7 ?k8 ?k9 ?kB ?_ ?c2 ?c3 ?c4 ?c5 ?ret
  walk_at "spec side"
  repeat' (first | (k_unfold; (try dsimp only)) | ((with_reducible show wpP _ _ _ _ _ _); first | ((with_reducible show wpP _ _ (call (Value.ref 218) [Value.ref _, Value.int _ _]) _ _ _); k_dflt (refine' SpecP.use (packet_size_h_int _ _ #[] _ _ _ _ _ _ _ _ _ _ 0 _ _ ?_ ?_ (by decide) ?_ ?_ ?_ ?_ ?_) (by k_asm) (by k_asm) (by k_asm) (by k_asm) (by first | exact List.forall_mem_nil _ | exact SubL.mem (by k_subL)) (by k_asm) (by first | exact rfl | assumption) (by ktr_room) (by ktr_units) ?_; (all_goals (first | decide | assumption | omega | skip)); intro v' h' tk' F' N' hv'; (rename OctOf _ _ _ => hv9; obtain ⟨o9, u9, e9, ho91, ho92, ho93⟩ := hv9; subst e9); (try dsimp only)); (try k_fold)) | ((with_reducible show wpP _ _ (call (Value.ref 218) [Value.ref _, Value.none]) _ _ _); k_dflt (refine' SpecP.use (packet_size_h_none _ _ #[] _ _ 0 _ _ _ _ _ _ _ 0 0 _ ?_ ?_ (by decide) ?_ ?_ ?_) (by k_asm) (by k_asm) (by k_asm) (by k_asm) (by first | exact List.forall_mem_nil _ | exact SubL.mem (by k_subL)) (by k_asm) (by first | exact rfl | assumption) (by ktr_room) (by ktr_units) ?_; (all_goals (first | decide | assumption | omega | skip)); intro v' h' tk' F' N' hv'; (rename OctOf _ _ _ => hv9; obtain ⟨o9, u9, e9, ho91, ho92, ho93⟩ := hv9; subst e9); (try dsimp only)); (try k_fold)) | ((with_reducible show wpP _ _ (call (Value.ref 218) [Value.ref _, Value.int _ _]) _ _ _); k_dflt (refine' SpecP.use (packet_size_i_int _ _ _ _ _ _ _ _ _ _ _ _ _ _ _ _ ?_ ?_ ?_ ?_ ?_ ?_ ?_ ?_) (by k_asm) (by k_asm) (by k_asm) (by k_asm) (by first | exact List.forall_mem_nil _ | exact SubL.mem (by k_subL)) (by k_asm) (by first | exact rfl | assumption) (by ktr_room) (by ktr_units) ?_; (all_goals (first | decide | assumption | omega | skip)); intro v' h' tk' F' N' hv'; (rename OctOf _ _ _ => hv9; obtain ⟨o9, u9, e9, ho91, ho92, ho93⟩ := hv9; subst e9); (try dsimp only)); (try k_fold)) | ((with_reducible show wpP _ _ (call (Value.ref 218) [Value.ref _, Value.none]) _ _ _); k_dflt (refine' SpecP.use (packet_size_i_none _ _ _ _ _ 0 _ _ _ _ _ _ _ _ 0 _ ?_ ?_ ?_ ?_ ?_ ?_) (by k_asm) (by k_asm) (by k_asm) (by k_asm) (by first | exact List.forall_mem_nil _ | exact SubL.mem (by k_subL)) (by k_asm) (by first | exact rfl | assumption) (by ktr_room) (by ktr_units) ?_; (all_goals (first | decide | assumption | omega | skip)); intro v' h' tk' F' N' hv'; (rename OctOf _ _ _ => hv9; obtain ⟨o9, u9, e9, ho91, ho92, ho93⟩ := hv9; subst e9); (try dsimp only)); (try k_fold)) | ((with_reducible show wpP _ _ (call (Value.ref 218) [Value.ref _, Value.int _ _]) _ _ _); k_dflt (refine' SpecP.use (packet_size_s_int _ #[] #[] _ _ _ _ _ _ _ _ _ _ 0 _ _ ?_ (by decide) (by decide) ?_ ?_ ?_ ?_ ?_) (by k_asm) (by k_asm) (by k_asm) (by k_asm) (by first | exact List.forall_mem_nil _ | exact SubL.mem (by k_subL)) (by k_asm) (by first | exact rfl | assumption) (by ktr_room) (by ktr_units) ?_; (all_goals (first | decide | assumption | omega | skip)); intro v' h' tk' F' N' hv'; (rename OctOf _ _ _ => hv9; obtain ⟨o9, u9, e9, ho91, ho92, ho93⟩ := hv9; subst e9); (try dsimp only)); (try k_fold)) | ((with_reducible show wpP _ _ (call (Value.ref 218) [Value.ref _, Value.none]) _ _ _); k_dflt (refine' SpecP.use (packet_size_s_none _ #[] #[] _ _ 0 _ _ _ _ _ _ _ 0 0 _ ?_ (by decide) (by decide) ?_ ?_ ?_) (by k_asm) (by k_asm) (by k_asm) (by k_asm) (by first | exact List.forall_mem_nil _ | exact SubL.mem (by k_subL)) (by k_asm) (by first | exact rfl | assumption) (by ktr_room) (by ktr_units) ?_; (all_goals (first | decide | assumption | omega | skip)); intro v' h' tk' F' N' hv'; (rename OctOf _ _ _ => hv9; obtain ⟨o9, u9, e9, ho91, ho92, ho93⟩ := hv9; subst e9); (try dsimp only)); (try k_fold)) | walk1) | (k_end; wrow_close) | ((with_reducible show wpAny _ _ _ _ _ _); first | ((with_reducible show wpAny _ _ (call (Value.ref 225) [_, Value.str (Str.ofString "handshake") _, _, _]) _ _ _); k_dflt (refine' SpecN.use (packet_with_h _ _ _ _ _ _ _ _ _ _ _) (by k_asm) (by k_asm) (by k_asm) (by k_asm) (by first | exact List.forall_mem_nil _ | exact SubL.mem (by k_subL)) (by k_asm) (by first | exact rfl | assumption) (by ktr_room) (by ktr_units) ?_; intro a' ob' h' tk' F' N' hp'; obtain ⟨_, _, _, _, _, _, _, e9⟩ := hp'; subst e9; (try dsimp only)); (try k_fold)) | ((with_reducible show wpAny _ _ (call (Value.ref 225) [_, Value.str (Str.ofString "initial") _, _, _]) _ _ _); k_dflt (refine' SpecN.use (packet_with_i _ _ _ _ _ _ _ _ _ _ _) (by k_asm) (by k_asm) (by k_asm) (by k_asm) (by first | exact List.forall_mem_nil _ | exact SubL.mem (by k_subL)) (by k_asm) (by first | exact rfl | assumption) (by ktr_room) (by ktr_units) ?_; intro a' ob' h' tk' F' N' hp'; obtain ⟨_, _, _, _, _, _, _, _, _, e9, hz9⟩ := hp'; subst e9; (try dsimp only)); (try k_fold)) | ((with_reducible show wpAny _ _ (call (Value.ref 225) [_, Value.str (Str.ofString "application") _, _, _]) _ _ _); k_dflt (refine' SpecN.use (packet_with_s _ _ _ _ _ _ _ _ _ _ _) (by k_asm) (by k_asm) (by k_asm) (by k_asm) (by first | exact List.forall_mem_nil _ | exact SubL.mem (by k_subL)) (by k_asm) (by first | exact rfl | assumption) (by ktr_room) (by ktr_units) ?_; intro a' ob' h' tk' F' N' hp'; obtain ⟨_, _, _, _, _, _, _, e9⟩ := hp'; subst e9; (try dsimp only)); (try k_fold)) | ((with_reducible show wpAny _ _ (execs _ _) _ _ (Shared.mk _ _ _ (HAdd.hAdd (HAdd.hAdd (HAdd.hAdd (HAdd.hAdd _ _) _) _) _) _)); refine gen_toks ?_; intro tk9) | ((with_reducible show wpAny _ _ (eval (PySem.Expr.Name _ _) _) _ _ _); k_here; k_dflt (first | (refine' nameX_L (by k_asm) (by rfl) ?_ (by rfl) (by rfl); k_whole) | (refine' nameX_K (by k_asm) (by k_asm) (by k_asm) (by k_is) ?_ (by rfl) (by rfl); k_whole))) | ((with_reducible show wpAny _ _ (callWith _ (Value.ref _) _ _ _) _ _ _); k_here; k_dflt (first | (refine' callWith_K (by k_asm) (by k_is) ?_; k_whole) | (refine' callWith_K0 (by exact Frag.In.keeps (by k_asm) (Fr.keep (by k_asm))) (by k_is) ?_; k_whole)))) | walk1 | (dsimp only; walk1) | (leave1; walk_say "STEP leave1"; try dsimp only) | fail "no step")
  all_goals first
    | exact Say.of (int_ex (by omega))
    | (set_option pp.maxSteps 1500 in trace_state)
  all_goals w_report
set_option maxHeartbeats 4000000 in
theorem head_octets_h_none (w : World) (o : Obj) (ida pla tpa : Addr) (d e : Array UInt8) (n j : Int) (td te tn u0 t1 : Tok) (z0 z1 : Nat) (hd0 : o.IsDictOf (PySem.strKind PySem.Challenge.rw_pf0271_01.row.prog w) [(Str.ofString "handshake", .ref tpa)]) (hs0 : (pla == sysModules) = false) (h1 : d.size ≤ 20) (h2 : e.size ≤ 20) (h7 : 0 ≤ n) (h8 : n < 1000000) :
    SpecPW PySem.Challenge.rw_pf0271_01.row.prog w hd.heap_39 232 [.ref ida, .ref pla, .str (Str.ofString "handshake") t1] [(ida, tupOf [.bytes d td, .bytes e te] z0), (pla, o), (tpa, tupOf [.int n tn, .none] z1)] 6 (IntOf (27 + d.size + e.size + nsOf (n + 1))) := by
  k_fill
  unfold SpecPW
  intros
  refine' specP (binds := [(Str.ofString "ids", .ref ida), (Str.ofString "places", .ref pla), (Str.ofString "space", .str (Str.ofString "handshake") t1)]) ?b1 ?b2 ?b3 ?b4 ?b5 ?kA ?kF ?kK ?k6 ?k7 ?k8 ?k9 ?kB ?_ ?c2 ?c3 ?c4 ?c5 ?ret
  walk_at "spec side"
  repeat' (first | (k_unfold; (try dsimp only)) | ((with_reducible show wpP _ _ _ _ _ _); first | ((with_reducible show wpP _ _ (call (Value.ref 218) [Value.ref _, Value.int _ _]) _ _ _); k_dflt (refine' SpecP.use (packet_size_h_int _ _ #[] _ _ _ _ _ _ _ _ _ _ 0 _ _ ?_ ?_ (by decide) ?_ ?_ ?_ ?_ ?_) (by k_asm) (by k_asm) (by k_asm) (by k_asm) (by first | exact List.forall_mem_nil _ | exact SubL.mem (by k_subL)) (by k_asm) (by first | exact rfl | assumption) (by ktr_room) (by ktr_units) ?_; (all_goals (first | decide | assumption | omega | skip)); intro v' h' tk' F' N' hv'; (rename OctOf _ _ _ => hv9; obtain ⟨o9, u9, e9, ho91, ho92, ho93⟩ := hv9; subst e9); (try dsimp only)); (try k_fold)) | ((with_reducible show wpP _ _ (call (Value.ref 218) [Value.ref _, Value.none]) _ _ _); k_dflt (refine' SpecP.use (packet_size_h_none _ _ #[] _ _ 0 _ _ _ _ _ _ _ 0 0 _ ?_ ?_ (by decide) ?_ ?_ ?_) (by k_asm) (by k_asm) (by k_asm) (by k_asm) (by first | exact List.forall_mem_nil _ | exact SubL.mem (by k_subL)) (by k_asm) (by first | exact rfl | assumption) (by ktr_room) (by ktr_units) ?_; (all_goals (first | decide | assumption | omega | skip)); intro v' h' tk' F' N' hv'; (rename OctOf _ _ _ => hv9; obtain ⟨o9, u9, e9, ho91, ho92, ho93⟩ := hv9; subst e9); (try dsimp only)); (try k_fold)) | ((with_reducible show wpP _ _ (call (Value.ref 218) [Value.ref _, Value.int _ _]) _ _ _); k_dflt (refine' SpecP.use (packet_size_i_int _ _ _ _ _ _ _ _ _ _ _ _ _ _ _ _ ?_ ?_ ?_ ?_ ?_ ?_ ?_ ?_) (by k_asm) (by k_asm) (by k_asm) (by k_asm) (by first | exact List.forall_mem_nil _ | exact SubL.mem (by k_subL)) (by k_asm) (by first | exact rfl | assumption) (by ktr_room) (by ktr_units) ?_; (all_goals (first | decide | assumption | omega | skip)); intro v' h' tk' F' N' hv'; (rename OctOf _ _ _ => hv9; obtain ⟨o9, u9, e9, ho91, ho92, ho93⟩ := hv9; subst e9); (try dsimp only)); (try k_fold)) | ((with_reducible show wpP _ _ (call (Value.ref 218) [Value.ref _, Value.none]) _ _ _); k_dflt (refine' SpecP.use (packet_size_i_none _ _ _ _ _ 0 _ _ _ _ _ _ _ _ 0 _ ?_ ?_ ?_ ?_ ?_ ?_) (by k_asm) (by k_asm) (by k_asm) (by k_asm) (by first | exact List.forall_mem_nil _ | exact SubL.mem (by k_subL)) (by k_asm) (by first | exact rfl | assumption) (by ktr_room) (by ktr_units) ?_; (all_goals (first | decide | assumption | omega | skip)); intro v' h' tk' F' N' hv'; (rename OctOf _ _ _ => hv9; obtain ⟨o9, u9, e9, ho91, ho92, ho93⟩ := hv9; subst e9); (try dsimp only)); (try k_fold)) | ((with_reducible show wpP _ _ (call (Value.ref 218) [Value.ref _, Value.int _ _]) _ _ _); k_dflt (refine' SpecP.use (packet_size_s_int _ #[] #[] _ _ _ _ _ _ _ _ _ _ 0 _ _ ?_ (by decide) (by decide) ?_ ?_ ?_ ?_ ?_) (by k_asm) (by k_asm) (by k_asm) (by k_asm) (by first | exact List.forall_mem_nil _ | exact SubL.mem (by k_subL)) (by k_asm) (by first | exact rfl | assumption) (by ktr_room) (by ktr_units) ?_; (all_goals (first | decide | assumption | omega | skip)); intro v' h' tk' F' N' hv'; (rename OctOf _ _ _ => hv9; obtain ⟨o9, u9, e9, ho91, ho92, ho93⟩ := hv9; subst e9); (try dsimp only)); (try k_fold)) | ((with_reducible show wpP _ _ (call (Value.ref 218) [Value.ref _, Value.none]) _ _ _); k_dflt (refine' SpecP.use (packet_size_s_none _ #[] #[] _ _ 0 _ _ _ _ _ _ _ 0 0 _ ?_ (by decide) (by decide) ?_ ?_ ?_) (by k_asm) (by k_asm) (by k_asm) (by k_asm) (by first | exact List.forall_mem_nil _ | exact SubL.mem (by k_subL)) (by k_asm) (by first | exact rfl | assumption) (by ktr_room) (by ktr_units) ?_; (all_goals (first | decide | assumption | omega | skip)); intro v' h' tk' F' N' hv'; (rename OctOf _ _ _ => hv9; obtain ⟨o9, u9, e9, ho91, ho92, ho93⟩ := hv9; subst e9); (try dsimp only)); (try k_fold)) | walk1) | (k_end; wrow_close) | ((with_reducible show wpAny _ _ _ _ _ _); first | ((with_reducible show wpAny _ _ (call (Value.ref 225) [_, Value.str (Str.ofString "handshake") _, _, _]) _ _ _); k_dflt (refine' SpecN.use (packet_with_h _ _ _ _ _ _ _ _ _ _ _) (by k_asm) (by k_asm) (by k_asm) (by k_asm) (by first | exact List.forall_mem_nil _ | exact SubL.mem (by k_subL)) (by k_asm) (by first | exact rfl | assumption) (by ktr_room) (by ktr_units) ?_; intro a' ob' h' tk' F' N' hp'; obtain ⟨_, _, _, _, _, _, _, e9⟩ := hp'; subst e9; (try dsimp only)); (try k_fold)) | ((with_reducible show wpAny _ _ (call (Value.ref 225) [_, Value.str (Str.ofString "initial") _, _, _]) _ _ _); k_dflt (refine' SpecN.use (packet_with_i _ _ _ _ _ _ _ _ _ _ _) (by k_asm) (by k_asm) (by k_asm) (by k_asm) (by first | exact List.forall_mem_nil _ | exact SubL.mem (by k_subL)) (by k_asm) (by first | exact rfl | assumption) (by ktr_room) (by ktr_units) ?_; intro a' ob' h' tk' F' N' hp'; obtain ⟨_, _, _, _, _, _, _, _, _, e9, hz9⟩ := hp'; subst e9; (try dsimp only)); (try k_fold)) | ((with_reducible show wpAny _ _ (call (Value.ref 225) [_, Value.str (Str.ofString "application") _, _, _]) _ _ _); k_dflt (refine' SpecN.use (packet_with_s _ _ _ _ _ _ _ _ _ _ _) (by k_asm) (by k_asm) (by k_asm) (by k_asm) (by first | exact List.forall_mem_nil _ | exact SubL.mem (by k_subL)) (by k_asm) (by first | exact rfl | assumption) (by ktr_room) (by ktr_units) ?_; intro a' ob' h' tk' F' N' hp'; obtain ⟨_, _, _, _, _, _, _, e9⟩ := hp'; subst e9; (try dsimp only)); (try k_fold)) | ((with_reducible show wpAny _ _ (execs _ _) _ _ (Shared.mk _ _ _ (HAdd.hAdd (HAdd.hAdd (HAdd.hAdd (HAdd.hAdd _ _) _) _) _) _)); refine gen_toks ?_; intro tk9) | ((with_reducible show wpAny _ _ (eval (PySem.Expr.Name _ _) _) _ _ _); k_here; k_dflt (first | (refine' nameX_L (by k_asm) (by rfl) ?_ (by rfl) (by rfl); k_whole) | (refine' nameX_K (by k_asm) (by k_asm) (by k_asm) (by k_is) ?_ (by rfl) (by rfl); k_whole))) | ((with_reducible show wpAny _ _ (callWith _ (Value.ref _) _ _ _) _ _ _); k_here; k_dflt (first | (refine' callWith_K (by k_asm) (by k_is) ?_; k_whole) | (refine' callWith_K0 (by exact Frag.In.keeps (by k_asm) (Fr.keep (by k_asm))) (by k_is) ?_; k_whole)))) | walk1 | (dsimp only; walk1) | (leave1; walk_say "STEP leave1"; try dsimp only) | fail "no step")
  all_goals first
    | exact Say.of (int_ex (by omega))
    | (set_option pp.maxSteps 1500 in trace_state)
  all_goals w_report
set_option maxHeartbeats 4000000 in
theorem head_octets_h_int (w : World) (o : Obj) (ida pla tpa : Addr) (d e : Array UInt8) (n j : Int) (td te tn u0 t1 : Tok) (z0 z1 : Nat) (hd0 : o.IsDictOf (PySem.strKind PySem.Challenge.rw_pf0271_01.row.prog w) [(Str.ofString "handshake", .ref tpa)]) (hs0 : (pla == sysModules) = false) (h1 : d.size ≤ 20) (h2 : e.size ≤ 20) (h7 : 0 ≤ n - j) (h8 : n - j < 1000000) (h9 : 0 ≤ j) (h10 : j < 1000) :
    SpecPW PySem.Challenge.rw_pf0271_01.row.prog w hd.heap_39 232 [.ref ida, .ref pla, .str (Str.ofString "handshake") t1] [(ida, tupOf [.bytes d td, .bytes e te] z0), (pla, o), (tpa, tupOf [.int n tn, .int j u0] z1)] 6 (IntOf (27 + d.size + e.size + nsOf (n - j))) := by
  k_fill
  unfold SpecPW
  intros
  refine' specP (binds := [(Str.ofString "ids", .ref ida), (Str.ofString "places", .ref pla), (Str.ofString "space", .str (Str.ofString "handshake") t1)]) ?b1 ?b2 ?b3 ?b4 ?b5 ?kA ?kF ?kK ?k6 ?k7 ?k8 ?k9 ?kB ?_ ?c2 ?c3 ?c4 ?c5 ?ret
  walk_at "spec side"
  repeat' (first | (k_unfold; (try dsimp only)) | ((with_reducible show wpP _ _ _ _ _ _); first | ((with_reducible show wpP _ _ (call (Value.ref 218) [Value.ref _, Value.int _ _]) _ _ _); k_dflt (refine' SpecP.use (packet_size_h_int _ _ #[] _ _ _ _ _ _ _ _ _ _ 0 _ _ ?_ ?_ (by decide) ?_ ?_ ?_ ?_ ?_) (by k_asm) (by k_asm) (by k_asm) (by k_asm) (by first | exact List.forall_mem_nil _ | exact SubL.mem (by k_subL)) (by k_asm) (by first | exact rfl | assumption) (by ktr_room) (by ktr_units) ?_; (all_goals (first | decide | assumption | omega | skip)); intro v' h' tk' F' N' hv'; (rename OctOf _ _ _ => hv9; obtain ⟨o9, u9, e9, ho91, ho92, ho93⟩ := hv9; subst e9); (try dsimp only)); (try k_fold)) | ((with_reducible show wpP _ _ (call (Value.ref 218) [Value.ref _, Value.none]) _ _ _); k_dflt (refine' SpecP.use (packet_size_h_none _ _ #[] _ _ 0 _ _ _ _ _ _ _ 0 0 _ ?_ ?_ (by decide) ?_ ?_ ?_) (by k_asm) (by k_asm) (by k_asm) (by k_asm) (by first | exact List.forall_mem_nil _ | exact SubL.mem (by k_subL)) (by k_asm) (by first | exact rfl | assumption) (by ktr_room) (by ktr_units) ?_; (all_goals (first | decide | assumption | omega | skip)); intro v' h' tk' F' N' hv'; (rename OctOf _ _ _ => hv9; obtain ⟨o9, u9, e9, ho91, ho92, ho93⟩ := hv9; subst e9); (try dsimp only)); (try k_fold)) | ((with_reducible show wpP _ _ (call (Value.ref 218) [Value.ref _, Value.int _ _]) _ _ _); k_dflt (refine' SpecP.use (packet_size_i_int _ _ _ _ _ _ _ _ _ _ _ _ _ _ _ _ ?_ ?_ ?_ ?_ ?_ ?_ ?_ ?_) (by k_asm) (by k_asm) (by k_asm) (by k_asm) (by first | exact List.forall_mem_nil _ | exact SubL.mem (by k_subL)) (by k_asm) (by first | exact rfl | assumption) (by ktr_room) (by ktr_units) ?_; (all_goals (first | decide | assumption | omega | skip)); intro v' h' tk' F' N' hv'; (rename OctOf _ _ _ => hv9; obtain ⟨o9, u9, e9, ho91, ho92, ho93⟩ := hv9; subst e9); (try dsimp only)); (try k_fold)) | ((with_reducible show wpP _ _ (call (Value.ref 218) [Value.ref _, Value.none]) _ _ _); k_dflt (refine' SpecP.use (packet_size_i_none _ _ _ _ _ 0 _ _ _ _ _ _ _ _ 0 _ ?_ ?_ ?_ ?_ ?_ ?_) (by k_asm) (by k_asm) (by k_asm) (by k_asm) (by first | exact List.forall_mem_nil _ | exact SubL.mem (by k_subL)) (by k_asm) (by first | exact rfl | assumption) (by ktr_room) (by ktr_units) ?_; (all_goals (first | decide | assumption | omega | skip)); intro v' h' tk' F' N' hv'; (rename OctOf _ _ _ => hv9; obtain ⟨o9, u9, e9, ho91, ho92, ho93⟩ := hv9; subst e9); (try dsimp only)); (try k_fold)) | ((with_reducible show wpP _ _ (call (Value.ref 218) [Value.ref _, Value.int _ _]) _ _ _); k_dflt (refine' SpecP.use (packet_size_s_int _ #[] #[] _ _ _ _ _ _ _ _ _ _ 0 _ _ ?_ (by decide) (by decide) ?_ ?_ ?_ ?_ ?_) (by k_asm) (by k_asm) (by k_asm) (by k_asm) (by first | exact List.forall_mem_nil _ | exact SubL.mem (by k_subL)) (by k_asm) (by first | exact rfl | assumption) (by ktr_room) (by ktr_units) ?_; (all_goals (first | decide | assumption | omega | skip)); intro v' h' tk' F' N' hv'; (rename OctOf _ _ _ => hv9; obtain ⟨o9, u9, e9, ho91, ho92, ho93⟩ := hv9; subst e9); (try dsimp only)); (try k_fold)) | ((with_reducible show wpP _ _ (call (Value.ref 218) [Value.ref _, Value.none]) _ _ _); k_dflt (refine' SpecP.use (packet_size_s_none _ #[] #[] _ _ 0 _ _ _ _ _ _ _ 0 0 _ ?_ (by decide) (by decide) ?_ ?_ ?_) (by k_asm) (by k_asm) (by k_asm) (by k_asm) (by first | exact List.forall_mem_nil _ | exact SubL.mem (by k_subL)) (by k_asm) (by first | exact rfl | assumption) (by ktr_room) (by ktr_units) ?_; (all_goals (first | decide | assumption | omega | skip)); intro v' h' tk' F' N' hv'; (rename OctOf _ _ _ => hv9; obtain ⟨o9, u9, e9, ho91, ho92, ho93⟩ := hv9; subst e9); (try dsimp only)); (try k_fold)) | walk1) | (k_end; wrow_close) | ((with_reducible show wpAny _ _ _ _ _ _); first | ((with_reducible show wpAny _ _ (call (Value.ref 225) [_, Value.str (Str.ofString "handshake") _, _, _]) _ _ _); k_dflt (refine' SpecN.use (packet_with_h _ _ _ _ _ _ _ _ _ _ _) (by k_asm) (by k_asm) (by k_asm) (by k_asm) (by first | exact List.forall_mem_nil _ | exact SubL.mem (by k_subL)) (by k_asm) (by first | exact rfl | assumption) (by ktr_room) (by ktr_units) ?_; intro a' ob' h' tk' F' N' hp'; obtain ⟨_, _, _, _, _, _, _, e9⟩ := hp'; subst e9; (try dsimp only)); (try k_fold)) | ((with_reducible show wpAny _ _ (call (Value.ref 225) [_, Value.str (Str.ofString "initial") _, _, _]) _ _ _); k_dflt (refine' SpecN.use (packet_with_i _ _ _ _ _ _ _ _ _ _ _) (by k_asm) (by k_asm) (by k_asm) (by k_asm) (by first | exact List.forall_mem_nil _ | exact SubL.mem (by k_subL)) (by k_asm) (by first | exact rfl | assumption) (by ktr_room) (by ktr_units) ?_; intro a' ob' h' tk' F' N' hp'; obtain ⟨_, _, _, _, _, _, _, _, _, e9, hz9⟩ := hp'; subst e9; (try dsimp only)); (try k_fold)) | ((with_reducible show wpAny _ _ (call (Value.ref 225) [_, Value.str (Str.ofString "application") _, _, _]) _ _ _); k_dflt (refine' SpecN.use (packet_with_s _ _ _ _ _ _ _ _ _ _ _) (by k_asm) (by k_asm) (by k_asm) (by k_asm) (by first | exact List.forall_mem_nil _ | exact SubL.mem (by k_subL)) (by k_asm) (by first | exact rfl | assumption) (by ktr_room) (by ktr_units) ?_; intro a' ob' h' tk' F' N' hp'; obtain ⟨_, _, _, _, _, _, _, e9⟩ := hp'; subst e9; (try dsimp only)); (try k_fold)) | ((with_reducible show wpAny _ _ (execs _ _) _ _ (Shared.mk _ _ _ (HAdd.hAdd (HAdd.hAdd (HAdd.hAdd (HAdd.hAdd _ _) _) _) _) _)); refine gen_toks ?_; intro tk9) | ((with_reducible show wpAny _ _ (eval (PySem.Expr.Name _ _) _) _ _ _); k_here; k_dflt (first | (refine' nameX_L (by k_asm) (by rfl) ?_ (by rfl) (by rfl); k_whole) | (refine' nameX_K (by k_asm) (by k_asm) (by k_asm) (by k_is) ?_ (by rfl) (by rfl); k_whole))) | ((with_reducible show wpAny _ _ (callWith _ (Value.ref _) _ _ _) _ _ _); k_here; k_dflt (first | (refine' callWith_K (by k_asm) (by k_is) ?_; k_whole) | (refine' callWith_K0 (by exact Frag.In.keeps (by k_asm) (Fr.keep (by k_asm))) (by k_is) ?_; k_whole)))) | walk1 | (dsimp only; walk1) | (leave1; walk_say "STEP leave1"; try dsimp only) | fail "no step")
  all_goals first
    | exact Say.of (int_ex (by omega))
    | (set_option pp.maxSteps 1500 in trace_state)
  all_goals w_report
end
-- part L0
theorem anew_L0 : True ∧ True := by
  w_top off
  first | (walk1; all_goals trivial) | exact ⟨trivial, trivial⟩
section
theorem point_of (prog : Program) (w : World) {R R' : Result → Shared → Prop} (h : ∀ (M : Model) (A : Around) (cd : Code) (s : Shared), codeAny M A cd R s → codeAny M A cd R' s) (r : Result) (s : Shared) (hR : R r s) : R' r s := by
  let Γ₀ : Ctx := ⟨.builtin "claim.caller" {}, none, none, [], none⟩
  let c : Code := .builtin "claim.caller" {}
  let M : Model := ⟨fun _ => match r with | .ok f => .pure (.done f) | .error e => .raise e, prog, w⟩
  have key := h M callerA c s (fun Γ p _ _ => by
    rw [wpCode_iff_wp]
    cases r with
    | ok f => exact hR
    | error e => exact hR)
  have k2 := key (Γ₀.enter c none default) default rfl (caller_in.enter c none default (by intro x; cases x))
  rw [wpCode_iff_wp] at k2
  cases r with
  | ok f => exact k2
  | error e => exact k2
theorem kn_postP {M : Model} {A : Around} {cd : Code} {s s₁ : Shared} {cw : ClaimW} {cl : Str → Option Addr} {mean : ExcName → Option Value} {args : List WData} {tabs : List (Addr × Addr)} (hT : TabsAt tabs s₁.heap) (hr : ∀ a x, cw.raises a x = false)
    (h : codeP M A cd (fun r s' => GoodW cw cl mean args { s₁ with heap := ghostOf s₁.heap tabs } r s' ∧ GrownAll tabs s'.heap) s) : codeP M A cd (GoodWG cw cl mean args s₁) s :=
  codeP_mono h fun r s' hh => point_of M.prog M.w (fun _ _ _ _ x => kn_post hT hr x) r s' hh
theorem call_fullP {prog : Program} {w : World} {A : Around} {R : Result → Shared → Prop} {s : Shared} {name : Str} {params : Arguments} {body : List Stmt} {scope : Scope}
    {dV kV pm cd doc : Value} {a : Addr} {o : Obj} {args : Args} {binds : List (Str × Value)}
    (hroom : A.depth < recursionLimit) (ho : s.heap.get? a = some o) (hdata : o.data = .func { docDef name params body scope pm cd doc with defaults := dV, kwdefaults := kV }) (hlim : s.heap.NoLimit) (hcd : s.heap.CodeRec cd name)
    (hbind : BindsTo s { docDef name params body scope pm cd doc with defaults := dV, kwdefaults := kV } args binds)
    (hloc : ∀ x ∈ binds, scope.names.lookup x.1 = some .local)
    (h : ∀ h₁, Fr s.heap s.heap.objs.size h₁ (fun x => binds.reverse.lookup x) →
      wpP (model prog w) (A.deeper (envOf name scope s.heap.objs.size a cd)) (execs body (envOf name scope s.heap.objs.size a cd))
        (fun f s' => R (.ok (.ret (match f with | .ret v => v | _ => .none))) s')
        (fun e s' => wpAny (model prog w) (A.deeper (envOf name scope s.heap.objs.size a cd)) (leaving (envOf name scope s.heap.objs.size a cd) e)
          (fun _ s'' => R (.error e) s'') (fun e' s'' => R (.error e') s'') s')
        { s with heap := h₁, toks := s.toks + binds.length })
    (hco : scope.isCoroutine = false := by rfl) (hgen : scope.isGenerator = false := by rfl) (hk : scope.kind = .function := by rfl)
    (hcell : ∀ x ∈ scope.names, x.2 ≠ .cell := by decide) :
    codeP (model prog w) A (.call (.ref a) args) R s :=
  codeP_call_def hroom ho hdata hlim hcd rfl hbind hcell hloc (fun h₁ hns hkeep => h h₁ ⟨hns, hkeep, Nat.le_refl _⟩) hco hgen hk
end
-- part F4
theorem anew_F4 : True ∧ True := by
  w_top off
  first | (walk1; all_goals trivial) | exact ⟨trivial, trivial⟩
section
abbrev LtN (a b : Addr) : Prop := @LT.lt Nat _ a b
section
variable {g h : Heap} {L bx lst ida pla tpa : Addr} {s : Shared} {tk : Nat} {mr : Str → Option Value} {c b n : Int} {t ts td te ta tn tb : Tok} {zc z0 z1 : Nat} {vs : List Value} {ns : List Int} {sp : Str} {d e : Array UInt8} {av : Value} {o : Obj} {news : List (Addr × Obj)}
/-- behind the first statement, and wherever the box alone is asked -/
def At1 (cb : Int) (g : Heap) (L : Addr) (s s' : Shared) : Prop :=
  ∃ (h : Heap) (tk : Nat) (bx lst : Addr) (c : Int) (t : Tok) (zc : Nat) (vs : List Value) (ns : List Int) (mr : Str → Option Value), s' = { s with heap := h, toks := tk } ∧
    Fr g L h (fun y => if y = Str.ofString "box" then some (.ref bx) else mr y) ∧
    News g L h [(bx, boxOf lst c t 0), (lst, listOf vs.toArray zc), (388, tabObj #[])] ∧ LtN lst bx ∧ LtN 388 lst ∧ IntsAre vs ns ∧ ns.length ≤ 12 ∧ mr (Str.ofString "octets") = none ∧ 0 ≤ c ∧ c ≤ cb
theorem At1.mk {cb : Int} (F : Fr g L h (fun y => if y = Str.ofString "box" then some (.ref bx) else mr y)) (N : News g L h news) (S : ∀ p ∈ [(bx, boxOf lst c t 0), (lst, listOf vs.toArray zc), (388, tabObj #[])], p ∈ news)
    (l1 : LtN lst bx) (l2 : LtN 388 lst) (hi : IntsAre vs ns) (hn : ns.length ≤ 12) (hmr : mr (Str.ofString "octets") = none) (h0 : 0 ≤ c) (h1 : c ≤ cb) : At1 cb g L s { s with heap := h, toks := tk } :=
  ⟨h, tk, bx, lst, c, t, zc, vs, ns, mr, rfl, F, fun p hp => N p (S p hp), l1, l2, hi, hn, hmr, h0, h1⟩
/-- behind the first statement, and wherever the box alone is asked -/
def At6 (cb : Int) (g : Heap) (L : Addr) (s s' : Shared) : Prop :=
  ∃ (h : Heap) (tk : Nat) (bx lst : Addr) (c : Int) (t : Tok) (zc : Nat) (vs : List Value) (ns : List Int) (mr : Str → Option Value), s' = { s with heap := h, toks := tk } ∧
    Fr g L h (fun y => if y = Str.ofString "box" then some (.ref bx) else mr y) ∧
    News g L h [(bx, boxOf lst c t 0), (lst, listOf vs.toArray zc), (388, tabObj #[])] ∧ LtN lst bx ∧ LtN 388 lst ∧ IntsAre vs ns ∧ ns.length ≤ 12  ∧ 0 ≤ c ∧ c ≤ cb
theorem At6.mk {cb : Int} (F : Fr g L h (fun y => if y = Str.ofString "box" then some (.ref bx) else mr y)) (N : News g L h news) (S : ∀ p ∈ [(bx, boxOf lst c t 0), (lst, listOf vs.toArray zc), (388, tabObj #[])], p ∈ news)
    (l1 : LtN lst bx) (l2 : LtN 388 lst) (hi : IntsAre vs ns) (hn : ns.length ≤ 12) (h0 : 0 ≤ c) (h1 : c ≤ cb) : At6 cb g L s { s with heap := h, toks := tk } :=
  ⟨h, tk, bx, lst, c, t, zc, vs, ns, mr, rfl, F, fun p hp => N p (S p hp), l1, l2, hi, hn, h0, h1⟩
def Spaces (sp : Str) : Prop := sp = Str.ofString "initial" ∨ sp = Str.ofString "handshake" ∨ sp = Str.ofString "application"
/-- behind space, ids -/
def At2 (g : Heap) (L : Addr) (s s' : Shared) : Prop :=
  ∃ (h : Heap) (tk : Nat) (bx lst : Addr) (c : Int) (t : Tok) (zc : Nat) (vs : List Value) (ns : List Int) (mr : Str → Option Value) (ida : Addr) (sp : Str) (ts td te : Tok) (d e : Array UInt8) (z0 : Nat), s' = { s with heap := h, toks := tk } ∧
    Fr g L h (fun y => if y = Str.ofString "space" then some (.str sp ts) else if y = Str.ofString "ids" then some (.ref ida) else if y = Str.ofString "box" then some (.ref bx) else mr y) ∧
    News g L h [(ida, tupOf [.bytes d td, .bytes e te] z0), (bx, boxOf lst c t 0), (lst, listOf vs.toArray zc), (388, tabObj #[])] ∧ LtN bx ida ∧ LtN lst bx ∧ LtN 388 lst ∧ IntsAre vs ns ∧ ns.length ≤ 12 ∧ mr (Str.ofString "octets") = none ∧ 0 ≤ c ∧ c ≤ 20 ∧
    Spaces sp ∧ d.size ≤ 20 ∧ e.size ≤ 20
theorem At2.mk (F : Fr g L h (fun y => if y = Str.ofString "space" then some (.str sp ts) else if y = Str.ofString "ids" then some (.ref ida) else if y = Str.ofString "box" then some (.ref bx) else mr y)) (N : News g L h news)
    (S : ∀ p ∈ [(ida, tupOf [.bytes d td, .bytes e te] z0), (bx, boxOf lst c t 0), (lst, listOf vs.toArray zc), (388, tabObj #[])], p ∈ news)
    (l0 : LtN bx ida) (l1 : LtN lst bx) (l2 : LtN 388 lst) (hi : IntsAre vs ns) (hn : ns.length ≤ 12) (hmr : mr (Str.ofString "octets") = none) (h0 : 0 ≤ c) (h1 : c ≤ 20) (hs : Spaces sp) (hd : d.size ≤ 20) (he : e.size ≤ 20) : At2 g L s { s with heap := h, toks := tk } :=
  ⟨h, tk, bx, lst, c, t, zc, vs, ns, mr, ida, sp, ts, td, te, d, e, z0, rfl, F, fun p hp => N p (S p hp), l0, l1, l2, hi, hn, hmr, h0, h1, hs, hd, he⟩
def Acks (av : Value) : Prop := av = .none ∨ ∃ (j : Int) (t : Tok), av = .int j t ∧ 0 ≤ j ∧ j < 1000
/-- behind acked -/
def At3 (g : Heap) (L : Addr) (s s' : Shared) : Prop :=
  ∃ (h : Heap) (tk : Nat) (bx lst : Addr) (c : Int) (t : Tok) (zc : Nat) (vs : List Value) (ns : List Int) (mr : Str → Option Value) (ida : Addr) (sp : Str) (ts td te : Tok) (d e : Array UInt8) (z0 : Nat) (av : Value), s' = { s with heap := h, toks := tk } ∧
    Fr g L h (fun y => if y = Str.ofString "acked" then some av else if y = Str.ofString "space" then some (.str sp ts) else if y = Str.ofString "ids" then some (.ref ida) else if y = Str.ofString "box" then some (.ref bx) else mr y) ∧
    News g L h [(ida, tupOf [.bytes d td, .bytes e te] z0), (bx, boxOf lst c t 0), (lst, listOf vs.toArray zc), (388, tabObj #[])] ∧ LtN bx ida ∧ LtN lst bx ∧ LtN 388 lst ∧ IntsAre vs ns ∧ ns.length ≤ 12 ∧ mr (Str.ofString "octets") = none ∧ 0 ≤ c ∧ c ≤ 30 ∧
    Spaces sp ∧ d.size ≤ 20 ∧ e.size ≤ 20 ∧ Acks av
theorem At3.mk (F : Fr g L h (fun y => if y = Str.ofString "acked" then some av else if y = Str.ofString "space" then some (.str sp ts) else if y = Str.ofString "ids" then some (.ref ida) else if y = Str.ofString "box" then some (.ref bx) else mr y)) (N : News g L h news)
    (S : ∀ p ∈ [(ida, tupOf [.bytes d td, .bytes e te] z0), (bx, boxOf lst c t 0), (lst, listOf vs.toArray zc), (388, tabObj #[])], p ∈ news)
    (l0 : LtN bx ida) (l1 : LtN lst bx) (l2 : LtN 388 lst) (hi : IntsAre vs ns) (hn : ns.length ≤ 12) (hmr : mr (Str.ofString "octets") = none) (h0 : 0 ≤ c) (h1 : c ≤ 30) (hs : Spaces sp) (hd : d.size ≤ 20) (he : e.size ≤ 20) (ha : Acks av) : At3 g L s { s with heap := h, toks := tk } :=
  ⟨h, tk, bx, lst, c, t, zc, vs, ns, mr, ida, sp, ts, td, te, d, e, z0, av, rfl, F, fun p hp => N p (S p hp), l0, l1, l2, hi, hn, hmr, h0, h1, hs, hd, he, ha⟩
def Nums (av : Value) (n : Int) : Prop := (av = .none ∧ 0 ≤ n ∧ n < 1000000) ∨ ∃ (j : Int) (t : Tok), av = .int j t ∧ 0 ≤ n - j ∧ n - j < 1000000 ∧ 0 ≤ j ∧ j < 1000
/-- behind places, base -/
def At5 (prog : Program) (w : World) (g : Heap) (L : Addr) (s s' : Shared) : Prop :=
  ∃ (h : Heap) (tk : Nat) (bx lst : Addr) (c : Int) (t : Tok) (zc : Nat) (vs : List Value) (ns : List Int) (mr : Str → Option Value) (ida : Addr) (sp : Str) (ts td te : Tok) (d e : Array UInt8) (z0 : Nat) (av : Value)
    (pla tpa : Addr) (o : Obj) (n b : Int) (tn tb : Tok) (z1 : Nat), s' = { s with heap := h, toks := tk } ∧
    Fr g L h (fun y => if y = Str.ofString "base" then some (.int b tb) else if y = Str.ofString "places" then some (.ref pla) else if y = Str.ofString "acked" then some av else if y = Str.ofString "space" then some (.str sp ts) else if y = Str.ofString "ids" then some (.ref ida) else if y = Str.ofString "box" then some (.ref bx) else mr y) ∧
    News g L h [(pla, o), (tpa, tupOf [.int n tn, av] z1), (ida, tupOf [.bytes d td, .bytes e te] z0), (bx, boxOf lst c t 0), (lst, listOf vs.toArray zc), (388, tabObj #[])] ∧ LtN lst bx ∧ LtN 388 lst ∧ IntsAre vs ns ∧ ns.length ≤ 12 ∧ mr (Str.ofString "octets") = none ∧ 0 ≤ c ∧ c ≤ 50 ∧
    Spaces sp ∧ d.size ≤ 20 ∧ e.size ≤ 20 ∧ Nums av n ∧ 0 ≤ b ∧ b ≤ 20000 ∧ o.IsDictOf (PySem.strKind prog w) [(sp, .ref tpa)] ∧ (pla == sysModules) = false
theorem At5.mk {prog : Program} {w : World} (F : Fr g L h (fun y => if y = Str.ofString "base" then some (.int b tb) else if y = Str.ofString "places" then some (.ref pla) else if y = Str.ofString "acked" then some av else if y = Str.ofString "space" then some (.str sp ts) else if y = Str.ofString "ids" then some (.ref ida) else if y = Str.ofString "box" then some (.ref bx) else mr y)) (N : News g L h news)
    (hod : o.IsDictOf (PySem.strKind prog w) [(sp, .ref tpa)])
    (S : ∀ p ∈ [(pla, o), (tpa, tupOf [.int n tn, av] z1), (ida, tupOf [.bytes d td, .bytes e te] z0), (bx, boxOf lst c t 0), (lst, listOf vs.toArray zc), (388, tabObj #[])], p ∈ news)
    (l1 : LtN lst bx) (l2 : LtN 388 lst) (hi : IntsAre vs ns) (hn : ns.length ≤ 12) (hmr : mr (Str.ofString "octets") = none) (h0 : 0 ≤ c) (h1 : c ≤ 50) (hs : Spaces sp) (hd : d.size ≤ 20) (he : e.size ≤ 20) (ha : Nums av n) (hb0 : 0 ≤ b) (hb1 : b ≤ 20000) (hms : (pla == sysModules) = false) : At5 prog w g L s { s with heap := h, toks := tk } :=
  ⟨h, tk, bx, lst, c, t, zc, vs, ns, mr, ida, sp, ts, td, te, d, e, z0, av, pla, tpa, o, n, b, tn, tb, z1, rfl, F, fun p hp => N p (S p hp), l1, l2, hi, hn, hmr, h0, h1, hs, hd, he, ha, hb0, hb1, hod, hms⟩
theorem Fr.boxed (F : Fr g L h mr) (e : mr (Str.ofString "box") = some (.ref bx)) : Fr g L h (fun y => if y = Str.ofString "box" then some (.ref bx) else mr y) := by
  have : (fun y => if y = Str.ofString "box" then some (.ref bx) else mr y) = mr := by
    funext y
    by_cases h : y = Str.ofString "box"
    · rw [if_pos h, h, e]
    · rw [if_neg h]
  rw [this]; exact F
end
end
-- part F5
theorem anew_F5 : True ∧ True := by
  w_top off
  first | (walk1; all_goals trivial) | exact ⟨trivial, trivial⟩
section
section
variable {M : Model} {A : Around} {E : Value → Shared → Prop} {s : Shared} {env : Env}
/-- if not l op1 m op2 r: .. -/
theorem wpP_IfNotChain {l m r : PySem.Expr} {op1 op2 : CmpOp} {p1 p2 pos : Pos} {body orelse : List Stmt} {Q : Flow → Shared → Prop} (hm : lastMarks [op1, op2] [m, r] = false)
    (h : wpP M A (eval l env) (fun a s₁ => wpP M A (eval m env) (fun b s₂ => wpAny M A (compareOp op1 a b) (fun c s₃ => wpAny M A (truthy c) (fun t s₄ =>
      if t then wpAny M A (testChain p1 b [op2] [eval r env]) (fun u s₅ => if (!u) = true then wpP M A (execs body env) Q E s₅ else wpP M A (execs orelse env) Q E s₅) E s₄
      else wpP M A (execs body env) Q E s₄) E s₃) E s₂) E s₁) E s) :
    wpP M A (exec (.If (.UnaryOp .Not (.Compare l [op1, op2] [m, r] p1) p2) body orelse pos) env) Q E s := by
  refine wpP_If ?_
  show wpP M A (do return !(← isTrue (.Compare l [op1, op2] [m, r] p1) env (eval (.Compare l [op1, op2] [m, r] p1) env))) _ E s
  refine wpP_bind (wpP_mono (Q := fun u s' => if (!u) = true then wpP M A (execs body env) Q E s' else wpP M A (execs orelse env) Q E s') ?_ (fun c s' h' => wpP_pure h') fun _ _ x => x)
  show wpP M A (do testChain p1 (← eval l env) [op1, op2] (markedEach [op1, op2] [m, r] (evalEach [m, r] env))) _ E s
  rw [markedEach_of_false _ _ _ hm]
  refine wpP_bind (wpP_mono h (fun a s₁ h₁ => ?_) fun _ _ x => x)
  show wpP M A (do
    let rv ← holding [a] (eval m env)
    standAt p1
    let c ← holding [a, rv] (compareOp op1 a rv)
    release [a, rv] [c]
    if ← holding [c, rv] (truthy c) then testChain p1 rv [op2] [eval r env] else pure false) _ E s₁
  refine wpP_bind (wpP_holding (wpP_mono h₁ (fun b s₂ h₂ => wpP_bind (wpP_standAt (wpP_any ?_))) fun _ _ x => x))
  refine wpAny_bind (wpAny_holding (wpAny_mono h₂ (fun c s₃ h₃ => wpAny_bind (wpAny_release' (wpAny_bind (wpAny_holding (wpAny_mono h₃ (fun t s₄ h₄ => ?_) fun _ _ x => x))))) fun _ _ x => x))
  cases t with
  | false => exact wpAny_pure h₄
  | true => exact h₄
end
section
variable {prog : Program} {w : World} {A : Around} {E : Value → Shared → Prop} {name : Str} {scope : Scope} {L a : Addr} {cd : Value} {g : Heap} {m : Str → Option Value} {x o : Str} {news : List (Addr × Obj)} {body : List Stmt} {s : Shared} {Q : Flow → Shared → Prop}
/-- what is asked of the iterable's value -/
def ForT (prog : Program) (w : World) (A : Around) (env : Env) (body : List Stmt) (g : Heap) (L : Addr) (m : Str → Option Value) (x o : Str) (news : List (Addr × Obj)) (Q : Flow → Shared → Prop) (v : Value) (s₁ : Shared) : Prop :=
  ∃ ta items z, v = .ref ta ∧ 0 < items.length ∧ Fr g L s₁.heap m ∧ News g L s₁.heap ((ta, tupOf items z) :: news) ∧
    (∀ I, ∀ v ∈ items, ∀ it, TurnP prog w A env body g L m x o ((I, it) :: (ta, tupOf items z) :: news) s₁ v) ∧
    (∀ h tk v oo, Fr g L h (mOf m x o v oo) → News g L h news → Q .next { s₁ with heap := h, toks := tk })
theorem ForT.mk {env : Env} {h : Heap} {tk : Nat} {ta : Addr} {k1 k2 k3 : Int} {t1 t2 t3 : Tok} {z : Nat} {all : List (Addr × Obj)} (F : Fr g L h m) (N : News g L h all) (S : ∀ p ∈ (ta, tupOf [.int k1 t1, .int k2 t2, .int k3 t3] z) :: news, p ∈ all)
    (h1 : 0 ≤ k1 ∧ k1 ≤ 30000) (h2 : 0 ≤ k2 ∧ k2 ≤ 30000) (h3 : 0 ≤ k3 ∧ k3 ≤ 30000)
    (turn : ∀ (I I' : Addr) (it it' : Obj) (k : Int) (t : Tok), 0 ≤ k → k ≤ 30000 → TurnP prog w A env body g L m x o ((I, it) :: (I', it') :: news) { s with heap := h, toks := tk } (.int k t))
    (fin : ∀ h tk v oo, Fr g L h (mOf m x o v oo) → News g L h news → Q .next { s with heap := h, toks := tk }) :
    ForT prog w A env body g L m x o news Q (.ref ta) { s with heap := h, toks := tk } := by
  refine ⟨ta, [.int k1 t1, .int k2 t2, .int k3 t3], z, rfl, Nat.zero_lt_succ _, F, fun p hp => N p (S p hp), ?_, fin⟩
  intro I v hv it
  rcases List.mem_cons.mp hv with rfl | hv
  · exact turn _ _ _ _ _ _ h1.1 h1.2
  · rcases List.mem_cons.mp hv with rfl | hv
    · exact turn _ _ _ _ _ _ h2.1 h2.2
    · rcases List.mem_cons.mp hv with rfl | hv
      · exact turn _ _ _ _ _ _ h3.1 h3.2
      · cases hv
theorem forP_tuple2 {px pos : Pos} {iter : PySem.Expr} (hh : A.handled = none) (hx : x ≠ o) (hmo : m o = none)
    (hk : scope.kind = .function) (hl : (envOf name scope L a cd).kindOf x = some .local)
    (h : wpAny (model prog w) A (eval iter (envOf name scope L a cd)) (ForT prog w A (envOf name scope L a cd) body g L m x o news Q) E s)
    (hs : ∀ x, foldedSetIterable iter (envOf name scope L a cd) x = pure x := by intro _; rfl) :
    wpP (model prog w) A (exec (.For (.Name x px) iter body [] pos) (envOf name scope L a cd)) Q E s := by
  refine wpP_For (wpAny_mono h (fun v s₁ h₁ => ?_) fun _ _ x => x) hs
  obtain ⟨ta, items, z, rfl, hne, F, N, turn, fin⟩ := h₁
  have ht : s₁.heap.IsTuple ta items.toArray := ⟨_, (N _ (.head _)).1, rfl, _, rfl⟩
  refine wpAny_pyIter_tuple ht ?_
  have lt : ∀ p ∈ (ta, tupOf items z) :: news, p.1 < s₁.heap.objs.size := fun p hp => Heap.lt_size (N p hp).1
  exact turns (s₀ := s₁) hh hx hmo hne hk hl (fun p hp => lt p (.tail _ hp)) (lt _ (.head _)) F.ns.lt F.fresh (turn _)
    (fun h tk v oo F N => fin h tk v oo F N) items.length 0 (by omega) _ s₁.toks m (F.push _) (.inl ⟨rfl, rfl⟩) ⟨_, Heap.get?_push_size _ rfl, rfl, rfl⟩
    (fun p hp => ⟨Heap.get?_push_of_some _ (N p hp).1, (N p hp).2⟩)
theorem forP_tuple3 {px pos : Pos} {iter : PySem.Expr} (_ : Fr g L s.heap m) (_ : News g L s.heap news) (hh : A.handled = none) (hx : x ≠ o) (hmo : m o = none)
    (hk : scope.kind = .function) (hl : (envOf name scope L a cd).kindOf x = some .local)
    (h : wpAny (model prog w) A (eval iter (envOf name scope L a cd)) (ForT prog w A (envOf name scope L a cd) body g L m x o news Q) E s)
    (hs : ∀ x, foldedSetIterable iter (envOf name scope L a cd) x = pure x := by intro _; rfl) :
    wpP (model prog w) A (exec (.For (.Name x px) iter body [] pos) (envOf name scope L a cd)) Q E s := forP_tuple2 hh hx hmo hk hl h hs
/-- a turn's end, whole -/
def TurnEnd (g : Heap) (L : Addr) (m : Str → Option Value) (x o : Str) (v : Value) (news : List (Addr × Obj)) (s₀ s' : Shared) : Prop :=
  ∃ h' tk' oo', s' = { s₀ with heap := h', toks := tk' } ∧ Fr g L h' (mOf m x o v oo') ∧ News g L h' news
theorem TurnP.of {prog : Program} {w : World} {A : Around} {env : Env} {body : List Stmt} {v : Value}
    (h : ∀ h tk oo, Fr g L h (mOf m x o v oo) → News g L h news → wpP (model prog w) A (execs body env) (fun f s' => f = .next ∧ TurnEnd g L m x o v news s s') (fun _ _ => False) { s with heap := h, toks := tk }) :
    TurnP prog w A env body g L m x o news s v := h
theorem turnE {h : Heap} {tk : Nat} {v u : Value} {oo : Option Value} {all : List (Addr × Obj)} (F : Fr g L h (fun y => if y = o then some u else mOf m x o v oo y)) (N : News g L h all) (S : ∀ p ∈ news, p ∈ all) :
    TurnEnd g L m x o v news s { s with heap := h, toks := tk } :=
  ⟨h, tk, some u, rfl, mOf_store ▸ F, fun p hp => N p (S p hp)⟩
end
end
-- part F6
theorem anew_F6 : True ∧ True := by
  w_top off
  first | (walk1; all_goals trivial) | exact ⟨trivial, trivial⟩
section
/-- the closing's own names -/
abbrev clD (w : World) (c1 c2 c3 c4 c5 : Tok) (st fr en u4 u5 : Value) : Obj := dictOf [{ hash := PyData.keyHash w.params (Str.ofString "state"), key := .str (Str.ofString "state") c1, val := st }, { hash := PyData.keyHash w.params (Str.ofString "frame"), key := .str (Str.ofString "frame") c2, val := fr }, { hash := PyData.keyHash w.params (Str.ofString "end"), key := .str (Str.ofString "end") c3, val := en }, { hash := PyData.keyHash w.params (Str.ofString "came"), key := .str (Str.ofString "came") c4, val := u4 }, { hash := PyData.keyHash w.params (Str.ofString "next_reply"), key := .str (Str.ofString "next_reply") c5, val := u5 }] 5
/-- the side's own names -/
abbrev coD (w : World) (t1 t2 t3 t4 t5 t6 t7 t8 t9 t10 t11 t12 t13 t14 t15 t16 t17 t18 t19 t20 t21 : Tok) (v1 v2 v3 v4 v5 v6 v7 v8 v9 v10 v11 v12 v13 v14 v15 v16 v17 : Value) (cla eva lma : Addr) (ow : Value) : Obj := dictOf [{ hash := PyData.keyHash w.params (Str.ofString "name"), key := .str (Str.ofString "name") t1, val := v1 }, { hash := PyData.keyHash w.params (Str.ofString "next_number"), key := .str (Str.ofString "next_number") t2, val := v2 }, { hash := PyData.keyHash w.params (Str.ofString "sent"), key := .str (Str.ofString "sent") t3, val := v3 }, { hash := PyData.keyHash w.params (Str.ofString "largest_acked"), key := .str (Str.ofString "largest_acked") t4, val := v4 }, { hash := PyData.keyHash w.params (Str.ofString "acked"), key := .str (Str.ofString "acked") t5, val := v5 }, { hash := PyData.keyHash w.params (Str.ofString "last_eliciting_time"), key := .str (Str.ofString "last_eliciting_time") t6, val := v6 }, { hash := PyData.keyHash w.params (Str.ofString "loss_time"), key := .str (Str.ofString "loss_time") t7, val := v7 }, { hash := PyData.keyHash w.params (Str.ofString "received"), key := .str (Str.ofString "received") t8, val := v8 }, { hash := PyData.keyHash w.params (Str.ofString "largest_seen"), key := .str (Str.ofString "largest_seen") t9, val := v9 }, { hash := PyData.keyHash w.params (Str.ofString "largest_time"), key := .str (Str.ofString "largest_time") t10, val := v10 }, { hash := PyData.keyHash w.params (Str.ofString "floor"), key := .str (Str.ofString "floor") t11, val := v11 }, { hash := PyData.keyHash w.params (Str.ofString "first_unacked"), key := .str (Str.ofString "first_unacked") t12, val := v12 }, { hash := PyData.keyHash w.params (Str.ofString "unacked"), key := .str (Str.ofString "unacked") t13, val := v13 }, { hash := PyData.keyHash w.params (Str.ofString "wants_now"), key := .str (Str.ofString "wants_now") t14, val := v14 }, { hash := PyData.keyHash w.params (Str.ofString "has_new"), key := .str (Str.ofString "has_new") t15, val := v15 }, { hash := PyData.keyHash w.params (Str.ofString "ecn"), key := .str (Str.ofString "ecn") t16, val := v16 }, { hash := PyData.keyHash w.params (Str.ofString "is_gone"), key := .str (Str.ofString "is_gone") t17, val := v17 }, { hash := PyData.keyHash w.params (Str.ofString "closing"), key := .str (Str.ofString "closing") t18, val := .ref cla }, { hash := PyData.keyHash w.params (Str.ofString "owes_close"), key := .str (Str.ofString "owes_close") t19, val := ow }, { hash := PyData.keyHash w.params (Str.ofString "events"), key := .str (Str.ofString "events") t20, val := .ref eva }, { hash := PyData.keyHash w.params (Str.ofString "probe_wait"), key := .str (Str.ofString "probe_wait") t21, val := .ref lma }] 21
abbrev laO (qual : Str) (pm : Value) (co : Addr) (ctv : Value) : Obj := kla_obj (Str.ofString "<lambda>") qual { posonlyargs := [], args := [], vararg := none, kwonlyargs := [], kw_defaults := [], kwarg := none, defaults := [] } (Expr.Constant (Const.int 20) 0 { line := 238, col := 97, endLine := 238, endCol := 99 }) { kind := ScopeKind.function, names := [], isGenerator := false, isCoroutine := false } [] pm co ctv
section
variable {g h : Heap} {L ca da : Addr} {s : Shared} {tk : Nat} {mr : Str → Option Value} {f n : Int} {tf tn t1 t2 t3 t4 t5 t6 t7 t8 t9 t10 t11 t12 t13 t14 t15 t16 t17 : Tok} {v1 v2 v3 v4 v5 v6 v7 v8 v9 v10 v11 v12 v13 v14 v15 v16 v17 : Value} {news : List (Addr × Obj)}
/-- behind conn, form, now -/
def At7 (w : World) (g : Heap) (L : Addr) (s s' : Shared) : Prop :=
  ∀ P : Shared → Prop, (∀ (h : Heap) (tk : Nat) (ca da : Addr) (f n : Int) (tf tn : Tok) (mr : Str → Option Value) (t1 t2 t3 t4 t5 t6 t7 t8 t9 t10 t11 t12 t13 t14 t15 t16 t17 : Tok) (v1 v2 v3 v4 v5 v6 v7 v8 v9 v10 v11 v12 v13 v14 v15 v16 v17 : Value), Fr g L h (fun y => if y = Str.ofString "conn" then some (.ref ca) else if y = Str.ofString "form" then some (.int f tf) else if y = Str.ofString "now" then some (.int n tn) else mr y) → News g L h [(ca, instObj 375 da), (da, dictOf [{ hash := PyData.keyHash w.params (Str.ofString "name"), key := .str (Str.ofString "name") t1, val := v1 }, { hash := PyData.keyHash w.params (Str.ofString "next_number"), key := .str (Str.ofString "next_number") t2, val := v2 }, { hash := PyData.keyHash w.params (Str.ofString "sent"), key := .str (Str.ofString "sent") t3, val := v3 }, { hash := PyData.keyHash w.params (Str.ofString "largest_acked"), key := .str (Str.ofString "largest_acked") t4, val := v4 }, { hash := PyData.keyHash w.params (Str.ofString "acked"), key := .str (Str.ofString "acked") t5, val := v5 }, { hash := PyData.keyHash w.params (Str.ofString "last_eliciting_time"), key := .str (Str.ofString "last_eliciting_time") t6, val := v6 }, { hash := PyData.keyHash w.params (Str.ofString "loss_time"), key := .str (Str.ofString "loss_time") t7, val := v7 }, { hash := PyData.keyHash w.params (Str.ofString "received"), key := .str (Str.ofString "received") t8, val := v8 }, { hash := PyData.keyHash w.params (Str.ofString "largest_seen"), key := .str (Str.ofString "largest_seen") t9, val := v9 }, { hash := PyData.keyHash w.params (Str.ofString "largest_time"), key := .str (Str.ofString "largest_time") t10, val := v10 }, { hash := PyData.keyHash w.params (Str.ofString "floor"), key := .str (Str.ofString "floor") t11, val := v11 }, { hash := PyData.keyHash w.params (Str.ofString "first_unacked"), key := .str (Str.ofString "first_unacked") t12, val := v12 }, { hash := PyData.keyHash w.params (Str.ofString "unacked"), key := .str (Str.ofString "unacked") t13, val := v13 }, { hash := PyData.keyHash w.params (Str.ofString "wants_now"), key := .str (Str.ofString "wants_now") t14, val := v14 }, { hash := PyData.keyHash w.params (Str.ofString "has_new"), key := .str (Str.ofString "has_new") t15, val := v15 }, { hash := PyData.keyHash w.params (Str.ofString "ecn"), key := .str (Str.ofString "ecn") t16, val := v16 }, { hash := PyData.keyHash w.params (Str.ofString "is_gone"), key := .str (Str.ofString "is_gone") t17, val := v17 }] 17), (388, tabObj #[])] → LtN 388 da → LtN da ca → 0 ≤ f → f < 3 → 0 ≤ n → n ≤ 1000 → P { s with heap := h, toks := tk }) → P s'
theorem At7.mk {w : World} (F : Fr g L h (fun y => if y = Str.ofString "conn" then some (.ref ca) else if y = Str.ofString "form" then some (.int f tf) else if y = Str.ofString "now" then some (.int n tn) else mr y)) (N : News g L h news) (S : ∀ p ∈ [(ca, instObj 375 da), (da, dictOf [{ hash := PyData.keyHash w.params (Str.ofString "name"), key := .str (Str.ofString "name") t1, val := v1 }, { hash := PyData.keyHash w.params (Str.ofString "next_number"), key := .str (Str.ofString "next_number") t2, val := v2 }, { hash := PyData.keyHash w.params (Str.ofString "sent"), key := .str (Str.ofString "sent") t3, val := v3 }, { hash := PyData.keyHash w.params (Str.ofString "largest_acked"), key := .str (Str.ofString "largest_acked") t4, val := v4 }, { hash := PyData.keyHash w.params (Str.ofString "acked"), key := .str (Str.ofString "acked") t5, val := v5 }, { hash := PyData.keyHash w.params (Str.ofString "last_eliciting_time"), key := .str (Str.ofString "last_eliciting_time") t6, val := v6 }, { hash := PyData.keyHash w.params (Str.ofString "loss_time"), key := .str (Str.ofString "loss_time") t7, val := v7 }, { hash := PyData.keyHash w.params (Str.ofString "received"), key := .str (Str.ofString "received") t8, val := v8 }, { hash := PyData.keyHash w.params (Str.ofString "largest_seen"), key := .str (Str.ofString "largest_seen") t9, val := v9 }, { hash := PyData.keyHash w.params (Str.ofString "largest_time"), key := .str (Str.ofString "largest_time") t10, val := v10 }, { hash := PyData.keyHash w.params (Str.ofString "floor"), key := .str (Str.ofString "floor") t11, val := v11 }, { hash := PyData.keyHash w.params (Str.ofString "first_unacked"), key := .str (Str.ofString "first_unacked") t12, val := v12 }, { hash := PyData.keyHash w.params (Str.ofString "unacked"), key := .str (Str.ofString "unacked") t13, val := v13 }, { hash := PyData.keyHash w.params (Str.ofString "wants_now"), key := .str (Str.ofString "wants_now") t14, val := v14 }, { hash := PyData.keyHash w.params (Str.ofString "has_new"), key := .str (Str.ofString "has_new") t15, val := v15 }, { hash := PyData.keyHash w.params (Str.ofString "ecn"), key := .str (Str.ofString "ecn") t16, val := v16 }, { hash := PyData.keyHash w.params (Str.ofString "is_gone"), key := .str (Str.ofString "is_gone") t17, val := v17 }] 17), (388, tabObj #[])], p ∈ news)
    (l1 : LtN 388 da) (l2 : LtN da ca) (h0 : 0 ≤ f) (h1 : f < 3) (h2 : 0 ≤ n) (h3 : n ≤ 1000) : At7 w g L s { s with heap := h, toks := tk } :=
  fun _ H => H h tk ca da f n tf tn mr t1 t2 t3 t4 t5 t6 t7 t8 t9 t10 t11 t12 t13 t14 t15 t16 t17 v1 v2 v3 v4 v5 v6 v7 v8 v9 v10 v11 v12 v13 v14 v15 v16 v17 F (fun p hp => N p (S p hp)) l1 l2 h0 h1 h2 h3
theorem At7.elim {w : World} {P : Shared → Prop} (H : ∀ (h : Heap) (tk : Nat) (ca da : Addr) (f n : Int) (tf tn : Tok) (mr : Str → Option Value) (t1 t2 t3 t4 t5 t6 t7 t8 t9 t10 t11 t12 t13 t14 t15 t16 t17 : Tok) (v1 v2 v3 v4 v5 v6 v7 v8 v9 v10 v11 v12 v13 v14 v15 v16 v17 : Value), Fr g L h (fun y => if y = Str.ofString "conn" then some (.ref ca) else if y = Str.ofString "form" then some (.int f tf) else if y = Str.ofString "now" then some (.int n tn) else mr y) → News g L h [(ca, instObj 375 da), (da, dictOf [{ hash := PyData.keyHash w.params (Str.ofString "name"), key := .str (Str.ofString "name") t1, val := v1 }, { hash := PyData.keyHash w.params (Str.ofString "next_number"), key := .str (Str.ofString "next_number") t2, val := v2 }, { hash := PyData.keyHash w.params (Str.ofString "sent"), key := .str (Str.ofString "sent") t3, val := v3 }, { hash := PyData.keyHash w.params (Str.ofString "largest_acked"), key := .str (Str.ofString "largest_acked") t4, val := v4 }, { hash := PyData.keyHash w.params (Str.ofString "acked"), key := .str (Str.ofString "acked") t5, val := v5 }, { hash := PyData.keyHash w.params (Str.ofString "last_eliciting_time"), key := .str (Str.ofString "last_eliciting_time") t6, val := v6 }, { hash := PyData.keyHash w.params (Str.ofString "loss_time"), key := .str (Str.ofString "loss_time") t7, val := v7 }, { hash := PyData.keyHash w.params (Str.ofString "received"), key := .str (Str.ofString "received") t8, val := v8 }, { hash := PyData.keyHash w.params (Str.ofString "largest_seen"), key := .str (Str.ofString "largest_seen") t9, val := v9 }, { hash := PyData.keyHash w.params (Str.ofString "largest_time"), key := .str (Str.ofString "largest_time") t10, val := v10 }, { hash := PyData.keyHash w.params (Str.ofString "floor"), key := .str (Str.ofString "floor") t11, val := v11 }, { hash := PyData.keyHash w.params (Str.ofString "first_unacked"), key := .str (Str.ofString "first_unacked") t12, val := v12 }, { hash := PyData.keyHash w.params (Str.ofString "unacked"), key := .str (Str.ofString "unacked") t13, val := v13 }, { hash := PyData.keyHash w.params (Str.ofString "wants_now"), key := .str (Str.ofString "wants_now") t14, val := v14 }, { hash := PyData.keyHash w.params (Str.ofString "has_new"), key := .str (Str.ofString "has_new") t15, val := v15 }, { hash := PyData.keyHash w.params (Str.ofString "ecn"), key := .str (Str.ofString "ecn") t16, val := v16 }, { hash := PyData.keyHash w.params (Str.ofString "is_gone"), key := .str (Str.ofString "is_gone") t17, val := v17 }] 17), (388, tabObj #[])] → LtN 388 da → LtN da ca → 0 ≤ f → f < 3 → 0 ≤ n → n ≤ 1000 → P { s with heap := h, toks := tk }) (s' : Shared) (h : At7 w g L s s') : P s' := h P H
/-- behind the side's parts -/
def At8 (w : World) (g : Heap) (L : Addr) (s s' : Shared) : Prop :=
  ∀ P : Shared → Prop, (∀ (h : Heap) (tk : Nat) (ca da cla cda eva co lma : Addr) (f n : Int) (tf tn : Tok) (mr : Str → Option Value) (t1 t2 t3 t4 t5 t6 t7 t8 t9 t10 t11 t12 t13 t14 t15 t16 t17 t18 t19 t20 t21 : Tok) (v1 v2 v3 v4 v5 v6 v7 v8 v9 v10 v11 v12 v13 v14 v15 v16 v17 : Value) (c0 c1 c2 c3 c4 c5 tq : Tok) (u4 u5 pm ctv : Value) (qual : Str) (oc : Obj) (fs : Array Value), Fr g L h (fun y => if y = Str.ofString "conn" then some (.ref ca) else if y = Str.ofString "form" then some (.int f tf) else if y = Str.ofString "now" then some (.int n tn) else mr y) → News g L h [(lma, laO qual pm co ctv), (co, oc), (eva, listOf #[] 0), (cla, instObj 101 cda), (cda, clD w c1 c2 c3 c4 c5 (.str (Str.ofString "open") c0) .none .none u4 u5), (ca, instObj 375 da), (da, coD w t1 t2 t3 t4 t5 t6 t7 t8 t9 t10 t11 t12 t13 t14 t15 t16 t17 t18 t19 t20 t21 v1 v2 v3 v4 v5 v6 v7 v8 v9 v10 v11 v12 v13 v14 v15 v16 v17 cla eva lma (.bool false)), (388, tabObj (#[] ++ #[rawInt 238, rawInt 89, .ref co]))] → LtN 388 da → LtN da ca → LtN ca cda → LtN cda cla → LtN cla eva → LtN eva co → LtN co lma → 0 ≤ f → f < 3 → 0 ≤ n → n ≤ 1000 → oc.data = .fields fs → fs[1]? = some (.str qual tq) → P { s with heap := h, toks := tk }) → P s'
theorem At8.mk {w : World} {cla cda eva co lma : Addr} {t18 t19 t20 t21 c0 c1 c2 c3 c4 c5 tq : Tok} {u4 u5 pm ctv : Value} {qual : Str} {oc : Obj} {fs : Array Value} (F : Fr g L h (fun y => if y = Str.ofString "conn" then some (.ref ca) else if y = Str.ofString "form" then some (.int f tf) else if y = Str.ofString "now" then some (.int n tn) else mr y)) (N : News g L h news) (S : ∀ p ∈ [(lma, laO qual pm co ctv), (co, oc), (eva, listOf #[] 0), (cla, instObj 101 cda), (cda, clD w c1 c2 c3 c4 c5 (.str (Str.ofString "open") c0) .none .none u4 u5), (ca, instObj 375 da), (da, coD w t1 t2 t3 t4 t5 t6 t7 t8 t9 t10 t11 t12 t13 t14 t15 t16 t17 t18 t19 t20 t21 v1 v2 v3 v4 v5 v6 v7 v8 v9 v10 v11 v12 v13 v14 v15 v16 v17 cla eva lma (.bool false)), (388, tabObj (#[] ++ #[rawInt 238, rawInt 89, .ref co]))], p ∈ news)
    (l1 : LtN 388 da) (l2 : LtN da ca) (l3 : LtN ca cda) (l4 : LtN cda cla) (l5 : LtN cla eva) (l6 : LtN eva co) (l7 : LtN co lma) (h0 : 0 ≤ f) (h1 : f < 3) (h2 : 0 ≤ n) (h3 : n ≤ 1000) (h4 : oc.data = .fields fs) (h5 : fs[1]? = some (.str qual tq)) : At8 w g L s { s with heap := h, toks := tk } :=
  fun _ H => H h tk ca da cla cda eva co lma f n tf tn mr t1 t2 t3 t4 t5 t6 t7 t8 t9 t10 t11 t12 t13 t14 t15 t16 t17 t18 t19 t20 t21 v1 v2 v3 v4 v5 v6 v7 v8 v9 v10 v11 v12 v13 v14 v15 v16 v17 c0 c1 c2 c3 c4 c5 tq u4 u5 pm ctv qual oc fs F (fun p hp => N p (S p hp)) l1 l2 l3 l4 l5 l6 l7 h0 h1 h2 h3 h4 h5
theorem At8.elim {w : World} {P : Shared → Prop} (H : ∀ (h : Heap) (tk : Nat) (ca da cla cda eva co lma : Addr) (f n : Int) (tf tn : Tok) (mr : Str → Option Value) (t1 t2 t3 t4 t5 t6 t7 t8 t9 t10 t11 t12 t13 t14 t15 t16 t17 t18 t19 t20 t21 : Tok) (v1 v2 v3 v4 v5 v6 v7 v8 v9 v10 v11 v12 v13 v14 v15 v16 v17 : Value) (c0 c1 c2 c3 c4 c5 tq : Tok) (u4 u5 pm ctv : Value) (qual : Str) (oc : Obj) (fs : Array Value), Fr g L h (fun y => if y = Str.ofString "conn" then some (.ref ca) else if y = Str.ofString "form" then some (.int f tf) else if y = Str.ofString "now" then some (.int n tn) else mr y) → News g L h [(lma, laO qual pm co ctv), (co, oc), (eva, listOf #[] 0), (cla, instObj 101 cda), (cda, clD w c1 c2 c3 c4 c5 (.str (Str.ofString "open") c0) .none .none u4 u5), (ca, instObj 375 da), (da, coD w t1 t2 t3 t4 t5 t6 t7 t8 t9 t10 t11 t12 t13 t14 t15 t16 t17 t18 t19 t20 t21 v1 v2 v3 v4 v5 v6 v7 v8 v9 v10 v11 v12 v13 v14 v15 v16 v17 cla eva lma (.bool false)), (388, tabObj (#[] ++ #[rawInt 238, rawInt 89, .ref co]))] → LtN 388 da → LtN da ca → LtN ca cda → LtN cda cla → LtN cla eva → LtN eva co → LtN co lma → 0 ≤ f → f < 3 → 0 ≤ n → n ≤ 1000 → oc.data = .fields fs → fs[1]? = some (.str qual tq) → P { s with heap := h, toks := tk }) (s' : Shared) (h : At8 w g L s s') : P s' := h P H
end
end
-- part G1
theorem anew_G1 : True ∧ True := by
  w_top off
  first | (walk1; all_goals trivial) | exact ⟨trivial, trivial⟩
section
set_option maxHeartbeats 4000000 in
theorem good_true {cl : Str → Option Addr} {mean : ExcName → Option Value} {ns : List Int} {g h' : Heap} {s₁ : Shared} {t t' : Nat} (hg : s₁.gens = #[]) (hk : ∀ b o, g.get? b = some o → h'.get? b = some o) :
    GoodW PySem.Challenge.rw_pf0271_01.row.claim cl mean [ofPy (PyData.list (ns.map PyData.int))] { heap := g, gens := s₁.gens, drawn := s₁.drawn, toks := t, os := s₁.os } (.ok (.ret (.bool true))) { heap := h', gens := s₁.gens, drawn := s₁.drawn, toks := t', os := s₁.os } := by
  refine ⟨.inl ⟨.bool true, .bool true, [], rfl, fun _ => rfl, .bool true, ?_, fun _ => ⟨List.nodup_nil, fun a ha => by cases ha⟩⟩, hk, rfl, hg⟩
  exact postW_of (by wrow_shape) (w_eq_bool (w_res rfl) w_lit) (by rfl)
theorem good_end {cl : Str → Option Addr} {mean : ExcName → Option Value} {ns : List Int} {g h' : Heap} {L : Addr} {m : Str → Option Value} {s₁ : Shared} {t t' : Nat} {tabs : List (Addr × Addr)} (F : Fr g L h' m) (hg : s₁.gens = #[]) (H : GrownAll tabs h') :
    GoodW PySem.Challenge.rw_pf0271_01.row.claim cl mean [ofPy (PyData.list (ns.map PyData.int))] { heap := g, gens := s₁.gens, drawn := s₁.drawn, toks := t, os := s₁.os } (.ok (.ret (.bool true))) { heap := h', gens := s₁.gens, drawn := s₁.drawn, toks := t', os := s₁.os } ∧ GrownAll tabs h' :=
  ⟨good_true hg F.keep, H⟩
theorem call_snd {M : Model} {A : Around} {E : Value → Shared → Prop} {s : Shared} {Q : Value → Shared → Prop} {f f' a b : Value} (h : wpAny M A (call f [a, b]) Q E s) : wpAny M A (call f ((f', [a]).snd ++ [b])) Q E s := h
theorem call_app {M : Model} {A : Around} {E : Value → Shared → Prop} {s : Shared} {Q : Value → Shared → Prop} {f a b : Value} (h : wpAny M A (call f [a, b]) Q E s) : wpAny M A (call f ([a] ++ [b])) Q E s := h
theorem callWith_pair0 {prog : Program} {w : World} {A : Around} {E : Value → Shared → Prop} {s : Shared} {K : Frag} {h₀ : Heap} {L : Addr} {m : Str → Option Value} {pos : PySem.Pos} {env : Env} {Q : Value → Shared → Prop} {f x : Value} (F : Fr h₀ L s.heap m) (X : K.In h₀) (hk : keepIn K f = true) (h : wpAny (model prog w) A (call f [x]) Q E s) : wpAny (model prog w) A (callWith pos (f, [x]).1 (f, [x]).2 (backTo pos (starEach [] env)) []) Q E s := callWith_K0 (X.keeps F.keep) hk h
theorem ne_int_eq {prog : Program} {w : World} {A : Around} {E : Value → Shared → Prop} {s : Shared} {Q : Value → Shared → Prop} {a b : Int} {t u : Tok} (e : a = b) (h : Q (.bool false) s) : wpAny (model prog w) A (compareOp .NotEq (.int a t) (.int b u)) Q E s :=
  ne_int (by subst e; rw [bne_self_eq_false]; exact h)
end
-- part F7
theorem anew_F7 : True ∧ True := by
  w_top off
  first | (walk1; all_goals trivial) | exact ⟨trivial, trivial⟩
section
/-- the end of a body that turns objects of the caller's, or makes some -/
def EndM {σ : Type} (g : Heap) (L' : Addr) (keep : σ → List (Addr × Obj)) (P : Value → Prop) (s₀ : Shared) (v : Value) (s' : Shared) : Prop := ∃ x, EndS g L' (keep x) P s₀ v s'
theorem EndM.say {σ : Type} {g h : Heap} {L' : Addr} {keep : σ → List (Addr × Obj)} {news' : List (Addr × Obj)} {P : Value → Prop} {s₀ : Shared} {v : Value} {m' : Str → Option Value} {tk : Nat} (x : σ)
    (F : Fr g L' h m') (N : News g L' h news') (S : ∀ p ∈ keep x, p ∈ news') (hP : Say (P v)) : EndM g L' keep P s₀ v { s₀ with heap := h, toks := tk } := ⟨x, EndS.say F N S hP⟩
section
variable {σ : Type} {prog : Program} {w : World} {A A₀ : Around} {E : Value → Shared → Prop} {s : Shared} {K : Frag} {L : Addr} {h₀ base : Heap} {m mg mb : Str → Option Value} {sub : List (Addr × Obj)} {p : Program} {loose : List Str} {mean : ExcName → Option Value}
theorem specM {env : Env} {outer : List Env} {name qual : Str} {params : Arguments} {body : List Stmt} {scope : Scope} {dV kV doc pm cdv ct oc : Value} {an od : Option Addr} {osl : Array (Option Value)} {f : Addr} {pos : List Value} {binds : List (Str × Value)} {P : Value → Prop} {Q : Value → Shared → Prop} {keep : σ → List (Addr × Obj)}
    (B : Below A₀ base outer h₀) (F : Fr h₀ L s.heap m) (X₀ : K.In h₀) (N : News h₀ L s.heap sub) (T : Top p loose mean mg mb h₀) (hA : A.frames = some (env :: outer)) (hf : env.frame = some L) (hke : env.scope.kind = .function)
    (ho : K.lookup f = some ⟨oc, od, .func (fnOf name qual params body scope dV kV doc pm an cdv ct), osl⟩) (hcd : codeIn K cdv qual = true) (hroom : A.depth < recursionLimit)
    (hbind : BindsTo s (fnOf name qual params body scope dV kV doc pm an cdv ct) ⟨pos, []⟩ binds) (hloc : ∀ y ∈ binds, scope.names.lookup y.1 = some .local)
    (h : ∀ g L' h₁, Fr g L' h₁ (fun y => binds.reverse.lookup y) → News g L' h₁ sub → Below A base (env :: outer) g → K.In g → Top p loose mean mg mb g → (∀ p ∈ sub, p.1 < L') →
      wpAny (model prog w) (A.deeper (envOf qual scope L' f cdv)) (execs body (envOf qual scope L' f cdv)) (fun fl s' => EndM g L' keep P s (match fl with | .ret v => v | _ => .none) s') (fun _ _ => False)
        { s with heap := h₁, toks := s.toks + binds.length })
    (hco : scope.isCoroutine = false) (hgen : scope.isGenerator = false) (hk : scope.kind = .function)
    (hcell : ∀ x ∈ scope.names, x.2 ≠ .cell)
    (ret : ∀ v h' tk' x, (∀ b o, b ∉ sub.map (·.1) → s.heap.get? b = some o → h'.get? b = some o) → (∀ p ∈ keep x, h'.get? p.1 = some p.2 ∧ (p.1 ∈ sub.map (·.1) ∨ s.heap.get? p.1 = none)) → P v → Q v { s with heap := h', toks := tk' }) : wpAny (model prog w) A (call (.ref f) pos) Q E s := by
  obtain ⟨FG, BG, st, lv⟩ := groundX (R := fun _ _ => True) B F N hA hf hke
  refine wpAny_call (codeAny_call_def (fd := fnOf name qual params body scope dV kV doc pm an cdv ct) (body := body) (binds := binds) hroom ((X₀.keeps F.keep) _ _ ho) rfl (T.nolimit.keeps F.keep) (codeRec_of (X₀.keeps F.keep) hcd) rfl hbind hcell hloc (fun h₁ hns hk₁ => ?_) hco hgen hk)
  refine wpAny_mono (h _ s.heap.objs.size h₁ ⟨hns, fun b o e => hk₁ b o (of_hideAll _ e), Nat.le_of_eq (hideAll_size _ _)⟩
    (fun p hp => ⟨hk₁ _ _ (N p hp).1, Nat.ne_of_lt (Heap.lt_size (N p hp).1), hideAll_none _ (List.mem_map_of_mem hp)⟩) BG (X₀.keeps st) (T.keeps st) (fun p hp => Heap.lt_size (N p hp).1)) (fun fl s' hl => ?_) fun _ _ x => x.elim
  obtain ⟨x, hl⟩ := hl
  obtain ⟨m', h', tk', rfl, F', N', hP⟩ := hl
  have kp : ∀ b o, b ∉ sub.map (·.1) → s.heap.get? b = some o → h'.get? b = some o := fun b o hb q => F'.keep b o (hideAll_get _ q hb)
  have nw : ∀ p ∈ keep x, h'.get? p.1 = some p.2 ∧ (p.1 ∈ sub.map (·.1) ∨ s.heap.get? p.1 = none) := fun p hp => by
    refine ⟨(N' p hp).1, ?_⟩
    by_cases hb : p.1 ∈ sub.map (·.1)
    · exact .inl hb
    · refine .inr ?_
      cases q : s.heap.get? p.1 with
      | none => rfl
      | some o =>
        have h1 := (N' p hp).2.2
        rw [hideAll_get _ q hb] at h1
        cases h1
  cases fl <;> exact ret _ h' tk' x kp nw hP
end
/-- called anywhere, the def turns the ledger sub into keep x and hands back what P says -/
def SpecM {σ : Type} (prog : Program) (w : World) (K : Params → Frag) (f : Addr) (vs : List Value) (sub : List (Addr × Obj)) (keep : σ → List (Addr × Obj)) (c : Nat) (P : Value → Prop) : Prop :=
  ∀ (p : Program) (loose : List Str) (mean : ExcName → Option Value) (mg mb : Str → Option Value) (dp un : Nat) (gd : Option (List Code)) (cn : Str) (cs : Scope) (a : Addr) (ccd : Value) (cl : List (Str × Addr)) (outer : List Env) (A₀ : Around) (base h₀ : Heap) (L : Addr) (m : Str → Option Value) (s : Shared) (Q E : Value → Shared → Prop),
    Below A₀ base outer h₀ → Fr h₀ L s.heap m → (K w.params).In h₀ → News h₀ L s.heap sub → Top p loose mean mg mb h₀ → cs.kind = .function → dp + c < recursionLimit → un + 8 * c < cLine →
    (∀ v h' tk' (x : σ), (∀ b o, b ∉ sub.map (·.1) → s.heap.get? b = some o → h'.get? b = some o) → (∀ p ∈ keep x, h'.get? p.1 = some p.2 ∧ (p.1 ∈ sub.map (·.1) ∨ s.heap.get? p.1 = none)) → P v → Q v { s with heap := h', toks := tk' }) →
      wpAny (model prog w) (ktrTop dp un gd cn cs L a ccd cl outer) (call (.ref f) vs) Q E s
/-- what is left of a ledger beside some addresses -/
inductive Olds (adr : List Addr) : List (Addr × Obj) → List (Addr × Obj) → Prop
  | nil : Olds adr [] []
  | skip {a : Addr} {o : Obj} {l l' : List (Addr × Obj)} (h : a ∈ adr) (t : Olds adr l l') : Olds adr ((a, o) :: l) l'
  | drop {a : Addr} {o : Obj} {l l' : List (Addr × Obj)} (t : Olds adr l l') : Olds adr ((a, o) :: l) l'
  | keep {a : Addr} {o : Obj} {l l' : List (Addr × Obj)} (h : a ∉ adr) (t : Olds adr l l') : Olds adr ((a, o) :: l) ((a, o) :: l')
theorem Olds.spec {adr : List Addr} {l l' : List (Addr × Obj)} (h : Olds adr l l') : ∀ p ∈ l', p ∈ l ∧ p.1 ∉ adr := by
  induction h with
  | nil => intro p hp; cases hp
  | skip _ _ ih => exact fun p hp => ⟨.tail _ (ih p hp).1, (ih p hp).2⟩
  | drop _ ih => exact fun p hp => ⟨.tail _ (ih p hp).1, (ih p hp).2⟩
  | keep ha _ ih =>
    intro p hp
    rcases List.mem_cons.mp hp with rfl | hp
    · exact ⟨.head _, ha⟩
    · exact ⟨.tail _ (ih p hp).1, (ih p hp).2⟩
theorem notin_nil {a : Addr} : a ∉ ([] : List Addr) := fun h => nomatch h
theorem notin_cons {a b : Addr} {l : List Addr} (h : a ≠ b) (t : a ∉ l) : a ∉ b :: l := fun q => by
  rcases List.mem_cons.mp q with rfl | q
  · exact h rfl
  · exact t q
theorem SpecM.use {σ : Type} {prog : Program} {w : World} {E : Value → Shared → Prop} {s : Shared} {h₀ base : Heap} {L : Addr} {m mg mb : Str → Option Value} {news sub old : List (Addr × Obj)} {keep : σ → List (Addr × Obj)} {K : Params → Frag} {f : Addr} {vs : List Value} {c : Nat} {P : Value → Prop} {Q : Value → Shared → Prop}
    {p : Program} {loose : List Str} {mean : ExcName → Option Value} {dp un : Nat} {gd : Option (List Code)} {cn : Str} {cs : Scope} {a : Addr} {ccd : Value} {cl : List (Str × Addr)} {outer : List Env} {A₀ : Around}
    (h : SpecM prog w K f vs sub keep c P) (B : Below A₀ base outer h₀) (F : Fr h₀ L s.heap m) (X : (K w.params).In h₀) (N : News h₀ L s.heap news) (S : ∀ p ∈ sub, p ∈ news) (O : Olds (sub.map (·.1)) news old)
    (T : Top p loose mean mg mb h₀) (hk : cs.kind = .function) (hd : dp + c < recursionLimit) (hu : un + 8 * c < cLine)
    (ret : ∀ v h' tk' x, Fr h₀ L h' m → News h₀ L h' (keep x ++ old) → P v → Q v { s with heap := h', toks := tk' }) : wpAny (model prog w) (ktrTop dp un gd cn cs L a ccd cl outer) (call (.ref f) vs) Q E s := by
  refine h p loose mean mg mb dp un gd cn cs a ccd cl outer A₀ base h₀ L m s Q E B F X (fun p hp => N p (S p hp)) T hk hd hu fun v h' tk' x kp hk' hv => ?_
  have sb : ∀ b, b ∈ sub.map (·.1) → b ≠ L ∧ h₀.get? b = none := fun b hb => by
    obtain ⟨q, hq, rfl⟩ := List.mem_map.mp hb
    exact (N q (S q hq)).2
  refine ret v h' tk' x ?_ ?_ hv
  · have off : ∀ b o, b ∉ sub.map (·.1) → s.heap.get? b = some o → h'.get? b = some o := kp
    obtain ⟨oL, es, ep, hL, r⟩ := F.ns
    refine ⟨⟨oL, es, ep, off L oL (fun hb => (sb L hb).1 rfl) hL, r⟩, fun b o q => off b o (fun hb => ?_) (F.keep b o q), F.above⟩
    rw [(sb b hb).2] at q
    cases q
  · intro q hq
    rcases List.mem_append.mp hq with hq | hq
    · refine ⟨(hk' q hq).1, ?_⟩
      rcases (hk' q hq).2 with hb | hb
      · exact sb _ hb
      · refine ⟨fun e => ?_, ?_⟩
        · obtain ⟨oL, _, _, hL, _⟩ := F.ns
          rw [e, hL] at hb
          cases hb
        · cases z : h₀.get? q.1 with
          | none => rfl
          | some o => rw [F.keep _ _ z] at hb; cases hb
    · obtain ⟨h1, h2⟩ := O.spec q hq
      exact ⟨kp _ _ h2 (N q h1).1, (N q h1).2⟩
theorem off_high {a lma co eva cla cda ca da : Nat} (h : lma < a) (l7 : co < lma) (l6 : eva < co) (l5 : cla < eva) (l4 : cda < cla) (l3 : ca < cda) (l2 : da < ca) : a ∉ ([lma, co, eva, cla, cda, ca, da] : List Nat) := by
  simp only [List.mem_cons, List.not_mem_nil, or_false]
  omega
theorem off_low {a lma co eva cla cda ca da : Nat} (h : a < da) (l7 : co < lma) (l6 : eva < co) (l5 : cla < eva) (l4 : cda < cla) (l3 : ca < cda) (l2 : da < ca) : a ∉ ([lma, co, eva, cla, cda, ca, da] : List Nat) := by
  simp only [List.mem_cons, List.not_mem_nil, or_false]
  omega
end
-- part R1
theorem anew_R1 : True ∧ True := by
  w_top off
  first | (walk1; all_goals trivial) | exact ⟨trivial, trivial⟩
section
set_option maxHeartbeats 4000000 in
theorem on_reset_open {w : World} {cla cda : Addr} {c0 c1 c2 c3 c4 c5 tn tp : Tok} {fr u4 u5 : Value} {n : Int} (hlt : @LT.lt Nat _ cda cla) :
    SpecM PySem.Challenge.rw_pf0271_01.row.prog w hd.heap_39 70 [.ref cla, .int n tn, .int 20 tp] [(cla, instObj 101 cda), (cda, clD w c1 c2 c3 c4 c5 (.str (Str.ofString "open") c0) fr (.none) u4 u5)] (fun x : Tok => [(cla, instObj 101 cda), (cda, clD w c1 c2 c3 c4 c5 (.str (Str.ofString "draining") 210) fr (.int (n + 60) x) u4 u5)]) 1 (fun v => v = .none) := by
  k_fill
  unfold SpecM
  intro p loose mean mg mb dp un gd cn cs a ccd cl outer A₀ base h₀ L m s Q E B F X N T hk hd hu ret
  refine' specM (binds := [(Str.ofString "self", .ref cla), (Str.ofString "now", .int n tn), (Str.ofString "probe_wait", .int 20 tp)]) (keep := (fun x : Tok => [(cla, instObj 101 cda), (cda, clD w c1 c2 c3 c4 c5 (.str (Str.ofString "draining") 210) fr (.int (n + 60) x) u4 u5)])) (P := fun v => v = .none) B F X N T ?kA ?kF ?kK ?k6 ?k7 ?k8 ?k9 ?kB ?_ ?c2 ?c3 ?c4 ?c5 ret
  (case kA => exact rfl); (case kF => exact rfl); (case kK => assumption); (case k6 => k_dflt k_is); (case k7 => k_dflt k_is); (case k8 => ktr_room)
  (case k9 => exact BindsTo.of_eq rfl); (case kB => exact locs rfl); (case c2 => exact rfl); (case c3 => exact rfl); (case c4 => exact rfl); (case c5 => decide)
  clear ret N F X T B
  intro g' L' h' F' N' B' X' T' l1
  (try k_lt l1)
  (try dsimp only)
  (try k_fold)
  repeat' (first | (k_unfold; (try dsimp only)) | ((with_reducible show wpP _ _ _ _ _ _); walk1) | (k_end; wrow_close) | ((with_reducible show wpAny _ _ _ _ _ _); first | ((with_reducible show wpAny _ _ (execs _ _) _ _ (Shared.mk _ _ _ (HAdd.hAdd (HAdd.hAdd (HAdd.hAdd (HAdd.hAdd _ _) _) _) _) _)); refine gen_toks ?_; intro tk9) | ((with_reducible show wpAny _ _ (eval (PySem.Expr.Name _ _) _) _ _ _); k_here; k_dflt (first | (refine' nameX_L (by k_asm) (by rfl) ?_ (by rfl) (by rfl); k_whole) | (refine' nameX_K (by k_asm) (by k_asm) (by k_asm) (by k_is) ?_ (by rfl) (by rfl); k_whole))) | ((with_reducible show wpAny _ _ (callWith _ (Value.ref _) _ _ _) _ _ _); k_here; k_dflt (first | (refine' callWith_K (by k_asm) (by k_is) ?_; k_whole) | (refine' callWith_K0 (by exact Frag.In.keeps (by k_asm) (Fr.keep (by k_asm))) (by k_is) ?_; k_whole)))) | walk1 | (dsimp only; walk1) | (leave1; walk_say "STEP leave1"; try dsimp only) | fail "no step")
  all_goals k_dflt (refine' EndM.say _ ?F ?N ?S ?_; (case F => k_asm); (case N => k_asm); (case S => exact SubL.mem (by k_subL)))
  all_goals exact Say.of rfl
set_option maxHeartbeats 4000000 in
theorem on_reset_closing {w : World} {cla cda : Addr} {c0 c1 c2 c3 c4 c5 tn tp : Tok} {fr u4 u5 : Value} {n : Int} {e : Int} {te : Tok} (hlt : @LT.lt Nat _ cda cla) :
    SpecM PySem.Challenge.rw_pf0271_01.row.prog w hd.heap_39 70 [.ref cla, .int n tn, .int 20 tp] [(cla, instObj 101 cda), (cda, clD w c1 c2 c3 c4 c5 (.str (Str.ofString "closing") c0) fr (.int e te) u4 u5)] (fun _ : Unit => [(cla, instObj 101 cda), (cda, clD w c1 c2 c3 c4 c5 (.str (Str.ofString "draining") 210) fr (.int e te) u4 u5)]) 1 (fun v => v = .none) := by
  k_fill
  unfold SpecM
  intro p loose mean mg mb dp un gd cn cs a ccd cl outer A₀ base h₀ L m s Q E B F X N T hk hd hu ret
  refine' specM (binds := [(Str.ofString "self", .ref cla), (Str.ofString "now", .int n tn), (Str.ofString "probe_wait", .int 20 tp)]) (keep := (fun _ : Unit => [(cla, instObj 101 cda), (cda, clD w c1 c2 c3 c4 c5 (.str (Str.ofString "draining") 210) fr (.int e te) u4 u5)])) (P := fun v => v = .none) B F X N T ?kA ?kF ?kK ?k6 ?k7 ?k8 ?k9 ?kB ?_ ?c2 ?c3 ?c4 ?c5 ret
  (case kA => exact rfl); (case kF => exact rfl); (case kK => assumption); (case k6 => k_dflt k_is); (case k7 => k_dflt k_is); (case k8 => ktr_room)
  (case k9 => exact BindsTo.of_eq rfl); (case kB => exact locs rfl); (case c2 => exact rfl); (case c3 => exact rfl); (case c4 => exact rfl); (case c5 => decide)
  clear ret N F X T B
  intro g' L' h' F' N' B' X' T' l1
  (try k_lt l1)
  (try dsimp only)
  (try k_fold)
  repeat' (first | (k_unfold; (try dsimp only)) | ((with_reducible show wpP _ _ _ _ _ _); walk1) | (k_end; wrow_close) | ((with_reducible show wpAny _ _ _ _ _ _); first | ((with_reducible show wpAny _ _ (execs _ _) _ _ (Shared.mk _ _ _ (HAdd.hAdd (HAdd.hAdd (HAdd.hAdd (HAdd.hAdd _ _) _) _) _) _)); refine gen_toks ?_; intro tk9) | ((with_reducible show wpAny _ _ (eval (PySem.Expr.Name _ _) _) _ _ _); k_here; k_dflt (first | (refine' nameX_L (by k_asm) (by rfl) ?_ (by rfl) (by rfl); k_whole) | (refine' nameX_K (by k_asm) (by k_asm) (by k_asm) (by k_is) ?_ (by rfl) (by rfl); k_whole))) | ((with_reducible show wpAny _ _ (callWith _ (Value.ref _) _ _ _) _ _ _); k_here; k_dflt (first | (refine' callWith_K (by k_asm) (by k_is) ?_; k_whole) | (refine' callWith_K0 (by exact Frag.In.keeps (by k_asm) (Fr.keep (by k_asm))) (by k_is) ?_; k_whole)))) | walk1 | (dsimp only; walk1) | (leave1; walk_say "STEP leave1"; try dsimp only) | fail "no step")
  all_goals k_dflt (refine' EndM.say () ?F ?N ?S ?_; (case F => k_asm); (case N => k_asm); (case S => exact SubL.mem (by k_subL)))
  all_goals exact Say.of rfl
set_option maxHeartbeats 4000000 in
theorem on_reset_draining {w : World} {cla cda : Addr} {c1 c2 c3 c4 c5 tn tp : Tok} {fr u4 u5 : Value} {n : Int} {e : Int} {te : Tok} (hlt : @LT.lt Nat _ cda cla) :
    SpecM PySem.Challenge.rw_pf0271_01.row.prog w hd.heap_39 70 [.ref cla, .int n tn, .int 20 tp] [(cla, instObj 101 cda), (cda, clD w c1 c2 c3 c4 c5 (.str (Str.ofString "draining") 210) fr (.int e te) u4 u5)] (fun _ : Unit => [(cla, instObj 101 cda), (cda, clD w c1 c2 c3 c4 c5 (.str (Str.ofString "draining") 210) fr (.int e te) u4 u5)]) 1 (fun v => v = .none) := by
  k_fill
  unfold SpecM
  intro p loose mean mg mb dp un gd cn cs a ccd cl outer A₀ base h₀ L m s Q E B F X N T hk hd hu ret
  refine' specM (binds := [(Str.ofString "self", .ref cla), (Str.ofString "now", .int n tn), (Str.ofString "probe_wait", .int 20 tp)]) (keep := (fun _ : Unit => [(cla, instObj 101 cda), (cda, clD w c1 c2 c3 c4 c5 (.str (Str.ofString "draining") 210) fr (.int e te) u4 u5)])) (P := fun v => v = .none) B F X N T ?kA ?kF ?kK ?k6 ?k7 ?k8 ?k9 ?kB ?_ ?c2 ?c3 ?c4 ?c5 ret
  (case kA => exact rfl); (case kF => exact rfl); (case kK => assumption); (case k6 => k_dflt k_is); (case k7 => k_dflt k_is); (case k8 => ktr_room)
  (case k9 => exact BindsTo.of_eq rfl); (case kB => exact locs rfl); (case c2 => exact rfl); (case c3 => exact rfl); (case c4 => exact rfl); (case c5 => decide)
  clear ret N F X T B
  intro g' L' h' F' N' B' X' T' l1
  (try k_lt l1)
  (try dsimp only)
  (try k_fold)
  repeat' (first | (k_unfold; (try dsimp only)) | ((with_reducible show wpP _ _ _ _ _ _); walk1) | (k_end; wrow_close) | ((with_reducible show wpAny _ _ _ _ _ _); first | ((with_reducible show wpAny _ _ (execs _ _) _ _ (Shared.mk _ _ _ (HAdd.hAdd (HAdd.hAdd (HAdd.hAdd (HAdd.hAdd _ _) _) _) _) _)); refine gen_toks ?_; intro tk9) | ((with_reducible show wpAny _ _ (eval (PySem.Expr.Name _ _) _) _ _ _); k_here; k_dflt (first | (refine' nameX_L (by k_asm) (by rfl) ?_ (by rfl) (by rfl); k_whole) | (refine' nameX_K (by k_asm) (by k_asm) (by k_asm) (by k_is) ?_ (by rfl) (by rfl); k_whole))) | ((with_reducible show wpAny _ _ (callWith _ (Value.ref _) _ _ _) _ _ _); k_here; k_dflt (first | (refine' callWith_K (by k_asm) (by k_is) ?_; k_whole) | (refine' callWith_K0 (by exact Frag.In.keeps (by k_asm) (Fr.keep (by k_asm))) (by k_is) ?_; k_whole)))) | walk1 | (dsimp only; walk1) | (leave1; walk_say "STEP leave1"; try dsimp only) | fail "no step")
  all_goals k_dflt (refine' EndM.say () ?F ?N ?S ?_; (case F => k_asm); (case N => k_asm); (case S => exact SubL.mem (by k_subL)))
  all_goals exact Say.of rfl
set_option maxHeartbeats 4000000 in
theorem take_reset_spec {σ : Type} (w : World) (lma co eva cla cda ca da : Addr) (n : Int) (tn tq : Tok) (t1 t2 t3 t4 t5 t6 t7 t8 t9 t10 t11 t12 t13 t14 t15 t16 t17 t18 t19 t20 t21 : Tok) (v1 v2 v3 v4 v5 v6 v7 v8 v9 v10 v11 v12 v13 v14 v15 v16 v17 ow pm ctv : Value) (qual : Str) (oc : Obj) (c1 c2 c3 c4 c5 : Tok) (st fr en u4 u5 : Value) (D1 : σ → Obj) (fs : Array Value) (evs : Array Value) (z : Nat)
    (l2 : @LT.lt Nat _ da ca) (l3 : @LT.lt Nat _ ca cda) (l4 : @LT.lt Nat _ cda cla) (l5 : @LT.lt Nat _ cla eva) (l6 : @LT.lt Nat _ eva co) (l7 : @LT.lt Nat _ co lma) (h4 : oc.data = .fields fs) (h5 : fs[1]? = some (.str qual tq)) (hE : evs.size ≤ sizeLine)
    (H : ∀ tp, SpecM PySem.Challenge.rw_pf0271_01.row.prog w hd.heap_39 70 [.ref cla, .int n tn, .int 20 tp] [(cla, instObj 101 cda), (cda, clD w c1 c2 c3 c4 c5 st fr en u4 u5)] (fun x : σ => [(cla, instObj 101 cda), (cda, D1 x)]) 1 (fun v => v = .none)) :
    SpecM PySem.Challenge.rw_pf0271_01.row.prog w hd.heap_39 28 [.ref ca, .int n tn] [(lma, laO qual pm co ctv), (co, oc), (eva, listOf evs z), (cla, instObj 101 cda), (cda, clD w c1 c2 c3 c4 c5 st fr en u4 u5), (ca, instObj 375 da), (da, coD w t1 t2 t3 t4 t5 t6 t7 t8 t9 t10 t11 t12 t13 t14 t15 t16 t17 t18 t19 t20 t21 v1 v2 v3 v4 v5 v6 v7 v8 v9 v10 v11 v12 v13 v14 v15 v16 v17 cla eva lma ow)] (fun x : σ × Addr × Tok × Nat => [(x.2.1, tupOf [.str (Str.ofString "reset by peer") x.2.2.1] x.2.2.2), (lma, laO qual pm co ctv), (co, oc), (eva, listOf (evs.push (.ref x.2.1)) (z + 1)), (cla, instObj 101 cda), (cda, D1 x.1), (ca, instObj 375 da), (da, coD w t1 t2 t3 t4 t5 t6 t7 t8 t9 t10 t11 t12 t13 t14 t15 t16 t17 t18 t19 t20 t21 v1 v2 v3 v4 v5 v6 v7 v8 v9 v10 v11 v12 v13 v14 v15 v16 v17 cla eva lma (.bool false))]) 2 (fun v => v = .none) := by
  k_fill
  unfold SpecM
  intro p loose mean mg mb dp un gd cn cs a ccd cl outer A₀ base h₀ L m s Q E B F X N T hk hd hu ret
  refine' specM (binds := [(Str.ofString "conn", .ref ca), (Str.ofString "now", .int n tn)]) (keep := (fun x : σ × Addr × Tok × Nat => [(x.2.1, tupOf [.str (Str.ofString "reset by peer") x.2.2.1] x.2.2.2), (lma, laO qual pm co ctv), (co, oc), (eva, listOf (evs.push (.ref x.2.1)) (z + 1)), (cla, instObj 101 cda), (cda, D1 x.1), (ca, instObj 375 da), (da, coD w t1 t2 t3 t4 t5 t6 t7 t8 t9 t10 t11 t12 t13 t14 t15 t16 t17 t18 t19 t20 t21 v1 v2 v3 v4 v5 v6 v7 v8 v9 v10 v11 v12 v13 v14 v15 v16 v17 cla eva lma (.bool false))])) (P := fun v => v = .none) B F X N T ?kA ?kF ?kK ?k6 ?k7 ?k8 ?k9 ?kB ?_ ?c2 ?c3 ?c4 ?c5 ret
  (case kA => exact rfl); (case kF => exact rfl); (case kK => assumption); (case k6 => k_dflt k_is); (case k7 => k_dflt k_is); (case k8 => ktr_room)
  (case k9 => exact BindsTo.of_eq rfl); (case kB => exact locs rfl); (case c2 => exact rfl); (case c3 => exact rfl); (case c4 => exact rfl); (case c5 => decide)
  clear ret N F X T B
  intro g' L' h' F' N' B' X' T' l1
  (try k_lt l1)
  (try dsimp only)
  (try k_fold)
  have C9 := codeHd_of_K (c := 392) (P := 388) X' (by kernel_rfl)
  repeat' (first | (k_unfold; (try dsimp only)) | ((with_reducible show wpP _ _ _ _ _ _); walk1) | (k_end; wrow_close) | ((with_reducible show wpAny _ _ _ _ _ _); first | ((with_reducible show wpAny _ _ (call (Value.ref 70) [Value.ref _, _, _]) _ _ _); k_dflt (rename ∀ _, SpecM _ _ _ 70 _ _ _ _ _ => H9; refine' SpecM.use (H9 _) (by k_asm) (by k_asm) (by k_asm) (by k_asm) (by exact SubL.mem (by k_subL)) (by repeat' (first | exact Olds.nil | (refine' Olds.skip (by first | exact List.Mem.head _ | exact List.Mem.tail _ (List.Mem.head _)) ?_) | (refine' Olds.keep (notin_cons (by k_ne) (notin_cons (by k_ne) notin_nil)) ?_))) (by k_asm) (by first | exact rfl | assumption) (by ktr_room) (by ktr_units) ?_; intro v' h' tk' x' F' N' e9; subst e9; (try dsimp only [List.cons_append, List.nil_append] at N')); (try k_fold)) | ((with_reducible first | refine call_snd ?_ | refine call_app ?_); (with_reducible show wpAny _ _ (call (Value.builtin _) [Value.ref _, _]) _ _ _); k_dflt (refine' append_K (by k_asm) (by k_asm) (by k_upd) ?_ (by first | assumption | size_fits); k_whole); intro h' F' N'; (try k_sweep)) | ((with_reducible show wpAny _ _ (call (Value.ref _) []) _ _ _); k_dflt (refine wpAny_call ?_; refine' kla_code (by k_asm) (by k_asm) (by k_asm) (by k_asm) (by k_asm) (by exact rfl) (by exact rfl) (by first | assumption | exact rfl) (by k_mem) (by exact codeRec_news (by k_asm) (by k_mem) (by assumption) (by assumption)) (by ktr_room) (by exact rfl) (by exact locs rfl) ?_ (by exact rfl) (by exact rfl) (by exact rfl) (by decide); k_whole; intro g' L' h' FG' F' N' B' X' T'; (try dsimp only); (try k_fold))) | ((with_reducible show wpAny _ _ (getMethod (Value.ref _) (PySem.Str.ofString "probe_wait") _) _ _ _); k_dflt (refine' kmu_own (by k_asm) (by k_asm) (by k_inst) (by k_is) (by k_is) ?_; k_whole)) | ((with_reducible show wpAny _ _ (execs _ _) _ _ (Shared.mk _ _ _ (HAdd.hAdd (HAdd.hAdd (HAdd.hAdd (HAdd.hAdd _ _) _) _) _) _)); refine gen_toks ?_; intro tk9) | ((with_reducible show wpAny _ _ (eval (PySem.Expr.Name _ _) _) _ _ _); k_here; k_dflt (first | (refine' nameX_L (by k_asm) (by rfl) ?_ (by rfl) (by rfl); k_whole) | (refine' nameX_K (by k_asm) (by k_asm) (by k_asm) (by k_is) ?_ (by rfl) (by rfl); k_whole))) | ((with_reducible show wpAny _ _ (callWith _ (Value.ref _) _ _ _) _ _ _); k_here; k_dflt (first | (refine' callWith_K (by k_asm) (by k_is) ?_; k_whole) | (refine' callWith_K0 (by exact Frag.In.keeps (by k_asm) (Fr.keep (by k_asm))) (by k_is) ?_; k_whole)))) | walk1 | (dsimp only; walk1) | (leave1; walk_say "STEP leave1"; try dsimp only) | fail "no step")
  all_goals k_dflt (refine' EndM.say (_, _, _, _) ?F ?N ?S ?_; (case F => k_asm); (case N => k_asm); (case S => exact SubL.mem (by k_subL)))
  all_goals exact Say.of rfl
theorem news_ne {h₀ h : Heap} {L a b : Addr} {o o' : Obj} {l : List (Addr × Obj)} (N : News h₀ L h l) (h1 : (a, o) ∈ l) (h2 : (b, o') ∈ l) (hne : o' ≠ o) : a ≠ b := fun e => by
  have z1 := (N _ h1).1
  have z2 := (N _ h2).1
  simp only [] at z1 z2
  rw [e, z2] at z1
  exact hne (Option.some.inj z1)
theorem cls_ne {o o' : Obj} {a b : String} (h : o.cls = .type a) (h' : o'.cls = .type b) (hne : b ≠ a) : o' ≠ o := fun e => by
  rw [e, h] at h'
  injection h' with h'
  exact hne h'.symm
theorem take_reset_use {σ : Type} {w : World} {lma co eva cla cda ca da : Addr} {n : Int} {tn tq : Tok} {t1 t2 t3 t4 t5 t6 t7 t8 t9 t10 t11 t12 t13 t14 t15 t16 t17 t18 t19 t20 t21 : Tok} {v1 v2 v3 v4 v5 v6 v7 v8 v9 v10 v11 v12 v13 v14 v15 v16 v17 ow pm ctv : Value} {qual : Str} {oc : Obj} {c1 c2 c3 c4 c5 : Tok} {st fr en u4 u5 : Value} {D1 : σ → Obj} {fs : Array Value} {evs : Array Value} {z : Nat}
    {E : Value → Shared → Prop} {s : Shared} {h₀ base : Heap} {L : Addr} {m mg mb : Str → Option Value} {news old : List (Addr × Obj)} {Q : Value → Shared → Prop}
    {p : Program} {loose : List Str} {mean : ExcName → Option Value} {dp un : Nat} {gd : Option (List Code)} {cn : Str} {cs : Scope} {a : Addr} {ccd : Value} {cl : List (Str × Addr)} {outer : List Env} {A₀ : Around}
    (B : Below A₀ base outer h₀) (F : Fr h₀ L s.heap m) (X : (hd.heap_39 w.params).In h₀) (N : News h₀ L s.heap news) (S : ∀ p ∈ [(lma, laO qual pm co ctv), (co, oc), (eva, listOf evs z), (cla, instObj 101 cda), (cda, clD w c1 c2 c3 c4 c5 st fr en u4 u5), (ca, instObj 375 da), (da, coD w t1 t2 t3 t4 t5 t6 t7 t8 t9 t10 t11 t12 t13 t14 t15 t16 t17 t18 t19 t20 t21 v1 v2 v3 v4 v5 v6 v7 v8 v9 v10 v11 v12 v13 v14 v15 v16 v17 cla eva lma ow)], p ∈ news) (O : Olds [lma, co, eva, cla, cda, ca, da] news old)
    (l2 : @LT.lt Nat _ da ca) (l3 : @LT.lt Nat _ ca cda) (l4 : @LT.lt Nat _ cda cla) (l5 : @LT.lt Nat _ cla eva) (l6 : @LT.lt Nat _ eva co) (l7 : @LT.lt Nat _ co lma) (h4 : oc.data = .fields fs) (h5 : fs[1]? = some (.str qual tq)) (hE : evs.size ≤ sizeLine)
    (H : ∀ tp, SpecM PySem.Challenge.rw_pf0271_01.row.prog w hd.heap_39 70 [.ref cla, .int n tn, .int 20 tp] [(cla, instObj 101 cda), (cda, clD w c1 c2 c3 c4 c5 st fr en u4 u5)] (fun x : σ => [(cla, instObj 101 cda), (cda, D1 x)]) 1 (fun v => v = .none)) (hD : ∀ x, (D1 x).cls = .type "dict")
    (T : Top p loose mean mg mb h₀) (hk : cs.kind = .function) (hd : dp + 2 < recursionLimit) (hu : un + 8 * 2 < cLine)
    (ret : ∀ h' tk' (x : σ) a t y, Fr h₀ L h' m → News h₀ L h' ((a, tupOf [.str (Str.ofString "reset by peer") t] y) :: (lma, laO qual pm co ctv) :: (co, oc) :: (eva, listOf (evs.push (.ref a)) (z + 1)) :: (cla, instObj 101 cda) :: (cda, D1 x) :: (ca, instObj 375 da) :: (da, coD w t1 t2 t3 t4 t5 t6 t7 t8 t9 t10 t11 t12 t13 t14 t15 t16 t17 t18 t19 t20 t21 v1 v2 v3 v4 v5 v6 v7 v8 v9 v10 v11 v12 v13 v14 v15 v16 v17 cla eva lma (.bool false)) :: old) →
      a ∉ [lma, co, eva, cla, cda, ca, da] → Q .none { s with heap := h', toks := tk' }) : wpAny (model PySem.Challenge.rw_pf0271_01.row.prog w) (ktrTop dp un gd cn cs L a ccd cl outer) (call (.ref 28) [.ref ca, .int n tn]) Q E s := by
  refine SpecM.use (take_reset_spec w lma co eva cla cda ca da n tn tq t1 t2 t3 t4 t5 t6 t7 t8 t9 t10 t11 t12 t13 t14 t15 t16 t17 t18 t19 t20 t21 v1 v2 v3 v4 v5 v6 v7 v8 v9 v10 v11 v12 v13 v14 v15 v16 v17 ow pm ctv qual oc c1 c2 c3 c4 c5 st fr en u4 u5 D1 fs evs z l2 l3 l4 l5 l6 l7 h4 h5 hE H) B F X N S O T hk hd hu fun v h' tk' x F' N' hv => ?_
  subst hv
  obtain ⟨x, a9, t9, y9⟩ := x
  refine ret h' tk' x a9 t9 y9 F' N' ?_
  refine notin_cons (news_ne N' (.head _) (.tail _ (.head _)) (cls_ne rfl rfl (by decide))) (notin_cons (news_ne N' (.head _) (.tail _ (.tail _ (.head _))) fun e => ?_) (notin_cons (news_ne N' (.head _) (.tail _ (.tail _ (.tail _ (.head _)))) (cls_ne rfl rfl (by decide)))
    (notin_cons (news_ne N' (.head _) (.tail _ (.tail _ (.tail _ (.tail _ (.head _))))) fun e => ?_) (notin_cons (news_ne N' (.head _) (.tail _ (.tail _ (.tail _ (.tail _ (.tail _ (.head _)))))) (cls_ne rfl (hD x) (by decide)))
    (notin_cons (news_ne N' (.head _) (.tail _ (.tail _ (.tail _ (.tail _ (.tail _ (.tail _ (.head _))))))) fun e => ?_) (notin_cons (news_ne N' (.head _) (.tail _ (.tail _ (.tail _ (.tail _ (.tail _ (.tail _ (.tail _ (.head _)))))))) (cls_ne rfl rfl (by decide))) notin_nil))))))
  · have z := congrArg Obj.data e
    rw [h4] at z
    cases z
  · have z := congrArg Obj.cls e
    cases z
  · have z := congrArg Obj.cls e
    cases z
end
-- part L1
theorem anew_L1 : True ∧ True := by
  w_top off
  first | (walk1; all_goals trivial) | exact ⟨trivial, trivial⟩
section
set_option maxHeartbeats 8000000 in
theorem law_try : PySem.Challenge.rw_pf0271_01.Holds := by
  refine hd ?_
  k_fill
  intro w s₀ s₁ mg mb G Y fa o pm cd doc dV kV ho hd hcd hD hmg hg args vals as hpre hlay hrd hwl hlo
  have KX := km_in_of Y
  km_tabs Y
  have X := (Ground.X G).1
  have V := (Ground.X G).2
  refine Ground.open G ?_
  intro T B D TE TW
  try (refine guard_noD D (by decide +kernel) ?_; clear D)
  replace hmg : mg (PySem.Str.ofString "law") = some (.ref fa) := hmg
  km_lay T hmg ho hd cd
  clear hmg
  wrow_args hpre hlay hrd hwl hlo
  w_top on
  refine kn_postP hT9 (fun _ _ => rfl) ?_
  have he := Dflts.none hD rfl
  subst he
  refine call_fullP (by decide) ho hd (Top.nolimit T) hcd (BindsTo.of_eq rfl) (locs rfl) fun h₁ F => ?_
  w_binds F
  have N0 := (News.nil : News _ _ _ []).at F
  clear hd
  kn_ghosts F T
  k_drop
  clear hcd hD ho
  refine cutP (l1 := [_]) (At1 10 (ghostOf s₁.heap [(392, 388)]) s₁.heap.objs.size s₁) ?_ ?_
  · (try k_fold)
    repeat' (first | (k_unfold; (try dsimp only)) | ((with_reducible show wpP _ _ _ _ _ _); first | ((with_reducible show wpP _ _ (call (Value.ref 218) [Value.ref _, Value.int _ _]) _ _ _); k_dflt (refine' SpecP.use (packet_size_h_int _ _ #[] _ _ _ _ _ _ _ _ _ _ 0 _ _ ?_ ?_ (by decide) ?_ ?_ ?_ ?_ ?_) (by k_asm) (by k_asm) (by k_asm) (by k_asm) (by first | exact List.forall_mem_nil _ | exact SubL.mem (by k_subL)) (by k_asm) (by first | exact rfl | assumption) (by ktr_room) (by ktr_units) ?_; (all_goals (first | decide | assumption | omega | skip)); intro v' h' tk' F' N' hv'; (rename OctOf _ _ _ => hv9; obtain ⟨o9, u9, e9, ho91, ho92, ho93⟩ := hv9; subst e9); (try dsimp only)); (try k_fold)) | ((with_reducible show wpP _ _ (call (Value.ref 218) [Value.ref _, Value.none]) _ _ _); k_dflt (refine' SpecP.use (packet_size_h_none _ _ #[] _ _ 0 _ _ _ _ _ _ _ 0 0 _ ?_ ?_ (by decide) ?_ ?_ ?_) (by k_asm) (by k_asm) (by k_asm) (by k_asm) (by first | exact List.forall_mem_nil _ | exact SubL.mem (by k_subL)) (by k_asm) (by first | exact rfl | assumption) (by ktr_room) (by ktr_units) ?_; (all_goals (first | decide | assumption | omega | skip)); intro v' h' tk' F' N' hv'; (rename OctOf _ _ _ => hv9; obtain ⟨o9, u9, e9, ho91, ho92, ho93⟩ := hv9; subst e9); (try dsimp only)); (try k_fold)) | ((with_reducible show wpP _ _ (call (Value.ref 218) [Value.ref _, Value.int _ _]) _ _ _); k_dflt (refine' SpecP.use (packet_size_i_int _ _ _ _ _ _ _ _ _ _ _ _ _ _ _ _ ?_ ?_ ?_ ?_ ?_ ?_ ?_ ?_) (by k_asm) (by k_asm) (by k_asm) (by k_asm) (by first | exact List.forall_mem_nil _ | exact SubL.mem (by k_subL)) (by k_asm) (by first | exact rfl | assumption) (by ktr_room) (by ktr_units) ?_; (all_goals (first | decide | assumption | omega | skip)); intro v' h' tk' F' N' hv'; (rename OctOf _ _ _ => hv9; obtain ⟨o9, u9, e9, ho91, ho92, ho93⟩ := hv9; subst e9); (try dsimp only)); (try k_fold)) | ((with_reducible show wpP _ _ (call (Value.ref 218) [Value.ref _, Value.none]) _ _ _); k_dflt (refine' SpecP.use (packet_size_i_none _ _ _ _ _ 0 _ _ _ _ _ _ _ _ 0 _ ?_ ?_ ?_ ?_ ?_ ?_) (by k_asm) (by k_asm) (by k_asm) (by k_asm) (by first | exact List.forall_mem_nil _ | exact SubL.mem (by k_subL)) (by k_asm) (by first | exact rfl | assumption) (by ktr_room) (by ktr_units) ?_; (all_goals (first | decide | assumption | omega | skip)); intro v' h' tk' F' N' hv'; (rename OctOf _ _ _ => hv9; obtain ⟨o9, u9, e9, ho91, ho92, ho93⟩ := hv9; subst e9); (try dsimp only)); (try k_fold)) | ((with_reducible show wpP _ _ (call (Value.ref 218) [Value.ref _, Value.int _ _]) _ _ _); k_dflt (refine' SpecP.use (packet_size_s_int _ #[] #[] _ _ _ _ _ _ _ _ _ _ 0 _ _ ?_ (by decide) (by decide) ?_ ?_ ?_ ?_ ?_) (by k_asm) (by k_asm) (by k_asm) (by k_asm) (by first | exact List.forall_mem_nil _ | exact SubL.mem (by k_subL)) (by k_asm) (by first | exact rfl | assumption) (by ktr_room) (by ktr_units) ?_; (all_goals (first | decide | assumption | omega | skip)); intro v' h' tk' F' N' hv'; (rename OctOf _ _ _ => hv9; obtain ⟨o9, u9, e9, ho91, ho92, ho93⟩ := hv9; subst e9); (try dsimp only)); (try k_fold)) | ((with_reducible show wpP _ _ (call (Value.ref 218) [Value.ref _, Value.none]) _ _ _); k_dflt (refine' SpecP.use (packet_size_s_none _ #[] #[] _ _ 0 _ _ _ _ _ _ _ 0 0 _ ?_ (by decide) (by decide) ?_ ?_ ?_) (by k_asm) (by k_asm) (by k_asm) (by k_asm) (by first | exact List.forall_mem_nil _ | exact SubL.mem (by k_subL)) (by k_asm) (by first | exact rfl | assumption) (by ktr_room) (by ktr_units) ?_; (all_goals (first | decide | assumption | omega | skip)); intro v' h' tk' F' N' hv'; (rename OctOf _ _ _ => hv9; obtain ⟨o9, u9, e9, ho91, ho92, ho93⟩ := hv9; subst e9); (try dsimp only)); (try k_fold)) | ((with_reducible show wpP _ _ (exec (Stmt.If (PySem.Expr.UnaryOp UnaryOp.Not (PySem.Expr.Compare _ [_, _] [_, _] _) _) _ _ _) _) _ _ _); k_dflt (refine' wpP_IfNotChain (by with_unfolding_all rfl) ?_)) | ((with_reducible show wpP _ _ (call (Value.ref 232) [_, _, Value.str (Str.ofString "handshake") _]) _ _ _); k_dflt (refine' SpecPW.use (head_octets_h_int _ _ _ _ _ _ _ _ _ _ _ _ _ _ _ _ ?_ ?_ ?_ ?_ ?_ ?_ ?_ ?_) (by k_asm) (by k_asm) (by k_asm) (by k_asm) (by first | exact List.forall_mem_nil _ | exact SubL.mem (by k_subL)) (by k_asm) (by first | exact rfl | assumption) (by ktr_room) (by ktr_units) ?_; (all_goals (first | assumption | decide | assumption | omega | skip)); intro v' h' tk' F' N' hv'; (rename IntOf _ _ => hv9; obtain ⟨u9, e9⟩ := hv9; subst e9); (try dsimp only)); (try k_fold)) | ((with_reducible show wpP _ _ (call (Value.ref 232) [_, _, Value.str (Str.ofString "handshake") _]) _ _ _); k_dflt (refine' SpecPW.use (head_octets_h_none _ _ _ _ _ _ _ _ 0 _ _ _ 0 _ _ _ ?_ ?_ ?_ ?_ ?_ ?_) (by k_asm) (by k_asm) (by k_asm) (by k_asm) (by first | exact List.forall_mem_nil _ | exact SubL.mem (by k_subL)) (by k_asm) (by first | exact rfl | assumption) (by ktr_room) (by ktr_units) ?_; (all_goals (first | assumption | decide | assumption | omega | skip)); intro v' h' tk' F' N' hv'; (rename IntOf _ _ => hv9; obtain ⟨u9, e9⟩ := hv9; subst e9); (try dsimp only)); (try k_fold)) | ((with_reducible show wpP _ _ (call (Value.ref 232) [_, _, Value.str (Str.ofString "initial") _]) _ _ _); k_dflt (refine' SpecPW.use (head_octets_i_int _ _ _ _ _ _ _ _ _ _ _ _ _ _ _ _ ?_ ?_ ?_ ?_ ?_ ?_ ?_ ?_) (by k_asm) (by k_asm) (by k_asm) (by k_asm) (by first | exact List.forall_mem_nil _ | exact SubL.mem (by k_subL)) (by k_asm) (by first | exact rfl | assumption) (by ktr_room) (by ktr_units) ?_; (all_goals (first | assumption | decide | assumption | omega | skip)); intro v' h' tk' F' N' hv'; (rename IntOf _ _ => hv9; obtain ⟨u9, e9⟩ := hv9; subst e9); (try dsimp only)); (try k_fold)) | ((with_reducible show wpP _ _ (call (Value.ref 232) [_, _, Value.str (Str.ofString "initial") _]) _ _ _); k_dflt (refine' SpecPW.use (head_octets_i_none _ _ _ _ _ _ _ _ 0 _ _ _ 0 _ _ _ ?_ ?_ ?_ ?_ ?_ ?_) (by k_asm) (by k_asm) (by k_asm) (by k_asm) (by first | exact List.forall_mem_nil _ | exact SubL.mem (by k_subL)) (by k_asm) (by first | exact rfl | assumption) (by ktr_room) (by ktr_units) ?_; (all_goals (first | assumption | decide | assumption | omega | skip)); intro v' h' tk' F' N' hv'; (rename IntOf _ _ => hv9; obtain ⟨u9, e9⟩ := hv9; subst e9); (try dsimp only)); (try k_fold)) | ((with_reducible show wpP _ _ (call (Value.ref 232) [_, _, Value.str (Str.ofString "application") _]) _ _ _); k_dflt (refine' SpecPW.use (head_octets_s_int _ _ _ _ _ _ _ _ _ _ _ _ _ _ _ _ ?_ ?_ ?_ ?_ ?_ ?_ ?_ ?_) (by k_asm) (by k_asm) (by k_asm) (by k_asm) (by first | exact List.forall_mem_nil _ | exact SubL.mem (by k_subL)) (by k_asm) (by first | exact rfl | assumption) (by ktr_room) (by ktr_units) ?_; (all_goals (first | assumption | decide | assumption | omega | skip)); intro v' h' tk' F' N' hv'; (rename IntOf _ _ => hv9; obtain ⟨u9, e9⟩ := hv9; subst e9); (try dsimp only)); (try k_fold)) | ((with_reducible show wpP _ _ (call (Value.ref 232) [_, _, Value.str (Str.ofString "application") _]) _ _ _); k_dflt (refine' SpecPW.use (head_octets_s_none _ _ _ _ _ _ _ _ 0 _ _ _ 0 _ _ _ ?_ ?_ ?_ ?_ ?_ ?_) (by k_asm) (by k_asm) (by k_asm) (by k_asm) (by first | exact List.forall_mem_nil _ | exact SubL.mem (by k_subL)) (by k_asm) (by first | exact rfl | assumption) (by ktr_room) (by ktr_units) ?_; (all_goals (first | assumption | decide | assumption | omega | skip)); intro v' h' tk' F' N' hv'; (rename IntOf _ _ => hv9; obtain ⟨u9, e9⟩ := hv9; subst e9); (try dsimp only)); (try k_fold)) | walk1) | ((with_reducible show GoodW _ _ _ _ _ (Except.ok (Flow.ret (Value.bool true))) _ ∧ GrownAll _ _); with_reducible refine' good_end (by with_reducible assumption) (by with_reducible assumption) ?_) | (k_end; wrow_close) | ((with_reducible show wpAny _ _ _ _ _ _); first | ((with_reducible show wpAny _ _ (call (Value.ref 28) [_, _]) _ _ _); k_dflt (first | (refine' take_reset_use (by k_asm) (by k_asm) (by k_asm) (by k_asm) (by exact SubL.mem (by k_subL)) (by repeat' (first | exact Olds.nil | (refine' Olds.skip (by with_reducible first | exact List.Mem.head _ | exact List.Mem.tail _ (List.Mem.head _) | exact List.Mem.tail _ (List.Mem.tail _ (List.Mem.head _)) | exact List.Mem.tail _ (List.Mem.tail _ (List.Mem.tail _ (List.Mem.head _))) | exact List.Mem.tail _ (List.Mem.tail _ (List.Mem.tail _ (List.Mem.tail _ (List.Mem.head _)))) | exact List.Mem.tail _ (List.Mem.tail _ (List.Mem.tail _ (List.Mem.tail _ (List.Mem.tail _ (List.Mem.head _))))) | exact List.Mem.tail _ (List.Mem.tail _ (List.Mem.tail _ (List.Mem.tail _ (List.Mem.tail _ (List.Mem.tail _ (List.Mem.head _))))))) ?_) | (refine' Olds.keep (by with_reducible assumption) ?_) | (refine' Olds.keep (off_low (by with_reducible assumption) (by assumption) (by assumption) (by assumption) (by assumption) (by assumption) (by assumption)) ?_) | (refine' Olds.keep (off_high (by omega) (by assumption) (by assumption) (by assumption) (by assumption) (by assumption) (by assumption)) ?_) | refine' Olds.drop ?_)) (by assumption) (by assumption) (by assumption) (by assumption) (by assumption) (by assumption) (by assumption) (by assumption) (by first | decide | size_fits) (fun _ => on_reset_open (by assumption)) (fun _ => rfl) (by k_asm) (by first | exact rfl | assumption) (by ktr_room) (by ktr_units) ?_) | (refine' take_reset_use (by k_asm) (by k_asm) (by k_asm) (by k_asm) (by exact SubL.mem (by k_subL)) (by repeat' (first | exact Olds.nil | (refine' Olds.skip (by with_reducible first | exact List.Mem.head _ | exact List.Mem.tail _ (List.Mem.head _) | exact List.Mem.tail _ (List.Mem.tail _ (List.Mem.head _)) | exact List.Mem.tail _ (List.Mem.tail _ (List.Mem.tail _ (List.Mem.head _))) | exact List.Mem.tail _ (List.Mem.tail _ (List.Mem.tail _ (List.Mem.tail _ (List.Mem.head _)))) | exact List.Mem.tail _ (List.Mem.tail _ (List.Mem.tail _ (List.Mem.tail _ (List.Mem.tail _ (List.Mem.head _))))) | exact List.Mem.tail _ (List.Mem.tail _ (List.Mem.tail _ (List.Mem.tail _ (List.Mem.tail _ (List.Mem.tail _ (List.Mem.head _))))))) ?_) | (refine' Olds.keep (by with_reducible assumption) ?_) | (refine' Olds.keep (off_low (by with_reducible assumption) (by assumption) (by assumption) (by assumption) (by assumption) (by assumption) (by assumption)) ?_) | (refine' Olds.keep (off_high (by omega) (by assumption) (by assumption) (by assumption) (by assumption) (by assumption) (by assumption)) ?_) | refine' Olds.drop ?_)) (by assumption) (by assumption) (by assumption) (by assumption) (by assumption) (by assumption) (by assumption) (by assumption) (by first | decide | size_fits) (fun _ => on_reset_closing (by assumption)) (fun _ => rfl) (by k_asm) (by first | exact rfl | assumption) (by ktr_room) (by ktr_units) ?_) | (refine' take_reset_use (by k_asm) (by k_asm) (by k_asm) (by k_asm) (by exact SubL.mem (by k_subL)) (by repeat' (first | exact Olds.nil | (refine' Olds.skip (by with_reducible first | exact List.Mem.head _ | exact List.Mem.tail _ (List.Mem.head _) | exact List.Mem.tail _ (List.Mem.tail _ (List.Mem.head _)) | exact List.Mem.tail _ (List.Mem.tail _ (List.Mem.tail _ (List.Mem.head _))) | exact List.Mem.tail _ (List.Mem.tail _ (List.Mem.tail _ (List.Mem.tail _ (List.Mem.head _)))) | exact List.Mem.tail _ (List.Mem.tail _ (List.Mem.tail _ (List.Mem.tail _ (List.Mem.tail _ (List.Mem.head _))))) | exact List.Mem.tail _ (List.Mem.tail _ (List.Mem.tail _ (List.Mem.tail _ (List.Mem.tail _ (List.Mem.tail _ (List.Mem.head _))))))) ?_) | (refine' Olds.keep (by with_reducible assumption) ?_) | (refine' Olds.keep (off_low (by with_reducible assumption) (by assumption) (by assumption) (by assumption) (by assumption) (by assumption) (by assumption)) ?_) | (refine' Olds.keep (off_high (by omega) (by assumption) (by assumption) (by assumption) (by assumption) (by assumption) (by assumption)) ?_) | refine' Olds.drop ?_)) (by assumption) (by assumption) (by assumption) (by assumption) (by assumption) (by assumption) (by assumption) (by assumption) (by first | decide | size_fits) (fun _ => on_reset_draining (by assumption)) (fun _ => rfl) (by k_asm) (by first | exact rfl | assumption) (by ktr_room) (by ktr_units) ?_)); intro h' tk' x' a' t' y' F' N' hA'; (try k_fold)) | ((with_reducible show wpAny _ _ (call (Value.ref 225) [_, Value.str (Str.ofString "handshake") _, _, _]) _ _ _); k_dflt (refine' SpecN.use (packet_with_h _ _ _ _ _ _ _ _ _ _ _) (by k_asm) (by k_asm) (by k_asm) (by k_asm) (by first | exact List.forall_mem_nil _ | exact SubL.mem (by k_subL)) (by k_asm) (by first | exact rfl | assumption) (by ktr_room) (by ktr_units) ?_; intro a' ob' h' tk' F' N' hp'; obtain ⟨_, _, _, _, _, _, _, e9⟩ := hp'; subst e9; (try dsimp only)); (try k_fold)) | ((with_reducible show wpAny _ _ (call (Value.ref 225) [_, Value.str (Str.ofString "initial") _, _, _]) _ _ _); k_dflt (refine' SpecN.use (packet_with_i _ _ _ _ _ _ _ _ _ _ _) (by k_asm) (by k_asm) (by k_asm) (by k_asm) (by first | exact List.forall_mem_nil _ | exact SubL.mem (by k_subL)) (by k_asm) (by first | exact rfl | assumption) (by ktr_room) (by ktr_units) ?_; intro a' ob' h' tk' F' N' hp'; obtain ⟨_, _, _, _, _, _, _, _, _, e9, hz9⟩ := hp'; subst e9; (try dsimp only)); (try k_fold)) | ((with_reducible show wpAny _ _ (call (Value.ref 225) [_, Value.str (Str.ofString "application") _, _, _]) _ _ _); k_dflt (refine' SpecN.use (packet_with_s _ _ _ _ _ _ _ _ _ _ _) (by k_asm) (by k_asm) (by k_asm) (by k_asm) (by first | exact List.forall_mem_nil _ | exact SubL.mem (by k_subL)) (by k_asm) (by first | exact rfl | assumption) (by ktr_room) (by ktr_units) ?_; intro a' ob' h' tk' F' N' hp'; obtain ⟨_, _, _, _, _, _, _, e9⟩ := hp'; subst e9; (try dsimp only)); (try k_fold)) | ((with_reducible show wpAny _ _ (call (Value.ref 386) [Value.ref _, Value.int 50 _]) _ _ _); k_dflt (refine' SpecT.use take_50 (by k_asm) (by k_asm) (by k_asm) (by k_asm) (by intro t9; k_upd) (by k_mem) (by k_asm) (by exact rfl) (by ktr_room) (by ktr_units) (by first | assumption | omega) (by assumption) (by first | assumption | omega) (by first | decide | omega) (by first | decide | omega) ?_); intro n' tv' h' tk' t' F' N' hn0' hn1'; (try dsimp only); (try k_fold)) | ((with_reducible show wpAny _ _ (call (Value.ref 386) [Value.ref _, Value.int 6 _]) _ _ _); k_dflt (refine' SpecT.use take_6 (by k_asm) (by k_asm) (by k_asm) (by k_asm) (by intro t9; k_upd) (by k_mem) (by k_asm) (by exact rfl) (by ktr_room) (by ktr_units) (by first | assumption | omega) (by assumption) (by first | assumption | omega) (by first | decide | omega) (by first | decide | omega) ?_); intro n' tv' h' tk' t' F' N' hn0' hn1'; (try dsimp only); (try k_fold)) | ((with_reducible show wpAny _ _ (call (Value.ref 386) [Value.ref _, Value.int 4 _]) _ _ _); k_dflt (refine' SpecT.use take_4 (by k_asm) (by k_asm) (by k_asm) (by k_asm) (by intro t9; k_upd) (by k_mem) (by k_asm) (by exact rfl) (by ktr_room) (by ktr_units) (by first | assumption | omega) (by assumption) (by first | assumption | omega) (by first | decide | omega) (by first | decide | omega) ?_); intro n' tv' h' tk' t' F' N' hn0' hn1'; (try dsimp only); (try k_fold)) | ((with_reducible show wpAny _ _ (call (Value.ref 386) [Value.ref _, Value.int 21 _]) _ _ _); k_dflt (refine' SpecT.use take_21 (by k_asm) (by k_asm) (by k_asm) (by k_asm) (by intro t9; k_upd) (by k_mem) (by k_asm) (by exact rfl) (by ktr_room) (by ktr_units) (by first | assumption | omega) (by assumption) (by first | assumption | omega) (by first | decide | omega) (by first | decide | omega) ?_); intro n' tv' h' tk' t' F' N' hn0' hn1'; (try dsimp only); (try k_fold)) | ((with_reducible show wpAny _ _ (call (Value.ref 386) [Value.ref _, Value.int 3 _]) _ _ _); k_dflt (refine' SpecT.use take_3 (by k_asm) (by k_asm) (by k_asm) (by k_asm) (by intro t9; k_upd) (by k_mem) (by k_asm) (by exact rfl) (by ktr_room) (by ktr_units) (by first | assumption | omega) (by assumption) (by first | assumption | omega) (by first | decide | omega) (by first | decide | omega) ?_); intro n' tv' h' tk' t' F' N' hn0' hn1'; (try dsimp only); (try k_fold)) | ((with_reducible show wpAny _ _ (getMethod (Value.ref _) (PySem.Str.ofString "probe_wait") _) _ _ _); k_dflt (refine' kmu_own (by k_asm) (by k_asm) (by k_inst) (by k_is) (by k_is) ?_; k_whole)) | ((with_reducible first | refine call_snd ?_ | refine call_app ?_); (with_reducible show wpAny _ _ (call (Value.builtin _) [Value.ref _, _]) _ _ _); k_dflt (refine' append_K (by k_asm) (by k_asm) (by k_upd) ?_ (by size_fits); k_whole); intro h' F' N'; (try k_sweep)) | (with_reducible refine ne_int_eq (by omega) ?_) | (k_here; (with_reducible show wpAny _ _ (call (Value.ref 63) [Value.ref _, Value.int _ _, Value.int _ _]) _ _ _); k_dflt (refine wpAny_call ?_; k_enter)) | (k_here; (with_reducible show wpAny _ _ (call (Value.ref 56) [Value.ref _, Value.ref _, Value.int _ _, Value.int _ _]) _ _ _); k_dflt (refine wpAny_call ?_; k_enter)) | (k_here; (with_reducible show wpAny _ _ (call (Value.ref 98) [Value.ref _]) _ _ _); k_dflt (refine wpAny_call ?_; k_enter)) | (k_here; (with_reducible show wpAny _ _ (callWith _ (Value.ref 98, _).1 _ (backTo _ (starEach [] _)) []) _ _ _); k_dflt (refine' callWith_pair0 (by k_asm) (by k_asm) (by k_is) ?_)) | ((with_reducible show wpAny _ _ (execs _ _) _ _ (Shared.mk _ _ _ (HAdd.hAdd (HAdd.hAdd (HAdd.hAdd (HAdd.hAdd _ _) _) _) _) _)); refine gen_toks ?_; intro tk9) | ((with_reducible show wpAny _ _ (eval (PySem.Expr.Name _ _) _) _ _ _); k_here; k_dflt (first | (refine' nameX_L (by k_asm) (by rfl) ?_ (by rfl) (by rfl); k_whole) | (refine' nameX_K (by k_asm) (by k_asm) (by k_asm) (by k_is) ?_ (by rfl) (by rfl); k_whole))) | ((with_reducible show wpAny _ _ (callWith _ (Value.ref _) _ _ _) _ _ _); k_here; k_dflt (first | (refine' callWith_K (by k_asm) (by k_is) ?_; k_whole) | (refine' callWith_K0 (by exact Frag.In.keeps (by k_asm) (Fr.keep (by k_asm))) (by k_is) ?_; k_whole)))) | walk1 | (dsimp only; walk1) | (leave1; walk_say "STEP leave1"; try dsimp only) | fail "no step")
    all_goals k_dflt (refine' At1.mk ?F ?N ?S ?l1 ?l2 ?hi ?hn ?hmr ?h0 ?h1; (case F => k_asm); (case N => k_asm); (case S => exact SubL.mem (by k_subL)); (case l1 => omega); (case l2 => omega); (case hi => assumption); (case hn => first | assumption | (simp only [List.length_take]; omega)); (case hmr => first | assumption | exact rfl); (case h0 => omega); (case h1 => omega))
  (rename Fr _ _ _ _ => F8; rename News _ _ _ _ => N8; clear F8 N8)
  rintro s' ⟨h, tk, bx, lst, c, t, zc, vs, ns, mr, rfl, F9, N9, l1, l2, hi, hn, hmr, h0, h1⟩
  refine cutP (l1 := [_]) (At2 (ghostOf s₁.heap [(392, 388)]) s₁.heap.objs.size s₁) ?_ ?_
  · (try k_fold)
    repeat' (first | (k_unfold; (try dsimp only)) | ((with_reducible show wpP _ _ _ _ _ _); first | ((with_reducible show wpP _ _ (call (Value.ref 218) [Value.ref _, Value.int _ _]) _ _ _); k_dflt (refine' SpecP.use (packet_size_h_int _ _ #[] _ _ _ _ _ _ _ _ _ _ 0 _ _ ?_ ?_ (by decide) ?_ ?_ ?_ ?_ ?_) (by k_asm) (by k_asm) (by k_asm) (by k_asm) (by first | exact List.forall_mem_nil _ | exact SubL.mem (by k_subL)) (by k_asm) (by first | exact rfl | assumption) (by ktr_room) (by ktr_units) ?_; (all_goals (first | decide | assumption | omega | skip)); intro v' h' tk' F' N' hv'; (rename OctOf _ _ _ => hv9; obtain ⟨o9, u9, e9, ho91, ho92, ho93⟩ := hv9; subst e9); (try dsimp only)); (try k_fold)) | ((with_reducible show wpP _ _ (call (Value.ref 218) [Value.ref _, Value.none]) _ _ _); k_dflt (refine' SpecP.use (packet_size_h_none _ _ #[] _ _ 0 _ _ _ _ _ _ _ 0 0 _ ?_ ?_ (by decide) ?_ ?_ ?_) (by k_asm) (by k_asm) (by k_asm) (by k_asm) (by first | exact List.forall_mem_nil _ | exact SubL.mem (by k_subL)) (by k_asm) (by first | exact rfl | assumption) (by ktr_room) (by ktr_units) ?_; (all_goals (first | decide | assumption | omega | skip)); intro v' h' tk' F' N' hv'; (rename OctOf _ _ _ => hv9; obtain ⟨o9, u9, e9, ho91, ho92, ho93⟩ := hv9; subst e9); (try dsimp only)); (try k_fold)) | ((with_reducible show wpP _ _ (call (Value.ref 218) [Value.ref _, Value.int _ _]) _ _ _); k_dflt (refine' SpecP.use (packet_size_i_int _ _ _ _ _ _ _ _ _ _ _ _ _ _ _ _ ?_ ?_ ?_ ?_ ?_ ?_ ?_ ?_) (by k_asm) (by k_asm) (by k_asm) (by k_asm) (by first | exact List.forall_mem_nil _ | exact SubL.mem (by k_subL)) (by k_asm) (by first | exact rfl | assumption) (by ktr_room) (by ktr_units) ?_; (all_goals (first | decide | assumption | omega | skip)); intro v' h' tk' F' N' hv'; (rename OctOf _ _ _ => hv9; obtain ⟨o9, u9, e9, ho91, ho92, ho93⟩ := hv9; subst e9); (try dsimp only)); (try k_fold)) | ((with_reducible show wpP _ _ (call (Value.ref 218) [Value.ref _, Value.none]) _ _ _); k_dflt (refine' SpecP.use (packet_size_i_none _ _ _ _ _ 0 _ _ _ _ _ _ _ _ 0 _ ?_ ?_ ?_ ?_ ?_ ?_) (by k_asm) (by k_asm) (by k_asm) (by k_asm) (by first | exact List.forall_mem_nil _ | exact SubL.mem (by k_subL)) (by k_asm) (by first | exact rfl | assumption) (by ktr_room) (by ktr_units) ?_; (all_goals (first | decide | assumption | omega | skip)); intro v' h' tk' F' N' hv'; (rename OctOf _ _ _ => hv9; obtain ⟨o9, u9, e9, ho91, ho92, ho93⟩ := hv9; subst e9); (try dsimp only)); (try k_fold)) | ((with_reducible show wpP _ _ (call (Value.ref 218) [Value.ref _, Value.int _ _]) _ _ _); k_dflt (refine' SpecP.use (packet_size_s_int _ #[] #[] _ _ _ _ _ _ _ _ _ _ 0 _ _ ?_ (by decide) (by decide) ?_ ?_ ?_ ?_ ?_) (by k_asm) (by k_asm) (by k_asm) (by k_asm) (by first | exact List.forall_mem_nil _ | exact SubL.mem (by k_subL)) (by k_asm) (by first | exact rfl | assumption) (by ktr_room) (by ktr_units) ?_; (all_goals (first | decide | assumption | omega | skip)); intro v' h' tk' F' N' hv'; (rename OctOf _ _ _ => hv9; obtain ⟨o9, u9, e9, ho91, ho92, ho93⟩ := hv9; subst e9); (try dsimp only)); (try k_fold)) | ((with_reducible show wpP _ _ (call (Value.ref 218) [Value.ref _, Value.none]) _ _ _); k_dflt (refine' SpecP.use (packet_size_s_none _ #[] #[] _ _ 0 _ _ _ _ _ _ _ 0 0 _ ?_ (by decide) (by decide) ?_ ?_ ?_) (by k_asm) (by k_asm) (by k_asm) (by k_asm) (by first | exact List.forall_mem_nil _ | exact SubL.mem (by k_subL)) (by k_asm) (by first | exact rfl | assumption) (by ktr_room) (by ktr_units) ?_; (all_goals (first | decide | assumption | omega | skip)); intro v' h' tk' F' N' hv'; (rename OctOf _ _ _ => hv9; obtain ⟨o9, u9, e9, ho91, ho92, ho93⟩ := hv9; subst e9); (try dsimp only)); (try k_fold)) | ((with_reducible show wpP _ _ (exec (Stmt.If (PySem.Expr.UnaryOp UnaryOp.Not (PySem.Expr.Compare _ [_, _] [_, _] _) _) _ _ _) _) _ _ _); k_dflt (refine' wpP_IfNotChain (by with_unfolding_all rfl) ?_)) | ((with_reducible show wpP _ _ (call (Value.ref 232) [_, _, Value.str (Str.ofString "handshake") _]) _ _ _); k_dflt (refine' SpecPW.use (head_octets_h_int _ _ _ _ _ _ _ _ _ _ _ _ _ _ _ _ ?_ ?_ ?_ ?_ ?_ ?_ ?_ ?_) (by k_asm) (by k_asm) (by k_asm) (by k_asm) (by first | exact List.forall_mem_nil _ | exact SubL.mem (by k_subL)) (by k_asm) (by first | exact rfl | assumption) (by ktr_room) (by ktr_units) ?_; (all_goals (first | assumption | decide | assumption | omega | skip)); intro v' h' tk' F' N' hv'; (rename IntOf _ _ => hv9; obtain ⟨u9, e9⟩ := hv9; subst e9); (try dsimp only)); (try k_fold)) | ((with_reducible show wpP _ _ (call (Value.ref 232) [_, _, Value.str (Str.ofString "handshake") _]) _ _ _); k_dflt (refine' SpecPW.use (head_octets_h_none _ _ _ _ _ _ _ _ 0 _ _ _ 0 _ _ _ ?_ ?_ ?_ ?_ ?_ ?_) (by k_asm) (by k_asm) (by k_asm) (by k_asm) (by first | exact List.forall_mem_nil _ | exact SubL.mem (by k_subL)) (by k_asm) (by first | exact rfl | assumption) (by ktr_room) (by ktr_units) ?_; (all_goals (first | assumption | decide | assumption | omega | skip)); intro v' h' tk' F' N' hv'; (rename IntOf _ _ => hv9; obtain ⟨u9, e9⟩ := hv9; subst e9); (try dsimp only)); (try k_fold)) | ((with_reducible show wpP _ _ (call (Value.ref 232) [_, _, Value.str (Str.ofString "initial") _]) _ _ _); k_dflt (refine' SpecPW.use (head_octets_i_int _ _ _ _ _ _ _ _ _ _ _ _ _ _ _ _ ?_ ?_ ?_ ?_ ?_ ?_ ?_ ?_) (by k_asm) (by k_asm) (by k_asm) (by k_asm) (by first | exact List.forall_mem_nil _ | exact SubL.mem (by k_subL)) (by k_asm) (by first | exact rfl | assumption) (by ktr_room) (by ktr_units) ?_; (all_goals (first | assumption | decide | assumption | omega | skip)); intro v' h' tk' F' N' hv'; (rename IntOf _ _ => hv9; obtain ⟨u9, e9⟩ := hv9; subst e9); (try dsimp only)); (try k_fold)) | ((with_reducible show wpP _ _ (call (Value.ref 232) [_, _, Value.str (Str.ofString "initial") _]) _ _ _); k_dflt (refine' SpecPW.use (head_octets_i_none _ _ _ _ _ _ _ _ 0 _ _ _ 0 _ _ _ ?_ ?_ ?_ ?_ ?_ ?_) (by k_asm) (by k_asm) (by k_asm) (by k_asm) (by first | exact List.forall_mem_nil _ | exact SubL.mem (by k_subL)) (by k_asm) (by first | exact rfl | assumption) (by ktr_room) (by ktr_units) ?_; (all_goals (first | assumption | decide | assumption | omega | skip)); intro v' h' tk' F' N' hv'; (rename IntOf _ _ => hv9; obtain ⟨u9, e9⟩ := hv9; subst e9); (try dsimp only)); (try k_fold)) | ((with_reducible show wpP _ _ (call (Value.ref 232) [_, _, Value.str (Str.ofString "application") _]) _ _ _); k_dflt (refine' SpecPW.use (head_octets_s_int _ _ _ _ _ _ _ _ _ _ _ _ _ _ _ _ ?_ ?_ ?_ ?_ ?_ ?_ ?_ ?_) (by k_asm) (by k_asm) (by k_asm) (by k_asm) (by first | exact List.forall_mem_nil _ | exact SubL.mem (by k_subL)) (by k_asm) (by first | exact rfl | assumption) (by ktr_room) (by ktr_units) ?_; (all_goals (first | assumption | decide | assumption | omega | skip)); intro v' h' tk' F' N' hv'; (rename IntOf _ _ => hv9; obtain ⟨u9, e9⟩ := hv9; subst e9); (try dsimp only)); (try k_fold)) | ((with_reducible show wpP _ _ (call (Value.ref 232) [_, _, Value.str (Str.ofString "application") _]) _ _ _); k_dflt (refine' SpecPW.use (head_octets_s_none _ _ _ _ _ _ _ _ 0 _ _ _ 0 _ _ _ ?_ ?_ ?_ ?_ ?_ ?_) (by k_asm) (by k_asm) (by k_asm) (by k_asm) (by first | exact List.forall_mem_nil _ | exact SubL.mem (by k_subL)) (by k_asm) (by first | exact rfl | assumption) (by ktr_room) (by ktr_units) ?_; (all_goals (first | assumption | decide | assumption | omega | skip)); intro v' h' tk' F' N' hv'; (rename IntOf _ _ => hv9; obtain ⟨u9, e9⟩ := hv9; subst e9); (try dsimp only)); (try k_fold)) | walk1) | ((with_reducible show GoodW _ _ _ _ _ (Except.ok (Flow.ret (Value.bool true))) _ ∧ GrownAll _ _); with_reducible refine' good_end (by with_reducible assumption) (by with_reducible assumption) ?_) | (k_end; wrow_close) | ((with_reducible show wpAny _ _ _ _ _ _); first | ((with_reducible show wpAny _ _ (call (Value.ref 28) [_, _]) _ _ _); k_dflt (first | (refine' take_reset_use (by k_asm) (by k_asm) (by k_asm) (by k_asm) (by exact SubL.mem (by k_subL)) (by repeat' (first | exact Olds.nil | (refine' Olds.skip (by with_reducible first | exact List.Mem.head _ | exact List.Mem.tail _ (List.Mem.head _) | exact List.Mem.tail _ (List.Mem.tail _ (List.Mem.head _)) | exact List.Mem.tail _ (List.Mem.tail _ (List.Mem.tail _ (List.Mem.head _))) | exact List.Mem.tail _ (List.Mem.tail _ (List.Mem.tail _ (List.Mem.tail _ (List.Mem.head _)))) | exact List.Mem.tail _ (List.Mem.tail _ (List.Mem.tail _ (List.Mem.tail _ (List.Mem.tail _ (List.Mem.head _))))) | exact List.Mem.tail _ (List.Mem.tail _ (List.Mem.tail _ (List.Mem.tail _ (List.Mem.tail _ (List.Mem.tail _ (List.Mem.head _))))))) ?_) | (refine' Olds.keep (by with_reducible assumption) ?_) | (refine' Olds.keep (off_low (by with_reducible assumption) (by assumption) (by assumption) (by assumption) (by assumption) (by assumption) (by assumption)) ?_) | (refine' Olds.keep (off_high (by omega) (by assumption) (by assumption) (by assumption) (by assumption) (by assumption) (by assumption)) ?_) | refine' Olds.drop ?_)) (by assumption) (by assumption) (by assumption) (by assumption) (by assumption) (by assumption) (by assumption) (by assumption) (by first | decide | size_fits) (fun _ => on_reset_open (by assumption)) (fun _ => rfl) (by k_asm) (by first | exact rfl | assumption) (by ktr_room) (by ktr_units) ?_) | (refine' take_reset_use (by k_asm) (by k_asm) (by k_asm) (by k_asm) (by exact SubL.mem (by k_subL)) (by repeat' (first | exact Olds.nil | (refine' Olds.skip (by with_reducible first | exact List.Mem.head _ | exact List.Mem.tail _ (List.Mem.head _) | exact List.Mem.tail _ (List.Mem.tail _ (List.Mem.head _)) | exact List.Mem.tail _ (List.Mem.tail _ (List.Mem.tail _ (List.Mem.head _))) | exact List.Mem.tail _ (List.Mem.tail _ (List.Mem.tail _ (List.Mem.tail _ (List.Mem.head _)))) | exact List.Mem.tail _ (List.Mem.tail _ (List.Mem.tail _ (List.Mem.tail _ (List.Mem.tail _ (List.Mem.head _))))) | exact List.Mem.tail _ (List.Mem.tail _ (List.Mem.tail _ (List.Mem.tail _ (List.Mem.tail _ (List.Mem.tail _ (List.Mem.head _))))))) ?_) | (refine' Olds.keep (by with_reducible assumption) ?_) | (refine' Olds.keep (off_low (by with_reducible assumption) (by assumption) (by assumption) (by assumption) (by assumption) (by assumption) (by assumption)) ?_) | (refine' Olds.keep (off_high (by omega) (by assumption) (by assumption) (by assumption) (by assumption) (by assumption) (by assumption)) ?_) | refine' Olds.drop ?_)) (by assumption) (by assumption) (by assumption) (by assumption) (by assumption) (by assumption) (by assumption) (by assumption) (by first | decide | size_fits) (fun _ => on_reset_closing (by assumption)) (fun _ => rfl) (by k_asm) (by first | exact rfl | assumption) (by ktr_room) (by ktr_units) ?_) | (refine' take_reset_use (by k_asm) (by k_asm) (by k_asm) (by k_asm) (by exact SubL.mem (by k_subL)) (by repeat' (first | exact Olds.nil | (refine' Olds.skip (by with_reducible first | exact List.Mem.head _ | exact List.Mem.tail _ (List.Mem.head _) | exact List.Mem.tail _ (List.Mem.tail _ (List.Mem.head _)) | exact List.Mem.tail _ (List.Mem.tail _ (List.Mem.tail _ (List.Mem.head _))) | exact List.Mem.tail _ (List.Mem.tail _ (List.Mem.tail _ (List.Mem.tail _ (List.Mem.head _)))) | exact List.Mem.tail _ (List.Mem.tail _ (List.Mem.tail _ (List.Mem.tail _ (List.Mem.tail _ (List.Mem.head _))))) | exact List.Mem.tail _ (List.Mem.tail _ (List.Mem.tail _ (List.Mem.tail _ (List.Mem.tail _ (List.Mem.tail _ (List.Mem.head _))))))) ?_) | (refine' Olds.keep (by with_reducible assumption) ?_) | (refine' Olds.keep (off_low (by with_reducible assumption) (by assumption) (by assumption) (by assumption) (by assumption) (by assumption) (by assumption)) ?_) | (refine' Olds.keep (off_high (by omega) (by assumption) (by assumption) (by assumption) (by assumption) (by assumption) (by assumption)) ?_) | refine' Olds.drop ?_)) (by assumption) (by assumption) (by assumption) (by assumption) (by assumption) (by assumption) (by assumption) (by assumption) (by first | decide | size_fits) (fun _ => on_reset_draining (by assumption)) (fun _ => rfl) (by k_asm) (by first | exact rfl | assumption) (by ktr_room) (by ktr_units) ?_)); intro h' tk' x' a' t' y' F' N' hA'; (try k_fold)) | ((with_reducible show wpAny _ _ (call (Value.ref 225) [_, Value.str (Str.ofString "handshake") _, _, _]) _ _ _); k_dflt (refine' SpecN.use (packet_with_h _ _ _ _ _ _ _ _ _ _ _) (by k_asm) (by k_asm) (by k_asm) (by k_asm) (by first | exact List.forall_mem_nil _ | exact SubL.mem (by k_subL)) (by k_asm) (by first | exact rfl | assumption) (by ktr_room) (by ktr_units) ?_; intro a' ob' h' tk' F' N' hp'; obtain ⟨_, _, _, _, _, _, _, e9⟩ := hp'; subst e9; (try dsimp only)); (try k_fold)) | ((with_reducible show wpAny _ _ (call (Value.ref 225) [_, Value.str (Str.ofString "initial") _, _, _]) _ _ _); k_dflt (refine' SpecN.use (packet_with_i _ _ _ _ _ _ _ _ _ _ _) (by k_asm) (by k_asm) (by k_asm) (by k_asm) (by first | exact List.forall_mem_nil _ | exact SubL.mem (by k_subL)) (by k_asm) (by first | exact rfl | assumption) (by ktr_room) (by ktr_units) ?_; intro a' ob' h' tk' F' N' hp'; obtain ⟨_, _, _, _, _, _, _, _, _, e9, hz9⟩ := hp'; subst e9; (try dsimp only)); (try k_fold)) | ((with_reducible show wpAny _ _ (call (Value.ref 225) [_, Value.str (Str.ofString "application") _, _, _]) _ _ _); k_dflt (refine' SpecN.use (packet_with_s _ _ _ _ _ _ _ _ _ _ _) (by k_asm) (by k_asm) (by k_asm) (by k_asm) (by first | exact List.forall_mem_nil _ | exact SubL.mem (by k_subL)) (by k_asm) (by first | exact rfl | assumption) (by ktr_room) (by ktr_units) ?_; intro a' ob' h' tk' F' N' hp'; obtain ⟨_, _, _, _, _, _, _, e9⟩ := hp'; subst e9; (try dsimp only)); (try k_fold)) | ((with_reducible show wpAny _ _ (call (Value.ref 386) [Value.ref _, Value.int 50 _]) _ _ _); k_dflt (refine' SpecT.use take_50 (by k_asm) (by k_asm) (by k_asm) (by k_asm) (by intro t9; k_upd) (by k_mem) (by k_asm) (by exact rfl) (by ktr_room) (by ktr_units) (by first | assumption | omega) (by assumption) (by first | assumption | omega) (by first | decide | omega) (by first | decide | omega) ?_); intro n' tv' h' tk' t' F' N' hn0' hn1'; (try dsimp only); (try k_fold)) | ((with_reducible show wpAny _ _ (call (Value.ref 386) [Value.ref _, Value.int 6 _]) _ _ _); k_dflt (refine' SpecT.use take_6 (by k_asm) (by k_asm) (by k_asm) (by k_asm) (by intro t9; k_upd) (by k_mem) (by k_asm) (by exact rfl) (by ktr_room) (by ktr_units) (by first | assumption | omega) (by assumption) (by first | assumption | omega) (by first | decide | omega) (by first | decide | omega) ?_); intro n' tv' h' tk' t' F' N' hn0' hn1'; (try dsimp only); (try k_fold)) | ((with_reducible show wpAny _ _ (call (Value.ref 386) [Value.ref _, Value.int 4 _]) _ _ _); k_dflt (refine' SpecT.use take_4 (by k_asm) (by k_asm) (by k_asm) (by k_asm) (by intro t9; k_upd) (by k_mem) (by k_asm) (by exact rfl) (by ktr_room) (by ktr_units) (by first | assumption | omega) (by assumption) (by first | assumption | omega) (by first | decide | omega) (by first | decide | omega) ?_); intro n' tv' h' tk' t' F' N' hn0' hn1'; (try dsimp only); (try k_fold)) | ((with_reducible show wpAny _ _ (call (Value.ref 386) [Value.ref _, Value.int 21 _]) _ _ _); k_dflt (refine' SpecT.use take_21 (by k_asm) (by k_asm) (by k_asm) (by k_asm) (by intro t9; k_upd) (by k_mem) (by k_asm) (by exact rfl) (by ktr_room) (by ktr_units) (by first | assumption | omega) (by assumption) (by first | assumption | omega) (by first | decide | omega) (by first | decide | omega) ?_); intro n' tv' h' tk' t' F' N' hn0' hn1'; (try dsimp only); (try k_fold)) | ((with_reducible show wpAny _ _ (call (Value.ref 386) [Value.ref _, Value.int 3 _]) _ _ _); k_dflt (refine' SpecT.use take_3 (by k_asm) (by k_asm) (by k_asm) (by k_asm) (by intro t9; k_upd) (by k_mem) (by k_asm) (by exact rfl) (by ktr_room) (by ktr_units) (by first | assumption | omega) (by assumption) (by first | assumption | omega) (by first | decide | omega) (by first | decide | omega) ?_); intro n' tv' h' tk' t' F' N' hn0' hn1'; (try dsimp only); (try k_fold)) | ((with_reducible show wpAny _ _ (getMethod (Value.ref _) (PySem.Str.ofString "probe_wait") _) _ _ _); k_dflt (refine' kmu_own (by k_asm) (by k_asm) (by k_inst) (by k_is) (by k_is) ?_; k_whole)) | ((with_reducible first | refine call_snd ?_ | refine call_app ?_); (with_reducible show wpAny _ _ (call (Value.builtin _) [Value.ref _, _]) _ _ _); k_dflt (refine' append_K (by k_asm) (by k_asm) (by k_upd) ?_ (by size_fits); k_whole); intro h' F' N'; (try k_sweep)) | (with_reducible refine ne_int_eq (by omega) ?_) | (k_here; (with_reducible show wpAny _ _ (call (Value.ref 63) [Value.ref _, Value.int _ _, Value.int _ _]) _ _ _); k_dflt (refine wpAny_call ?_; k_enter)) | (k_here; (with_reducible show wpAny _ _ (call (Value.ref 56) [Value.ref _, Value.ref _, Value.int _ _, Value.int _ _]) _ _ _); k_dflt (refine wpAny_call ?_; k_enter)) | (k_here; (with_reducible show wpAny _ _ (call (Value.ref 98) [Value.ref _]) _ _ _); k_dflt (refine wpAny_call ?_; k_enter)) | (k_here; (with_reducible show wpAny _ _ (callWith _ (Value.ref 98, _).1 _ (backTo _ (starEach [] _)) []) _ _ _); k_dflt (refine' callWith_pair0 (by k_asm) (by k_asm) (by k_is) ?_)) | ((with_reducible show wpAny _ _ (execs _ _) _ _ (Shared.mk _ _ _ (HAdd.hAdd (HAdd.hAdd (HAdd.hAdd (HAdd.hAdd _ _) _) _) _) _)); refine gen_toks ?_; intro tk9) | ((with_reducible show wpAny _ _ (eval (PySem.Expr.Name _ _) _) _ _ _); k_here; k_dflt (first | (refine' nameX_L (by k_asm) (by rfl) ?_ (by rfl) (by rfl); k_whole) | (refine' nameX_K (by k_asm) (by k_asm) (by k_asm) (by k_is) ?_ (by rfl) (by rfl); k_whole))) | ((with_reducible show wpAny _ _ (callWith _ (Value.ref _) _ _ _) _ _ _); k_here; k_dflt (first | (refine' callWith_K (by k_asm) (by k_is) ?_; k_whole) | (refine' callWith_K0 (by exact Frag.In.keeps (by k_asm) (Fr.keep (by k_asm))) (by k_is) ?_; k_whole)))) | walk1 | (dsimp only; walk1) | (leave1; walk_say "STEP leave1"; try dsimp only) | fail "no step")
    all_goals (try dsimp only at *)
    all_goals k_dflt (refine' At2.mk ?F ?N ?S ?l0 ?l1 ?l2 ?hi ?hn ?hmr ?h0 ?h1 ?hs ?hd ?he; (case F => k_asm); (case N => k_asm); (case S => exact SubL.mem (by k_subL)); (case l1 => omega); (case l2 => omega); (case hi => assumption); (case hn => first | assumption | (simp only [List.length_take]; omega)); (case hmr => first | assumption | exact rfl); (case h0 => omega); (case h1 => omega); (case l0 => omega); (case hs => first | exact .inl rfl | exact .inr (.inl rfl) | exact .inr (.inr rfl)); (case hd => omega); (case he => omega))
  clear F9 N9 l1 l2 hi hn hmr h0 h1
  rintro s' ⟨h, tk, bx, lst, c, t, zc, vs, ns, mr, ida, sp, ts, td, te, d, e, z0, rfl, F9, N9, l0, l1, l2, hi, hn, hmr, h0, h1, hsp, hd1, he1⟩
  refine cutP (l1 := [_]) (At3 (ghostOf s₁.heap [(392, 388)]) s₁.heap.objs.size s₁) ?_ ?_
  · (try k_fold)
    repeat' (first | (k_unfold; (try dsimp only)) | ((with_reducible show wpP _ _ _ _ _ _); first | ((with_reducible show wpP _ _ (call (Value.ref 218) [Value.ref _, Value.int _ _]) _ _ _); k_dflt (refine' SpecP.use (packet_size_h_int _ _ #[] _ _ _ _ _ _ _ _ _ _ 0 _ _ ?_ ?_ (by decide) ?_ ?_ ?_ ?_ ?_) (by k_asm) (by k_asm) (by k_asm) (by k_asm) (by first | exact List.forall_mem_nil _ | exact SubL.mem (by k_subL)) (by k_asm) (by first | exact rfl | assumption) (by ktr_room) (by ktr_units) ?_; (all_goals (first | decide | assumption | omega | skip)); intro v' h' tk' F' N' hv'; (rename OctOf _ _ _ => hv9; obtain ⟨o9, u9, e9, ho91, ho92, ho93⟩ := hv9; subst e9); (try dsimp only)); (try k_fold)) | ((with_reducible show wpP _ _ (call (Value.ref 218) [Value.ref _, Value.none]) _ _ _); k_dflt (refine' SpecP.use (packet_size_h_none _ _ #[] _ _ 0 _ _ _ _ _ _ _ 0 0 _ ?_ ?_ (by decide) ?_ ?_ ?_) (by k_asm) (by k_asm) (by k_asm) (by k_asm) (by first | exact List.forall_mem_nil _ | exact SubL.mem (by k_subL)) (by k_asm) (by first | exact rfl | assumption) (by ktr_room) (by ktr_units) ?_; (all_goals (first | decide | assumption | omega | skip)); intro v' h' tk' F' N' hv'; (rename OctOf _ _ _ => hv9; obtain ⟨o9, u9, e9, ho91, ho92, ho93⟩ := hv9; subst e9); (try dsimp only)); (try k_fold)) | ((with_reducible show wpP _ _ (call (Value.ref 218) [Value.ref _, Value.int _ _]) _ _ _); k_dflt (refine' SpecP.use (packet_size_i_int _ _ _ _ _ _ _ _ _ _ _ _ _ _ _ _ ?_ ?_ ?_ ?_ ?_ ?_ ?_ ?_) (by k_asm) (by k_asm) (by k_asm) (by k_asm) (by first | exact List.forall_mem_nil _ | exact SubL.mem (by k_subL)) (by k_asm) (by first | exact rfl | assumption) (by ktr_room) (by ktr_units) ?_; (all_goals (first | decide | assumption | omega | skip)); intro v' h' tk' F' N' hv'; (rename OctOf _ _ _ => hv9; obtain ⟨o9, u9, e9, ho91, ho92, ho93⟩ := hv9; subst e9); (try dsimp only)); (try k_fold)) | ((with_reducible show wpP _ _ (call (Value.ref 218) [Value.ref _, Value.none]) _ _ _); k_dflt (refine' SpecP.use (packet_size_i_none _ _ _ _ _ 0 _ _ _ _ _ _ _ _ 0 _ ?_ ?_ ?_ ?_ ?_ ?_) (by k_asm) (by k_asm) (by k_asm) (by k_asm) (by first | exact List.forall_mem_nil _ | exact SubL.mem (by k_subL)) (by k_asm) (by first | exact rfl | assumption) (by ktr_room) (by ktr_units) ?_; (all_goals (first | decide | assumption | omega | skip)); intro v' h' tk' F' N' hv'; (rename OctOf _ _ _ => hv9; obtain ⟨o9, u9, e9, ho91, ho92, ho93⟩ := hv9; subst e9); (try dsimp only)); (try k_fold)) | ((with_reducible show wpP _ _ (call (Value.ref 218) [Value.ref _, Value.int _ _]) _ _ _); k_dflt (refine' SpecP.use (packet_size_s_int _ #[] #[] _ _ _ _ _ _ _ _ _ _ 0 _ _ ?_ (by decide) (by decide) ?_ ?_ ?_ ?_ ?_) (by k_asm) (by k_asm) (by k_asm) (by k_asm) (by first | exact List.forall_mem_nil _ | exact SubL.mem (by k_subL)) (by k_asm) (by first | exact rfl | assumption) (by ktr_room) (by ktr_units) ?_; (all_goals (first | decide | assumption | omega | skip)); intro v' h' tk' F' N' hv'; (rename OctOf _ _ _ => hv9; obtain ⟨o9, u9, e9, ho91, ho92, ho93⟩ := hv9; subst e9); (try dsimp only)); (try k_fold)) | ((with_reducible show wpP _ _ (call (Value.ref 218) [Value.ref _, Value.none]) _ _ _); k_dflt (refine' SpecP.use (packet_size_s_none _ #[] #[] _ _ 0 _ _ _ _ _ _ _ 0 0 _ ?_ (by decide) (by decide) ?_ ?_ ?_) (by k_asm) (by k_asm) (by k_asm) (by k_asm) (by first | exact List.forall_mem_nil _ | exact SubL.mem (by k_subL)) (by k_asm) (by first | exact rfl | assumption) (by ktr_room) (by ktr_units) ?_; (all_goals (first | decide | assumption | omega | skip)); intro v' h' tk' F' N' hv'; (rename OctOf _ _ _ => hv9; obtain ⟨o9, u9, e9, ho91, ho92, ho93⟩ := hv9; subst e9); (try dsimp only)); (try k_fold)) | ((with_reducible show wpP _ _ (exec (Stmt.If (PySem.Expr.UnaryOp UnaryOp.Not (PySem.Expr.Compare _ [_, _] [_, _] _) _) _ _ _) _) _ _ _); k_dflt (refine' wpP_IfNotChain (by with_unfolding_all rfl) ?_)) | ((with_reducible show wpP _ _ (call (Value.ref 232) [_, _, Value.str (Str.ofString "handshake") _]) _ _ _); k_dflt (refine' SpecPW.use (head_octets_h_int _ _ _ _ _ _ _ _ _ _ _ _ _ _ _ _ ?_ ?_ ?_ ?_ ?_ ?_ ?_ ?_) (by k_asm) (by k_asm) (by k_asm) (by k_asm) (by first | exact List.forall_mem_nil _ | exact SubL.mem (by k_subL)) (by k_asm) (by first | exact rfl | assumption) (by ktr_room) (by ktr_units) ?_; (all_goals (first | assumption | decide | assumption | omega | skip)); intro v' h' tk' F' N' hv'; (rename IntOf _ _ => hv9; obtain ⟨u9, e9⟩ := hv9; subst e9); (try dsimp only)); (try k_fold)) | ((with_reducible show wpP _ _ (call (Value.ref 232) [_, _, Value.str (Str.ofString "handshake") _]) _ _ _); k_dflt (refine' SpecPW.use (head_octets_h_none _ _ _ _ _ _ _ _ 0 _ _ _ 0 _ _ _ ?_ ?_ ?_ ?_ ?_ ?_) (by k_asm) (by k_asm) (by k_asm) (by k_asm) (by first | exact List.forall_mem_nil _ | exact SubL.mem (by k_subL)) (by k_asm) (by first | exact rfl | assumption) (by ktr_room) (by ktr_units) ?_; (all_goals (first | assumption | decide | assumption | omega | skip)); intro v' h' tk' F' N' hv'; (rename IntOf _ _ => hv9; obtain ⟨u9, e9⟩ := hv9; subst e9); (try dsimp only)); (try k_fold)) | ((with_reducible show wpP _ _ (call (Value.ref 232) [_, _, Value.str (Str.ofString "initial") _]) _ _ _); k_dflt (refine' SpecPW.use (head_octets_i_int _ _ _ _ _ _ _ _ _ _ _ _ _ _ _ _ ?_ ?_ ?_ ?_ ?_ ?_ ?_ ?_) (by k_asm) (by k_asm) (by k_asm) (by k_asm) (by first | exact List.forall_mem_nil _ | exact SubL.mem (by k_subL)) (by k_asm) (by first | exact rfl | assumption) (by ktr_room) (by ktr_units) ?_; (all_goals (first | assumption | decide | assumption | omega | skip)); intro v' h' tk' F' N' hv'; (rename IntOf _ _ => hv9; obtain ⟨u9, e9⟩ := hv9; subst e9); (try dsimp only)); (try k_fold)) | ((with_reducible show wpP _ _ (call (Value.ref 232) [_, _, Value.str (Str.ofString "initial") _]) _ _ _); k_dflt (refine' SpecPW.use (head_octets_i_none _ _ _ _ _ _ _ _ 0 _ _ _ 0 _ _ _ ?_ ?_ ?_ ?_ ?_ ?_) (by k_asm) (by k_asm) (by k_asm) (by k_asm) (by first | exact List.forall_mem_nil _ | exact SubL.mem (by k_subL)) (by k_asm) (by first | exact rfl | assumption) (by ktr_room) (by ktr_units) ?_; (all_goals (first | assumption | decide | assumption | omega | skip)); intro v' h' tk' F' N' hv'; (rename IntOf _ _ => hv9; obtain ⟨u9, e9⟩ := hv9; subst e9); (try dsimp only)); (try k_fold)) | ((with_reducible show wpP _ _ (call (Value.ref 232) [_, _, Value.str (Str.ofString "application") _]) _ _ _); k_dflt (refine' SpecPW.use (head_octets_s_int _ _ _ _ _ _ _ _ _ _ _ _ _ _ _ _ ?_ ?_ ?_ ?_ ?_ ?_ ?_ ?_) (by k_asm) (by k_asm) (by k_asm) (by k_asm) (by first | exact List.forall_mem_nil _ | exact SubL.mem (by k_subL)) (by k_asm) (by first | exact rfl | assumption) (by ktr_room) (by ktr_units) ?_; (all_goals (first | assumption | decide | assumption | omega | skip)); intro v' h' tk' F' N' hv'; (rename IntOf _ _ => hv9; obtain ⟨u9, e9⟩ := hv9; subst e9); (try dsimp only)); (try k_fold)) | ((with_reducible show wpP _ _ (call (Value.ref 232) [_, _, Value.str (Str.ofString "application") _]) _ _ _); k_dflt (refine' SpecPW.use (head_octets_s_none _ _ _ _ _ _ _ _ 0 _ _ _ 0 _ _ _ ?_ ?_ ?_ ?_ ?_ ?_) (by k_asm) (by k_asm) (by k_asm) (by k_asm) (by first | exact List.forall_mem_nil _ | exact SubL.mem (by k_subL)) (by k_asm) (by first | exact rfl | assumption) (by ktr_room) (by ktr_units) ?_; (all_goals (first | assumption | decide | assumption | omega | skip)); intro v' h' tk' F' N' hv'; (rename IntOf _ _ => hv9; obtain ⟨u9, e9⟩ := hv9; subst e9); (try dsimp only)); (try k_fold)) | walk1) | ((with_reducible show GoodW _ _ _ _ _ (Except.ok (Flow.ret (Value.bool true))) _ ∧ GrownAll _ _); with_reducible refine' good_end (by with_reducible assumption) (by with_reducible assumption) ?_) | (k_end; wrow_close) | ((with_reducible show wpAny _ _ _ _ _ _); first | ((with_reducible show wpAny _ _ (call (Value.ref 28) [_, _]) _ _ _); k_dflt (first | (refine' take_reset_use (by k_asm) (by k_asm) (by k_asm) (by k_asm) (by exact SubL.mem (by k_subL)) (by repeat' (first | exact Olds.nil | (refine' Olds.skip (by with_reducible first | exact List.Mem.head _ | exact List.Mem.tail _ (List.Mem.head _) | exact List.Mem.tail _ (List.Mem.tail _ (List.Mem.head _)) | exact List.Mem.tail _ (List.Mem.tail _ (List.Mem.tail _ (List.Mem.head _))) | exact List.Mem.tail _ (List.Mem.tail _ (List.Mem.tail _ (List.Mem.tail _ (List.Mem.head _)))) | exact List.Mem.tail _ (List.Mem.tail _ (List.Mem.tail _ (List.Mem.tail _ (List.Mem.tail _ (List.Mem.head _))))) | exact List.Mem.tail _ (List.Mem.tail _ (List.Mem.tail _ (List.Mem.tail _ (List.Mem.tail _ (List.Mem.tail _ (List.Mem.head _))))))) ?_) | (refine' Olds.keep (by with_reducible assumption) ?_) | (refine' Olds.keep (off_low (by with_reducible assumption) (by assumption) (by assumption) (by assumption) (by assumption) (by assumption) (by assumption)) ?_) | (refine' Olds.keep (off_high (by omega) (by assumption) (by assumption) (by assumption) (by assumption) (by assumption) (by assumption)) ?_) | refine' Olds.drop ?_)) (by assumption) (by assumption) (by assumption) (by assumption) (by assumption) (by assumption) (by assumption) (by assumption) (by first | decide | size_fits) (fun _ => on_reset_open (by assumption)) (fun _ => rfl) (by k_asm) (by first | exact rfl | assumption) (by ktr_room) (by ktr_units) ?_) | (refine' take_reset_use (by k_asm) (by k_asm) (by k_asm) (by k_asm) (by exact SubL.mem (by k_subL)) (by repeat' (first | exact Olds.nil | (refine' Olds.skip (by with_reducible first | exact List.Mem.head _ | exact List.Mem.tail _ (List.Mem.head _) | exact List.Mem.tail _ (List.Mem.tail _ (List.Mem.head _)) | exact List.Mem.tail _ (List.Mem.tail _ (List.Mem.tail _ (List.Mem.head _))) | exact List.Mem.tail _ (List.Mem.tail _ (List.Mem.tail _ (List.Mem.tail _ (List.Mem.head _)))) | exact List.Mem.tail _ (List.Mem.tail _ (List.Mem.tail _ (List.Mem.tail _ (List.Mem.tail _ (List.Mem.head _))))) | exact List.Mem.tail _ (List.Mem.tail _ (List.Mem.tail _ (List.Mem.tail _ (List.Mem.tail _ (List.Mem.tail _ (List.Mem.head _))))))) ?_) | (refine' Olds.keep (by with_reducible assumption) ?_) | (refine' Olds.keep (off_low (by with_reducible assumption) (by assumption) (by assumption) (by assumption) (by assumption) (by assumption) (by assumption)) ?_) | (refine' Olds.keep (off_high (by omega) (by assumption) (by assumption) (by assumption) (by assumption) (by assumption) (by assumption)) ?_) | refine' Olds.drop ?_)) (by assumption) (by assumption) (by assumption) (by assumption) (by assumption) (by assumption) (by assumption) (by assumption) (by first | decide | size_fits) (fun _ => on_reset_closing (by assumption)) (fun _ => rfl) (by k_asm) (by first | exact rfl | assumption) (by ktr_room) (by ktr_units) ?_) | (refine' take_reset_use (by k_asm) (by k_asm) (by k_asm) (by k_asm) (by exact SubL.mem (by k_subL)) (by repeat' (first | exact Olds.nil | (refine' Olds.skip (by with_reducible first | exact List.Mem.head _ | exact List.Mem.tail _ (List.Mem.head _) | exact List.Mem.tail _ (List.Mem.tail _ (List.Mem.head _)) | exact List.Mem.tail _ (List.Mem.tail _ (List.Mem.tail _ (List.Mem.head _))) | exact List.Mem.tail _ (List.Mem.tail _ (List.Mem.tail _ (List.Mem.tail _ (List.Mem.head _)))) | exact List.Mem.tail _ (List.Mem.tail _ (List.Mem.tail _ (List.Mem.tail _ (List.Mem.tail _ (List.Mem.head _))))) | exact List.Mem.tail _ (List.Mem.tail _ (List.Mem.tail _ (List.Mem.tail _ (List.Mem.tail _ (List.Mem.tail _ (List.Mem.head _))))))) ?_) | (refine' Olds.keep (by with_reducible assumption) ?_) | (refine' Olds.keep (off_low (by with_reducible assumption) (by assumption) (by assumption) (by assumption) (by assumption) (by assumption) (by assumption)) ?_) | (refine' Olds.keep (off_high (by omega) (by assumption) (by assumption) (by assumption) (by assumption) (by assumption) (by assumption)) ?_) | refine' Olds.drop ?_)) (by assumption) (by assumption) (by assumption) (by assumption) (by assumption) (by assumption) (by assumption) (by assumption) (by first | decide | size_fits) (fun _ => on_reset_draining (by assumption)) (fun _ => rfl) (by k_asm) (by first | exact rfl | assumption) (by ktr_room) (by ktr_units) ?_)); intro h' tk' x' a' t' y' F' N' hA'; (try k_fold)) | ((with_reducible show wpAny _ _ (call (Value.ref 225) [_, Value.str (Str.ofString "handshake") _, _, _]) _ _ _); k_dflt (refine' SpecN.use (packet_with_h _ _ _ _ _ _ _ _ _ _ _) (by k_asm) (by k_asm) (by k_asm) (by k_asm) (by first | exact List.forall_mem_nil _ | exact SubL.mem (by k_subL)) (by k_asm) (by first | exact rfl | assumption) (by ktr_room) (by ktr_units) ?_; intro a' ob' h' tk' F' N' hp'; obtain ⟨_, _, _, _, _, _, _, e9⟩ := hp'; subst e9; (try dsimp only)); (try k_fold)) | ((with_reducible show wpAny _ _ (call (Value.ref 225) [_, Value.str (Str.ofString "initial") _, _, _]) _ _ _); k_dflt (refine' SpecN.use (packet_with_i _ _ _ _ _ _ _ _ _ _ _) (by k_asm) (by k_asm) (by k_asm) (by k_asm) (by first | exact List.forall_mem_nil _ | exact SubL.mem (by k_subL)) (by k_asm) (by first | exact rfl | assumption) (by ktr_room) (by ktr_units) ?_; intro a' ob' h' tk' F' N' hp'; obtain ⟨_, _, _, _, _, _, _, _, _, e9, hz9⟩ := hp'; subst e9; (try dsimp only)); (try k_fold)) | ((with_reducible show wpAny _ _ (call (Value.ref 225) [_, Value.str (Str.ofString "application") _, _, _]) _ _ _); k_dflt (refine' SpecN.use (packet_with_s _ _ _ _ _ _ _ _ _ _ _) (by k_asm) (by k_asm) (by k_asm) (by k_asm) (by first | exact List.forall_mem_nil _ | exact SubL.mem (by k_subL)) (by k_asm) (by first | exact rfl | assumption) (by ktr_room) (by ktr_units) ?_; intro a' ob' h' tk' F' N' hp'; obtain ⟨_, _, _, _, _, _, _, e9⟩ := hp'; subst e9; (try dsimp only)); (try k_fold)) | ((with_reducible show wpAny _ _ (call (Value.ref 386) [Value.ref _, Value.int 50 _]) _ _ _); k_dflt (refine' SpecT.use take_50 (by k_asm) (by k_asm) (by k_asm) (by k_asm) (by intro t9; k_upd) (by k_mem) (by k_asm) (by exact rfl) (by ktr_room) (by ktr_units) (by first | assumption | omega) (by assumption) (by first | assumption | omega) (by first | decide | omega) (by first | decide | omega) ?_); intro n' tv' h' tk' t' F' N' hn0' hn1'; (try dsimp only); (try k_fold)) | ((with_reducible show wpAny _ _ (call (Value.ref 386) [Value.ref _, Value.int 6 _]) _ _ _); k_dflt (refine' SpecT.use take_6 (by k_asm) (by k_asm) (by k_asm) (by k_asm) (by intro t9; k_upd) (by k_mem) (by k_asm) (by exact rfl) (by ktr_room) (by ktr_units) (by first | assumption | omega) (by assumption) (by first | assumption | omega) (by first | decide | omega) (by first | decide | omega) ?_); intro n' tv' h' tk' t' F' N' hn0' hn1'; (try dsimp only); (try k_fold)) | ((with_reducible show wpAny _ _ (call (Value.ref 386) [Value.ref _, Value.int 4 _]) _ _ _); k_dflt (refine' SpecT.use take_4 (by k_asm) (by k_asm) (by k_asm) (by k_asm) (by intro t9; k_upd) (by k_mem) (by k_asm) (by exact rfl) (by ktr_room) (by ktr_units) (by first | assumption | omega) (by assumption) (by first | assumption | omega) (by first | decide | omega) (by first | decide | omega) ?_); intro n' tv' h' tk' t' F' N' hn0' hn1'; (try dsimp only); (try k_fold)) | ((with_reducible show wpAny _ _ (call (Value.ref 386) [Value.ref _, Value.int 21 _]) _ _ _); k_dflt (refine' SpecT.use take_21 (by k_asm) (by k_asm) (by k_asm) (by k_asm) (by intro t9; k_upd) (by k_mem) (by k_asm) (by exact rfl) (by ktr_room) (by ktr_units) (by first | assumption | omega) (by assumption) (by first | assumption | omega) (by first | decide | omega) (by first | decide | omega) ?_); intro n' tv' h' tk' t' F' N' hn0' hn1'; (try dsimp only); (try k_fold)) | ((with_reducible show wpAny _ _ (call (Value.ref 386) [Value.ref _, Value.int 3 _]) _ _ _); k_dflt (refine' SpecT.use take_3 (by k_asm) (by k_asm) (by k_asm) (by k_asm) (by intro t9; k_upd) (by k_mem) (by k_asm) (by exact rfl) (by ktr_room) (by ktr_units) (by first | assumption | omega) (by assumption) (by first | assumption | omega) (by first | decide | omega) (by first | decide | omega) ?_); intro n' tv' h' tk' t' F' N' hn0' hn1'; (try dsimp only); (try k_fold)) | ((with_reducible show wpAny _ _ (getMethod (Value.ref _) (PySem.Str.ofString "probe_wait") _) _ _ _); k_dflt (refine' kmu_own (by k_asm) (by k_asm) (by k_inst) (by k_is) (by k_is) ?_; k_whole)) | ((with_reducible first | refine call_snd ?_ | refine call_app ?_); (with_reducible show wpAny _ _ (call (Value.builtin _) [Value.ref _, _]) _ _ _); k_dflt (refine' append_K (by k_asm) (by k_asm) (by k_upd) ?_ (by size_fits); k_whole); intro h' F' N'; (try k_sweep)) | (with_reducible refine ne_int_eq (by omega) ?_) | (k_here; (with_reducible show wpAny _ _ (call (Value.ref 63) [Value.ref _, Value.int _ _, Value.int _ _]) _ _ _); k_dflt (refine wpAny_call ?_; k_enter)) | (k_here; (with_reducible show wpAny _ _ (call (Value.ref 56) [Value.ref _, Value.ref _, Value.int _ _, Value.int _ _]) _ _ _); k_dflt (refine wpAny_call ?_; k_enter)) | (k_here; (with_reducible show wpAny _ _ (call (Value.ref 98) [Value.ref _]) _ _ _); k_dflt (refine wpAny_call ?_; k_enter)) | (k_here; (with_reducible show wpAny _ _ (callWith _ (Value.ref 98, _).1 _ (backTo _ (starEach [] _)) []) _ _ _); k_dflt (refine' callWith_pair0 (by k_asm) (by k_asm) (by k_is) ?_)) | ((with_reducible show wpAny _ _ (execs _ _) _ _ (Shared.mk _ _ _ (HAdd.hAdd (HAdd.hAdd (HAdd.hAdd (HAdd.hAdd _ _) _) _) _) _)); refine gen_toks ?_; intro tk9) | ((with_reducible show wpAny _ _ (eval (PySem.Expr.Name _ _) _) _ _ _); k_here; k_dflt (first | (refine' nameX_L (by k_asm) (by rfl) ?_ (by rfl) (by rfl); k_whole) | (refine' nameX_K (by k_asm) (by k_asm) (by k_asm) (by k_is) ?_ (by rfl) (by rfl); k_whole))) | ((with_reducible show wpAny _ _ (callWith _ (Value.ref _) _ _ _) _ _ _); k_here; k_dflt (first | (refine' callWith_K (by k_asm) (by k_is) ?_; k_whole) | (refine' callWith_K0 (by exact Frag.In.keeps (by k_asm) (Fr.keep (by k_asm))) (by k_is) ?_; k_whole)))) | walk1 | (dsimp only; walk1) | (leave1; walk_say "STEP leave1"; try dsimp only) | fail "no step")
    all_goals (try dsimp only at *)
    all_goals k_dflt (refine' At3.mk ?F ?N ?S ?l0 ?l1 ?l2 ?hi ?hn ?hmr ?h0 ?h1 ?hs ?hd ?he ?ha; (case F => k_asm); (case N => k_asm); (case S => exact SubL.mem (by k_subL)); (case l1 => omega); (case l2 => omega); (case hi => assumption); (case hn => first | assumption | (simp only [List.length_take]; omega)); (case hmr => first | assumption | exact rfl); (case h0 => omega); (case h1 => omega); (case l0 => omega); (case hs => assumption); (case hd => omega); (case he => omega); (case ha => first | exact .inl rfl | exact .inr ⟨_, _, rfl, by decide, by decide⟩))
  clear F9 N9 l0 l1 l2 hi hn hmr h0 h1 hsp hd1 he1
  rintro s' ⟨h, tk, bx, lst, c, t, zc, vs, ns, mr, ida, sp, ts, td, te, d, e, z0, av, rfl, F9, N9, l0, l1, l2, hi, hn, hmr, h0, h1, hsp, hd1, he1, hav⟩
  refine cutP (l1 := [_, _]) (At5 PySem.Challenge.rw_pf0271_01.row.prog w (ghostOf s₁.heap [(392, 388)]) s₁.heap.objs.size s₁) ?_ ?_
  · obtain rfl | ⟨j, tj, rfl, hj0, hj1⟩ := hav
    all_goals (try k_fold)
    all_goals repeat' (first | (k_unfold; (try dsimp only)) | ((with_reducible show wpP _ _ _ _ _ _); first | ((with_reducible show wpP _ _ (call (Value.ref 218) [Value.ref _, Value.int _ _]) _ _ _); k_dflt (refine' SpecP.use (packet_size_h_int _ _ #[] _ _ _ _ _ _ _ _ _ _ 0 _ _ ?_ ?_ (by decide) ?_ ?_ ?_ ?_ ?_) (by k_asm) (by k_asm) (by k_asm) (by k_asm) (by first | exact List.forall_mem_nil _ | exact SubL.mem (by k_subL)) (by k_asm) (by first | exact rfl | assumption) (by ktr_room) (by ktr_units) ?_; (all_goals (first | decide | assumption | omega | skip)); intro v' h' tk' F' N' hv'; (rename OctOf _ _ _ => hv9; obtain ⟨o9, u9, e9, ho91, ho92, ho93⟩ := hv9; subst e9); (try dsimp only)); (try k_fold)) | ((with_reducible show wpP _ _ (call (Value.ref 218) [Value.ref _, Value.none]) _ _ _); k_dflt (refine' SpecP.use (packet_size_h_none _ _ #[] _ _ 0 _ _ _ _ _ _ _ 0 0 _ ?_ ?_ (by decide) ?_ ?_ ?_) (by k_asm) (by k_asm) (by k_asm) (by k_asm) (by first | exact List.forall_mem_nil _ | exact SubL.mem (by k_subL)) (by k_asm) (by first | exact rfl | assumption) (by ktr_room) (by ktr_units) ?_; (all_goals (first | decide | assumption | omega | skip)); intro v' h' tk' F' N' hv'; (rename OctOf _ _ _ => hv9; obtain ⟨o9, u9, e9, ho91, ho92, ho93⟩ := hv9; subst e9); (try dsimp only)); (try k_fold)) | ((with_reducible show wpP _ _ (call (Value.ref 218) [Value.ref _, Value.int _ _]) _ _ _); k_dflt (refine' SpecP.use (packet_size_i_int _ _ _ _ _ _ _ _ _ _ _ _ _ _ _ _ ?_ ?_ ?_ ?_ ?_ ?_ ?_ ?_) (by k_asm) (by k_asm) (by k_asm) (by k_asm) (by first | exact List.forall_mem_nil _ | exact SubL.mem (by k_subL)) (by k_asm) (by first | exact rfl | assumption) (by ktr_room) (by ktr_units) ?_; (all_goals (first | decide | assumption | omega | skip)); intro v' h' tk' F' N' hv'; (rename OctOf _ _ _ => hv9; obtain ⟨o9, u9, e9, ho91, ho92, ho93⟩ := hv9; subst e9); (try dsimp only)); (try k_fold)) | ((with_reducible show wpP _ _ (call (Value.ref 218) [Value.ref _, Value.none]) _ _ _); k_dflt (refine' SpecP.use (packet_size_i_none _ _ _ _ _ 0 _ _ _ _ _ _ _ _ 0 _ ?_ ?_ ?_ ?_ ?_ ?_) (by k_asm) (by k_asm) (by k_asm) (by k_asm) (by first | exact List.forall_mem_nil _ | exact SubL.mem (by k_subL)) (by k_asm) (by first | exact rfl | assumption) (by ktr_room) (by ktr_units) ?_; (all_goals (first | decide | assumption | omega | skip)); intro v' h' tk' F' N' hv'; (rename OctOf _ _ _ => hv9; obtain ⟨o9, u9, e9, ho91, ho92, ho93⟩ := hv9; subst e9); (try dsimp only)); (try k_fold)) | ((with_reducible show wpP _ _ (call (Value.ref 218) [Value.ref _, Value.int _ _]) _ _ _); k_dflt (refine' SpecP.use (packet_size_s_int _ #[] #[] _ _ _ _ _ _ _ _ _ _ 0 _ _ ?_ (by decide) (by decide) ?_ ?_ ?_ ?_ ?_) (by k_asm) (by k_asm) (by k_asm) (by k_asm) (by first | exact List.forall_mem_nil _ | exact SubL.mem (by k_subL)) (by k_asm) (by first | exact rfl | assumption) (by ktr_room) (by ktr_units) ?_; (all_goals (first | decide | assumption | omega | skip)); intro v' h' tk' F' N' hv'; (rename OctOf _ _ _ => hv9; obtain ⟨o9, u9, e9, ho91, ho92, ho93⟩ := hv9; subst e9); (try dsimp only)); (try k_fold)) | ((with_reducible show wpP _ _ (call (Value.ref 218) [Value.ref _, Value.none]) _ _ _); k_dflt (refine' SpecP.use (packet_size_s_none _ #[] #[] _ _ 0 _ _ _ _ _ _ _ 0 0 _ ?_ (by decide) (by decide) ?_ ?_ ?_) (by k_asm) (by k_asm) (by k_asm) (by k_asm) (by first | exact List.forall_mem_nil _ | exact SubL.mem (by k_subL)) (by k_asm) (by first | exact rfl | assumption) (by ktr_room) (by ktr_units) ?_; (all_goals (first | decide | assumption | omega | skip)); intro v' h' tk' F' N' hv'; (rename OctOf _ _ _ => hv9; obtain ⟨o9, u9, e9, ho91, ho92, ho93⟩ := hv9; subst e9); (try dsimp only)); (try k_fold)) | ((with_reducible show wpP _ _ (exec (Stmt.If (PySem.Expr.UnaryOp UnaryOp.Not (PySem.Expr.Compare _ [_, _] [_, _] _) _) _ _ _) _) _ _ _); k_dflt (refine' wpP_IfNotChain (by with_unfolding_all rfl) ?_)) | ((with_reducible show wpP _ _ (call (Value.ref 232) [_, _, Value.str (Str.ofString "handshake") _]) _ _ _); k_dflt (refine' SpecPW.use (head_octets_h_int _ _ _ _ _ _ _ _ _ _ _ _ _ _ _ _ ?_ ?_ ?_ ?_ ?_ ?_ ?_ ?_) (by k_asm) (by k_asm) (by k_asm) (by k_asm) (by first | exact List.forall_mem_nil _ | exact SubL.mem (by k_subL)) (by k_asm) (by first | exact rfl | assumption) (by ktr_room) (by ktr_units) ?_; (all_goals (first | assumption | decide | assumption | omega | skip)); intro v' h' tk' F' N' hv'; (rename IntOf _ _ => hv9; obtain ⟨u9, e9⟩ := hv9; subst e9); (try dsimp only)); (try k_fold)) | ((with_reducible show wpP _ _ (call (Value.ref 232) [_, _, Value.str (Str.ofString "handshake") _]) _ _ _); k_dflt (refine' SpecPW.use (head_octets_h_none _ _ _ _ _ _ _ _ 0 _ _ _ 0 _ _ _ ?_ ?_ ?_ ?_ ?_ ?_) (by k_asm) (by k_asm) (by k_asm) (by k_asm) (by first | exact List.forall_mem_nil _ | exact SubL.mem (by k_subL)) (by k_asm) (by first | exact rfl | assumption) (by ktr_room) (by ktr_units) ?_; (all_goals (first | assumption | decide | assumption | omega | skip)); intro v' h' tk' F' N' hv'; (rename IntOf _ _ => hv9; obtain ⟨u9, e9⟩ := hv9; subst e9); (try dsimp only)); (try k_fold)) | ((with_reducible show wpP _ _ (call (Value.ref 232) [_, _, Value.str (Str.ofString "initial") _]) _ _ _); k_dflt (refine' SpecPW.use (head_octets_i_int _ _ _ _ _ _ _ _ _ _ _ _ _ _ _ _ ?_ ?_ ?_ ?_ ?_ ?_ ?_ ?_) (by k_asm) (by k_asm) (by k_asm) (by k_asm) (by first | exact List.forall_mem_nil _ | exact SubL.mem (by k_subL)) (by k_asm) (by first | exact rfl | assumption) (by ktr_room) (by ktr_units) ?_; (all_goals (first | assumption | decide | assumption | omega | skip)); intro v' h' tk' F' N' hv'; (rename IntOf _ _ => hv9; obtain ⟨u9, e9⟩ := hv9; subst e9); (try dsimp only)); (try k_fold)) | ((with_reducible show wpP _ _ (call (Value.ref 232) [_, _, Value.str (Str.ofString "initial") _]) _ _ _); k_dflt (refine' SpecPW.use (head_octets_i_none _ _ _ _ _ _ _ _ 0 _ _ _ 0 _ _ _ ?_ ?_ ?_ ?_ ?_ ?_) (by k_asm) (by k_asm) (by k_asm) (by k_asm) (by first | exact List.forall_mem_nil _ | exact SubL.mem (by k_subL)) (by k_asm) (by first | exact rfl | assumption) (by ktr_room) (by ktr_units) ?_; (all_goals (first | assumption | decide | assumption | omega | skip)); intro v' h' tk' F' N' hv'; (rename IntOf _ _ => hv9; obtain ⟨u9, e9⟩ := hv9; subst e9); (try dsimp only)); (try k_fold)) | ((with_reducible show wpP _ _ (call (Value.ref 232) [_, _, Value.str (Str.ofString "application") _]) _ _ _); k_dflt (refine' SpecPW.use (head_octets_s_int _ _ _ _ _ _ _ _ _ _ _ _ _ _ _ _ ?_ ?_ ?_ ?_ ?_ ?_ ?_ ?_) (by k_asm) (by k_asm) (by k_asm) (by k_asm) (by first | exact List.forall_mem_nil _ | exact SubL.mem (by k_subL)) (by k_asm) (by first | exact rfl | assumption) (by ktr_room) (by ktr_units) ?_; (all_goals (first | assumption | decide | assumption | omega | skip)); intro v' h' tk' F' N' hv'; (rename IntOf _ _ => hv9; obtain ⟨u9, e9⟩ := hv9; subst e9); (try dsimp only)); (try k_fold)) | ((with_reducible show wpP _ _ (call (Value.ref 232) [_, _, Value.str (Str.ofString "application") _]) _ _ _); k_dflt (refine' SpecPW.use (head_octets_s_none _ _ _ _ _ _ _ _ 0 _ _ _ 0 _ _ _ ?_ ?_ ?_ ?_ ?_ ?_) (by k_asm) (by k_asm) (by k_asm) (by k_asm) (by first | exact List.forall_mem_nil _ | exact SubL.mem (by k_subL)) (by k_asm) (by first | exact rfl | assumption) (by ktr_room) (by ktr_units) ?_; (all_goals (first | assumption | decide | assumption | omega | skip)); intro v' h' tk' F' N' hv'; (rename IntOf _ _ => hv9; obtain ⟨u9, e9⟩ := hv9; subst e9); (try dsimp only)); (try k_fold)) | walk1) | ((with_reducible show GoodW _ _ _ _ _ (Except.ok (Flow.ret (Value.bool true))) _ ∧ GrownAll _ _); with_reducible refine' good_end (by with_reducible assumption) (by with_reducible assumption) ?_) | (k_end; wrow_close) | ((with_reducible show wpAny _ _ _ _ _ _); first | ((with_reducible show wpAny _ _ (call (Value.ref 28) [_, _]) _ _ _); k_dflt (first | (refine' take_reset_use (by k_asm) (by k_asm) (by k_asm) (by k_asm) (by exact SubL.mem (by k_subL)) (by repeat' (first | exact Olds.nil | (refine' Olds.skip (by with_reducible first | exact List.Mem.head _ | exact List.Mem.tail _ (List.Mem.head _) | exact List.Mem.tail _ (List.Mem.tail _ (List.Mem.head _)) | exact List.Mem.tail _ (List.Mem.tail _ (List.Mem.tail _ (List.Mem.head _))) | exact List.Mem.tail _ (List.Mem.tail _ (List.Mem.tail _ (List.Mem.tail _ (List.Mem.head _)))) | exact List.Mem.tail _ (List.Mem.tail _ (List.Mem.tail _ (List.Mem.tail _ (List.Mem.tail _ (List.Mem.head _))))) | exact List.Mem.tail _ (List.Mem.tail _ (List.Mem.tail _ (List.Mem.tail _ (List.Mem.tail _ (List.Mem.tail _ (List.Mem.head _))))))) ?_) | (refine' Olds.keep (by with_reducible assumption) ?_) | (refine' Olds.keep (off_low (by with_reducible assumption) (by assumption) (by assumption) (by assumption) (by assumption) (by assumption) (by assumption)) ?_) | (refine' Olds.keep (off_high (by omega) (by assumption) (by assumption) (by assumption) (by assumption) (by assumption) (by assumption)) ?_) | refine' Olds.drop ?_)) (by assumption) (by assumption) (by assumption) (by assumption) (by assumption) (by assumption) (by assumption) (by assumption) (by first | decide | size_fits) (fun _ => on_reset_open (by assumption)) (fun _ => rfl) (by k_asm) (by first | exact rfl | assumption) (by ktr_room) (by ktr_units) ?_) | (refine' take_reset_use (by k_asm) (by k_asm) (by k_asm) (by k_asm) (by exact SubL.mem (by k_subL)) (by repeat' (first | exact Olds.nil | (refine' Olds.skip (by with_reducible first | exact List.Mem.head _ | exact List.Mem.tail _ (List.Mem.head _) | exact List.Mem.tail _ (List.Mem.tail _ (List.Mem.head _)) | exact List.Mem.tail _ (List.Mem.tail _ (List.Mem.tail _ (List.Mem.head _))) | exact List.Mem.tail _ (List.Mem.tail _ (List.Mem.tail _ (List.Mem.tail _ (List.Mem.head _)))) | exact List.Mem.tail _ (List.Mem.tail _ (List.Mem.tail _ (List.Mem.tail _ (List.Mem.tail _ (List.Mem.head _))))) | exact List.Mem.tail _ (List.Mem.tail _ (List.Mem.tail _ (List.Mem.tail _ (List.Mem.tail _ (List.Mem.tail _ (List.Mem.head _))))))) ?_) | (refine' Olds.keep (by with_reducible assumption) ?_) | (refine' Olds.keep (off_low (by with_reducible assumption) (by assumption) (by assumption) (by assumption) (by assumption) (by assumption) (by assumption)) ?_) | (refine' Olds.keep (off_high (by omega) (by assumption) (by assumption) (by assumption) (by assumption) (by assumption) (by assumption)) ?_) | refine' Olds.drop ?_)) (by assumption) (by assumption) (by assumption) (by assumption) (by assumption) (by assumption) (by assumption) (by assumption) (by first | decide | size_fits) (fun _ => on_reset_closing (by assumption)) (fun _ => rfl) (by k_asm) (by first | exact rfl | assumption) (by ktr_room) (by ktr_units) ?_) | (refine' take_reset_use (by k_asm) (by k_asm) (by k_asm) (by k_asm) (by exact SubL.mem (by k_subL)) (by repeat' (first | exact Olds.nil | (refine' Olds.skip (by with_reducible first | exact List.Mem.head _ | exact List.Mem.tail _ (List.Mem.head _) | exact List.Mem.tail _ (List.Mem.tail _ (List.Mem.head _)) | exact List.Mem.tail _ (List.Mem.tail _ (List.Mem.tail _ (List.Mem.head _))) | exact List.Mem.tail _ (List.Mem.tail _ (List.Mem.tail _ (List.Mem.tail _ (List.Mem.head _)))) | exact List.Mem.tail _ (List.Mem.tail _ (List.Mem.tail _ (List.Mem.tail _ (List.Mem.tail _ (List.Mem.head _))))) | exact List.Mem.tail _ (List.Mem.tail _ (List.Mem.tail _ (List.Mem.tail _ (List.Mem.tail _ (List.Mem.tail _ (List.Mem.head _))))))) ?_) | (refine' Olds.keep (by with_reducible assumption) ?_) | (refine' Olds.keep (off_low (by with_reducible assumption) (by assumption) (by assumption) (by assumption) (by assumption) (by assumption) (by assumption)) ?_) | (refine' Olds.keep (off_high (by omega) (by assumption) (by assumption) (by assumption) (by assumption) (by assumption) (by assumption)) ?_) | refine' Olds.drop ?_)) (by assumption) (by assumption) (by assumption) (by assumption) (by assumption) (by assumption) (by assumption) (by assumption) (by first | decide | size_fits) (fun _ => on_reset_draining (by assumption)) (fun _ => rfl) (by k_asm) (by first | exact rfl | assumption) (by ktr_room) (by ktr_units) ?_)); intro h' tk' x' a' t' y' F' N' hA'; (try k_fold)) | ((with_reducible show wpAny _ _ (call (Value.ref 225) [_, Value.str (Str.ofString "handshake") _, _, _]) _ _ _); k_dflt (refine' SpecN.use (packet_with_h _ _ _ _ _ _ _ _ _ _ _) (by k_asm) (by k_asm) (by k_asm) (by k_asm) (by first | exact List.forall_mem_nil _ | exact SubL.mem (by k_subL)) (by k_asm) (by first | exact rfl | assumption) (by ktr_room) (by ktr_units) ?_; intro a' ob' h' tk' F' N' hp'; obtain ⟨_, _, _, _, _, _, _, e9⟩ := hp'; subst e9; (try dsimp only)); (try k_fold)) | ((with_reducible show wpAny _ _ (call (Value.ref 225) [_, Value.str (Str.ofString "initial") _, _, _]) _ _ _); k_dflt (refine' SpecN.use (packet_with_i _ _ _ _ _ _ _ _ _ _ _) (by k_asm) (by k_asm) (by k_asm) (by k_asm) (by first | exact List.forall_mem_nil _ | exact SubL.mem (by k_subL)) (by k_asm) (by first | exact rfl | assumption) (by ktr_room) (by ktr_units) ?_; intro a' ob' h' tk' F' N' hp'; obtain ⟨_, _, _, _, _, _, _, _, _, e9, hz9⟩ := hp'; subst e9; (try dsimp only)); (try k_fold)) | ((with_reducible show wpAny _ _ (call (Value.ref 225) [_, Value.str (Str.ofString "application") _, _, _]) _ _ _); k_dflt (refine' SpecN.use (packet_with_s _ _ _ _ _ _ _ _ _ _ _) (by k_asm) (by k_asm) (by k_asm) (by k_asm) (by first | exact List.forall_mem_nil _ | exact SubL.mem (by k_subL)) (by k_asm) (by first | exact rfl | assumption) (by ktr_room) (by ktr_units) ?_; intro a' ob' h' tk' F' N' hp'; obtain ⟨_, _, _, _, _, _, _, e9⟩ := hp'; subst e9; (try dsimp only)); (try k_fold)) | ((with_reducible show wpAny _ _ (call (Value.ref 386) [Value.ref _, Value.int 50 _]) _ _ _); k_dflt (refine' SpecT.use take_50 (by k_asm) (by k_asm) (by k_asm) (by k_asm) (by intro t9; k_upd) (by k_mem) (by k_asm) (by exact rfl) (by ktr_room) (by ktr_units) (by first | assumption | omega) (by assumption) (by first | assumption | omega) (by first | decide | omega) (by first | decide | omega) ?_); intro n' tv' h' tk' t' F' N' hn0' hn1'; (try dsimp only); (try k_fold)) | ((with_reducible show wpAny _ _ (call (Value.ref 386) [Value.ref _, Value.int 6 _]) _ _ _); k_dflt (refine' SpecT.use take_6 (by k_asm) (by k_asm) (by k_asm) (by k_asm) (by intro t9; k_upd) (by k_mem) (by k_asm) (by exact rfl) (by ktr_room) (by ktr_units) (by first | assumption | omega) (by assumption) (by first | assumption | omega) (by first | decide | omega) (by first | decide | omega) ?_); intro n' tv' h' tk' t' F' N' hn0' hn1'; (try dsimp only); (try k_fold)) | ((with_reducible show wpAny _ _ (call (Value.ref 386) [Value.ref _, Value.int 4 _]) _ _ _); k_dflt (refine' SpecT.use take_4 (by k_asm) (by k_asm) (by k_asm) (by k_asm) (by intro t9; k_upd) (by k_mem) (by k_asm) (by exact rfl) (by ktr_room) (by ktr_units) (by first | assumption | omega) (by assumption) (by first | assumption | omega) (by first | decide | omega) (by first | decide | omega) ?_); intro n' tv' h' tk' t' F' N' hn0' hn1'; (try dsimp only); (try k_fold)) | ((with_reducible show wpAny _ _ (call (Value.ref 386) [Value.ref _, Value.int 21 _]) _ _ _); k_dflt (refine' SpecT.use take_21 (by k_asm) (by k_asm) (by k_asm) (by k_asm) (by intro t9; k_upd) (by k_mem) (by k_asm) (by exact rfl) (by ktr_room) (by ktr_units) (by first | assumption | omega) (by assumption) (by first | assumption | omega) (by first | decide | omega) (by first | decide | omega) ?_); intro n' tv' h' tk' t' F' N' hn0' hn1'; (try dsimp only); (try k_fold)) | ((with_reducible show wpAny _ _ (call (Value.ref 386) [Value.ref _, Value.int 3 _]) _ _ _); k_dflt (refine' SpecT.use take_3 (by k_asm) (by k_asm) (by k_asm) (by k_asm) (by intro t9; k_upd) (by k_mem) (by k_asm) (by exact rfl) (by ktr_room) (by ktr_units) (by first | assumption | omega) (by assumption) (by first | assumption | omega) (by first | decide | omega) (by first | decide | omega) ?_); intro n' tv' h' tk' t' F' N' hn0' hn1'; (try dsimp only); (try k_fold)) | ((with_reducible show wpAny _ _ (getMethod (Value.ref _) (PySem.Str.ofString "probe_wait") _) _ _ _); k_dflt (refine' kmu_own (by k_asm) (by k_asm) (by k_inst) (by k_is) (by k_is) ?_; k_whole)) | ((with_reducible first | refine call_snd ?_ | refine call_app ?_); (with_reducible show wpAny _ _ (call (Value.builtin _) [Value.ref _, _]) _ _ _); k_dflt (refine' append_K (by k_asm) (by k_asm) (by k_upd) ?_ (by size_fits); k_whole); intro h' F' N'; (try k_sweep)) | (with_reducible refine ne_int_eq (by omega) ?_) | (k_here; (with_reducible show wpAny _ _ (call (Value.ref 63) [Value.ref _, Value.int _ _, Value.int _ _]) _ _ _); k_dflt (refine wpAny_call ?_; k_enter)) | (k_here; (with_reducible show wpAny _ _ (call (Value.ref 56) [Value.ref _, Value.ref _, Value.int _ _, Value.int _ _]) _ _ _); k_dflt (refine wpAny_call ?_; k_enter)) | (k_here; (with_reducible show wpAny _ _ (call (Value.ref 98) [Value.ref _]) _ _ _); k_dflt (refine wpAny_call ?_; k_enter)) | (k_here; (with_reducible show wpAny _ _ (callWith _ (Value.ref 98, _).1 _ (backTo _ (starEach [] _)) []) _ _ _); k_dflt (refine' callWith_pair0 (by k_asm) (by k_asm) (by k_is) ?_)) | ((with_reducible show wpAny _ _ (execs _ _) _ _ (Shared.mk _ _ _ (HAdd.hAdd (HAdd.hAdd (HAdd.hAdd (HAdd.hAdd _ _) _) _) _) _)); refine gen_toks ?_; intro tk9) | ((with_reducible show wpAny _ _ (eval (PySem.Expr.Name _ _) _) _ _ _); k_here; k_dflt (first | (refine' nameX_L (by k_asm) (by rfl) ?_ (by rfl) (by rfl); k_whole) | (refine' nameX_K (by k_asm) (by k_asm) (by k_asm) (by k_is) ?_ (by rfl) (by rfl); k_whole))) | ((with_reducible show wpAny _ _ (callWith _ (Value.ref _) _ _ _) _ _ _); k_here; k_dflt (first | (refine' callWith_K (by k_asm) (by k_is) ?_; k_whole) | (refine' callWith_K0 (by exact Frag.In.keeps (by k_asm) (Fr.keep (by k_asm))) (by k_is) ?_; k_whole)))) | walk1 | (dsimp only; walk1) | (leave1; walk_say "STEP leave1"; try dsimp only) | fail "no step")
    all_goals (try dsimp only at *)
    all_goals k_dflt (refine' At5.mk ?F ?N ?hod ?S ?l1 ?l2 ?hi ?hn ?hmr ?h0 ?h1 ?hs ?hd ?he ?ha ?hb0 ?hb1 ?hms; (case F => k_asm); (case N => k_asm); (case hod => assumption); (case S => exact SubL.mem (by k_subL)); (case l1 => omega); (case l2 => omega); (case hi => assumption); (case hn => first | assumption | (simp only [List.length_take]; omega)); (case hmr => first | assumption | exact rfl); (case h0 => omega); (case h1 => omega); (case hs => assumption); (case hd => omega); (case he => omega); (case ha => (try kmn_bounds); first | exact .inl ⟨rfl, by omega, by omega⟩ | exact .inr ⟨_, _, rfl, by omega, by omega, by omega, by omega⟩); (case hb0 => (try kmn_bounds); omega); (case hb1 => (try kmn_bounds); omega); (case hms => assumption))
  clear F9 N9 l0 l1 l2 hi hn hmr h0 h1 hsp hd1 he1 hav
  rintro s' ⟨h, tk, bx, lst, c, t, zc, vs, ns, mr, ida, sp, ts, td, te, d, e, z0, av, pla, tpa, ob, n, b, tn, tb, z1, rfl, F9, N9, l1, l2, hi, hn, hmr, h0, h1, hsp, hd1, he1, hav, hb0, hb1, hod, hms⟩
  refine cutP (l1 := [_]) (At6 50 (ghostOf s₁.heap [(392, 388)]) s₁.heap.objs.size s₁) ?_ ?_
  · refine wpP_execs_cons ?_
    refine forP_tuple3 (x := Str.ofString "size") (o := Str.ofString "octets") F9 N9 rfl (by decide) hmr rfl rfl ?_
    (try k_fold)
    repeat' (first | (k_unfold; (try dsimp only)) | ((with_reducible show wpP _ _ _ _ _ _); first | ((with_reducible show wpP _ _ (call (Value.ref 218) [Value.ref _, Value.int _ _]) _ _ _); k_dflt (refine' SpecP.use (packet_size_h_int _ _ #[] _ _ _ _ _ _ _ _ _ _ 0 _ _ ?_ ?_ (by decide) ?_ ?_ ?_ ?_ ?_) (by k_asm) (by k_asm) (by k_asm) (by k_asm) (by first | exact List.forall_mem_nil _ | exact SubL.mem (by k_subL)) (by k_asm) (by first | exact rfl | assumption) (by ktr_room) (by ktr_units) ?_; (all_goals (first | decide | assumption | omega | skip)); intro v' h' tk' F' N' hv'; (rename OctOf _ _ _ => hv9; obtain ⟨o9, u9, e9, ho91, ho92, ho93⟩ := hv9; subst e9); (try dsimp only)); (try k_fold)) | ((with_reducible show wpP _ _ (call (Value.ref 218) [Value.ref _, Value.none]) _ _ _); k_dflt (refine' SpecP.use (packet_size_h_none _ _ #[] _ _ 0 _ _ _ _ _ _ _ 0 0 _ ?_ ?_ (by decide) ?_ ?_ ?_) (by k_asm) (by k_asm) (by k_asm) (by k_asm) (by first | exact List.forall_mem_nil _ | exact SubL.mem (by k_subL)) (by k_asm) (by first | exact rfl | assumption) (by ktr_room) (by ktr_units) ?_; (all_goals (first | decide | assumption | omega | skip)); intro v' h' tk' F' N' hv'; (rename OctOf _ _ _ => hv9; obtain ⟨o9, u9, e9, ho91, ho92, ho93⟩ := hv9; subst e9); (try dsimp only)); (try k_fold)) | ((with_reducible show wpP _ _ (call (Value.ref 218) [Value.ref _, Value.int _ _]) _ _ _); k_dflt (refine' SpecP.use (packet_size_i_int _ _ _ _ _ _ _ _ _ _ _ _ _ _ _ _ ?_ ?_ ?_ ?_ ?_ ?_ ?_ ?_) (by k_asm) (by k_asm) (by k_asm) (by k_asm) (by first | exact List.forall_mem_nil _ | exact SubL.mem (by k_subL)) (by k_asm) (by first | exact rfl | assumption) (by ktr_room) (by ktr_units) ?_; (all_goals (first | decide | assumption | omega | skip)); intro v' h' tk' F' N' hv'; (rename OctOf _ _ _ => hv9; obtain ⟨o9, u9, e9, ho91, ho92, ho93⟩ := hv9; subst e9); (try dsimp only)); (try k_fold)) | ((with_reducible show wpP _ _ (call (Value.ref 218) [Value.ref _, Value.none]) _ _ _); k_dflt (refine' SpecP.use (packet_size_i_none _ _ _ _ _ 0 _ _ _ _ _ _ _ _ 0 _ ?_ ?_ ?_ ?_ ?_ ?_) (by k_asm) (by k_asm) (by k_asm) (by k_asm) (by first | exact List.forall_mem_nil _ | exact SubL.mem (by k_subL)) (by k_asm) (by first | exact rfl | assumption) (by ktr_room) (by ktr_units) ?_; (all_goals (first | decide | assumption | omega | skip)); intro v' h' tk' F' N' hv'; (rename OctOf _ _ _ => hv9; obtain ⟨o9, u9, e9, ho91, ho92, ho93⟩ := hv9; subst e9); (try dsimp only)); (try k_fold)) | ((with_reducible show wpP _ _ (call (Value.ref 218) [Value.ref _, Value.int _ _]) _ _ _); k_dflt (refine' SpecP.use (packet_size_s_int _ #[] #[] _ _ _ _ _ _ _ _ _ _ 0 _ _ ?_ (by decide) (by decide) ?_ ?_ ?_ ?_ ?_) (by k_asm) (by k_asm) (by k_asm) (by k_asm) (by first | exact List.forall_mem_nil _ | exact SubL.mem (by k_subL)) (by k_asm) (by first | exact rfl | assumption) (by ktr_room) (by ktr_units) ?_; (all_goals (first | decide | assumption | omega | skip)); intro v' h' tk' F' N' hv'; (rename OctOf _ _ _ => hv9; obtain ⟨o9, u9, e9, ho91, ho92, ho93⟩ := hv9; subst e9); (try dsimp only)); (try k_fold)) | ((with_reducible show wpP _ _ (call (Value.ref 218) [Value.ref _, Value.none]) _ _ _); k_dflt (refine' SpecP.use (packet_size_s_none _ #[] #[] _ _ 0 _ _ _ _ _ _ _ 0 0 _ ?_ (by decide) (by decide) ?_ ?_ ?_) (by k_asm) (by k_asm) (by k_asm) (by k_asm) (by first | exact List.forall_mem_nil _ | exact SubL.mem (by k_subL)) (by k_asm) (by first | exact rfl | assumption) (by ktr_room) (by ktr_units) ?_; (all_goals (first | decide | assumption | omega | skip)); intro v' h' tk' F' N' hv'; (rename OctOf _ _ _ => hv9; obtain ⟨o9, u9, e9, ho91, ho92, ho93⟩ := hv9; subst e9); (try dsimp only)); (try k_fold)) | ((with_reducible show wpP _ _ (exec (Stmt.If (PySem.Expr.UnaryOp UnaryOp.Not (PySem.Expr.Compare _ [_, _] [_, _] _) _) _ _ _) _) _ _ _); k_dflt (refine' wpP_IfNotChain (by with_unfolding_all rfl) ?_)) | ((with_reducible show wpP _ _ (call (Value.ref 232) [_, _, Value.str (Str.ofString "handshake") _]) _ _ _); k_dflt (refine' SpecPW.use (head_octets_h_int _ _ _ _ _ _ _ _ _ _ _ _ _ _ _ _ ?_ ?_ ?_ ?_ ?_ ?_ ?_ ?_) (by k_asm) (by k_asm) (by k_asm) (by k_asm) (by first | exact List.forall_mem_nil _ | exact SubL.mem (by k_subL)) (by k_asm) (by first | exact rfl | assumption) (by ktr_room) (by ktr_units) ?_; (all_goals (first | assumption | decide | assumption | omega | skip)); intro v' h' tk' F' N' hv'; (rename IntOf _ _ => hv9; obtain ⟨u9, e9⟩ := hv9; subst e9); (try dsimp only)); (try k_fold)) | ((with_reducible show wpP _ _ (call (Value.ref 232) [_, _, Value.str (Str.ofString "handshake") _]) _ _ _); k_dflt (refine' SpecPW.use (head_octets_h_none _ _ _ _ _ _ _ _ 0 _ _ _ 0 _ _ _ ?_ ?_ ?_ ?_ ?_ ?_) (by k_asm) (by k_asm) (by k_asm) (by k_asm) (by first | exact List.forall_mem_nil _ | exact SubL.mem (by k_subL)) (by k_asm) (by first | exact rfl | assumption) (by ktr_room) (by ktr_units) ?_; (all_goals (first | assumption | decide | assumption | omega | skip)); intro v' h' tk' F' N' hv'; (rename IntOf _ _ => hv9; obtain ⟨u9, e9⟩ := hv9; subst e9); (try dsimp only)); (try k_fold)) | ((with_reducible show wpP _ _ (call (Value.ref 232) [_, _, Value.str (Str.ofString "initial") _]) _ _ _); k_dflt (refine' SpecPW.use (head_octets_i_int _ _ _ _ _ _ _ _ _ _ _ _ _ _ _ _ ?_ ?_ ?_ ?_ ?_ ?_ ?_ ?_) (by k_asm) (by k_asm) (by k_asm) (by k_asm) (by first | exact List.forall_mem_nil _ | exact SubL.mem (by k_subL)) (by k_asm) (by first | exact rfl | assumption) (by ktr_room) (by ktr_units) ?_; (all_goals (first | assumption | decide | assumption | omega | skip)); intro v' h' tk' F' N' hv'; (rename IntOf _ _ => hv9; obtain ⟨u9, e9⟩ := hv9; subst e9); (try dsimp only)); (try k_fold)) | ((with_reducible show wpP _ _ (call (Value.ref 232) [_, _, Value.str (Str.ofString "initial") _]) _ _ _); k_dflt (refine' SpecPW.use (head_octets_i_none _ _ _ _ _ _ _ _ 0 _ _ _ 0 _ _ _ ?_ ?_ ?_ ?_ ?_ ?_) (by k_asm) (by k_asm) (by k_asm) (by k_asm) (by first | exact List.forall_mem_nil _ | exact SubL.mem (by k_subL)) (by k_asm) (by first | exact rfl | assumption) (by ktr_room) (by ktr_units) ?_; (all_goals (first | assumption | decide | assumption | omega | skip)); intro v' h' tk' F' N' hv'; (rename IntOf _ _ => hv9; obtain ⟨u9, e9⟩ := hv9; subst e9); (try dsimp only)); (try k_fold)) | ((with_reducible show wpP _ _ (call (Value.ref 232) [_, _, Value.str (Str.ofString "application") _]) _ _ _); k_dflt (refine' SpecPW.use (head_octets_s_int _ _ _ _ _ _ _ _ _ _ _ _ _ _ _ _ ?_ ?_ ?_ ?_ ?_ ?_ ?_ ?_) (by k_asm) (by k_asm) (by k_asm) (by k_asm) (by first | exact List.forall_mem_nil _ | exact SubL.mem (by k_subL)) (by k_asm) (by first | exact rfl | assumption) (by ktr_room) (by ktr_units) ?_; (all_goals (first | assumption | decide | assumption | omega | skip)); intro v' h' tk' F' N' hv'; (rename IntOf _ _ => hv9; obtain ⟨u9, e9⟩ := hv9; subst e9); (try dsimp only)); (try k_fold)) | ((with_reducible show wpP _ _ (call (Value.ref 232) [_, _, Value.str (Str.ofString "application") _]) _ _ _); k_dflt (refine' SpecPW.use (head_octets_s_none _ _ _ _ _ _ _ _ 0 _ _ _ 0 _ _ _ ?_ ?_ ?_ ?_ ?_ ?_) (by k_asm) (by k_asm) (by k_asm) (by k_asm) (by first | exact List.forall_mem_nil _ | exact SubL.mem (by k_subL)) (by k_asm) (by first | exact rfl | assumption) (by ktr_room) (by ktr_units) ?_; (all_goals (first | assumption | decide | assumption | omega | skip)); intro v' h' tk' F' N' hv'; (rename IntOf _ _ => hv9; obtain ⟨u9, e9⟩ := hv9; subst e9); (try dsimp only)); (try k_fold)) | walk1) | ((with_reducible show GoodW _ _ _ _ _ (Except.ok (Flow.ret (Value.bool true))) _ ∧ GrownAll _ _); with_reducible refine' good_end (by with_reducible assumption) (by with_reducible assumption) ?_) | (k_end; wrow_close) | ((with_reducible show wpAny _ _ _ _ _ _); first | ((with_reducible show wpAny _ _ (call (Value.ref 28) [_, _]) _ _ _); k_dflt (first | (refine' take_reset_use (by k_asm) (by k_asm) (by k_asm) (by k_asm) (by exact SubL.mem (by k_subL)) (by repeat' (first | exact Olds.nil | (refine' Olds.skip (by with_reducible first | exact List.Mem.head _ | exact List.Mem.tail _ (List.Mem.head _) | exact List.Mem.tail _ (List.Mem.tail _ (List.Mem.head _)) | exact List.Mem.tail _ (List.Mem.tail _ (List.Mem.tail _ (List.Mem.head _))) | exact List.Mem.tail _ (List.Mem.tail _ (List.Mem.tail _ (List.Mem.tail _ (List.Mem.head _)))) | exact List.Mem.tail _ (List.Mem.tail _ (List.Mem.tail _ (List.Mem.tail _ (List.Mem.tail _ (List.Mem.head _))))) | exact List.Mem.tail _ (List.Mem.tail _ (List.Mem.tail _ (List.Mem.tail _ (List.Mem.tail _ (List.Mem.tail _ (List.Mem.head _))))))) ?_) | (refine' Olds.keep (by with_reducible assumption) ?_) | (refine' Olds.keep (off_low (by with_reducible assumption) (by assumption) (by assumption) (by assumption) (by assumption) (by assumption) (by assumption)) ?_) | (refine' Olds.keep (off_high (by omega) (by assumption) (by assumption) (by assumption) (by assumption) (by assumption) (by assumption)) ?_) | refine' Olds.drop ?_)) (by assumption) (by assumption) (by assumption) (by assumption) (by assumption) (by assumption) (by assumption) (by assumption) (by first | decide | size_fits) (fun _ => on_reset_open (by assumption)) (fun _ => rfl) (by k_asm) (by first | exact rfl | assumption) (by ktr_room) (by ktr_units) ?_) | (refine' take_reset_use (by k_asm) (by k_asm) (by k_asm) (by k_asm) (by exact SubL.mem (by k_subL)) (by repeat' (first | exact Olds.nil | (refine' Olds.skip (by with_reducible first | exact List.Mem.head _ | exact List.Mem.tail _ (List.Mem.head _) | exact List.Mem.tail _ (List.Mem.tail _ (List.Mem.head _)) | exact List.Mem.tail _ (List.Mem.tail _ (List.Mem.tail _ (List.Mem.head _))) | exact List.Mem.tail _ (List.Mem.tail _ (List.Mem.tail _ (List.Mem.tail _ (List.Mem.head _)))) | exact List.Mem.tail _ (List.Mem.tail _ (List.Mem.tail _ (List.Mem.tail _ (List.Mem.tail _ (List.Mem.head _))))) | exact List.Mem.tail _ (List.Mem.tail _ (List.Mem.tail _ (List.Mem.tail _ (List.Mem.tail _ (List.Mem.tail _ (List.Mem.head _))))))) ?_) | (refine' Olds.keep (by with_reducible assumption) ?_) | (refine' Olds.keep (off_low (by with_reducible assumption) (by assumption) (by assumption) (by assumption) (by assumption) (by assumption) (by assumption)) ?_) | (refine' Olds.keep (off_high (by omega) (by assumption) (by assumption) (by assumption) (by assumption) (by assumption) (by assumption)) ?_) | refine' Olds.drop ?_)) (by assumption) (by assumption) (by assumption) (by assumption) (by assumption) (by assumption) (by assumption) (by assumption) (by first | decide | size_fits) (fun _ => on_reset_closing (by assumption)) (fun _ => rfl) (by k_asm) (by first | exact rfl | assumption) (by ktr_room) (by ktr_units) ?_) | (refine' take_reset_use (by k_asm) (by k_asm) (by k_asm) (by k_asm) (by exact SubL.mem (by k_subL)) (by repeat' (first | exact Olds.nil | (refine' Olds.skip (by with_reducible first | exact List.Mem.head _ | exact List.Mem.tail _ (List.Mem.head _) | exact List.Mem.tail _ (List.Mem.tail _ (List.Mem.head _)) | exact List.Mem.tail _ (List.Mem.tail _ (List.Mem.tail _ (List.Mem.head _))) | exact List.Mem.tail _ (List.Mem.tail _ (List.Mem.tail _ (List.Mem.tail _ (List.Mem.head _)))) | exact List.Mem.tail _ (List.Mem.tail _ (List.Mem.tail _ (List.Mem.tail _ (List.Mem.tail _ (List.Mem.head _))))) | exact List.Mem.tail _ (List.Mem.tail _ (List.Mem.tail _ (List.Mem.tail _ (List.Mem.tail _ (List.Mem.tail _ (List.Mem.head _))))))) ?_) | (refine' Olds.keep (by with_reducible assumption) ?_) | (refine' Olds.keep (off_low (by with_reducible assumption) (by assumption) (by assumption) (by assumption) (by assumption) (by assumption) (by assumption)) ?_) | (refine' Olds.keep (off_high (by omega) (by assumption) (by assumption) (by assumption) (by assumption) (by assumption) (by assumption)) ?_) | refine' Olds.drop ?_)) (by assumption) (by assumption) (by assumption) (by assumption) (by assumption) (by assumption) (by assumption) (by assumption) (by first | decide | size_fits) (fun _ => on_reset_draining (by assumption)) (fun _ => rfl) (by k_asm) (by first | exact rfl | assumption) (by ktr_room) (by ktr_units) ?_)); intro h' tk' x' a' t' y' F' N' hA'; (try k_fold)) | ((with_reducible show wpAny _ _ (call (Value.ref 225) [_, Value.str (Str.ofString "handshake") _, _, _]) _ _ _); k_dflt (refine' SpecN.use (packet_with_h _ _ _ _ _ _ _ _ _ _ _) (by k_asm) (by k_asm) (by k_asm) (by k_asm) (by first | exact List.forall_mem_nil _ | exact SubL.mem (by k_subL)) (by k_asm) (by first | exact rfl | assumption) (by ktr_room) (by ktr_units) ?_; intro a' ob' h' tk' F' N' hp'; obtain ⟨_, _, _, _, _, _, _, e9⟩ := hp'; subst e9; (try dsimp only)); (try k_fold)) | ((with_reducible show wpAny _ _ (call (Value.ref 225) [_, Value.str (Str.ofString "initial") _, _, _]) _ _ _); k_dflt (refine' SpecN.use (packet_with_i _ _ _ _ _ _ _ _ _ _ _) (by k_asm) (by k_asm) (by k_asm) (by k_asm) (by first | exact List.forall_mem_nil _ | exact SubL.mem (by k_subL)) (by k_asm) (by first | exact rfl | assumption) (by ktr_room) (by ktr_units) ?_; intro a' ob' h' tk' F' N' hp'; obtain ⟨_, _, _, _, _, _, _, _, _, e9, hz9⟩ := hp'; subst e9; (try dsimp only)); (try k_fold)) | ((with_reducible show wpAny _ _ (call (Value.ref 225) [_, Value.str (Str.ofString "application") _, _, _]) _ _ _); k_dflt (refine' SpecN.use (packet_with_s _ _ _ _ _ _ _ _ _ _ _) (by k_asm) (by k_asm) (by k_asm) (by k_asm) (by first | exact List.forall_mem_nil _ | exact SubL.mem (by k_subL)) (by k_asm) (by first | exact rfl | assumption) (by ktr_room) (by ktr_units) ?_; intro a' ob' h' tk' F' N' hp'; obtain ⟨_, _, _, _, _, _, _, e9⟩ := hp'; subst e9; (try dsimp only)); (try k_fold)) | ((with_reducible show wpAny _ _ (call (Value.ref 386) [Value.ref _, Value.int 50 _]) _ _ _); k_dflt (refine' SpecT.use take_50 (by k_asm) (by k_asm) (by k_asm) (by k_asm) (by intro t9; k_upd) (by k_mem) (by k_asm) (by exact rfl) (by ktr_room) (by ktr_units) (by first | assumption | omega) (by assumption) (by first | assumption | omega) (by first | decide | omega) (by first | decide | omega) ?_); intro n' tv' h' tk' t' F' N' hn0' hn1'; (try dsimp only); (try k_fold)) | ((with_reducible show wpAny _ _ (call (Value.ref 386) [Value.ref _, Value.int 6 _]) _ _ _); k_dflt (refine' SpecT.use take_6 (by k_asm) (by k_asm) (by k_asm) (by k_asm) (by intro t9; k_upd) (by k_mem) (by k_asm) (by exact rfl) (by ktr_room) (by ktr_units) (by first | assumption | omega) (by assumption) (by first | assumption | omega) (by first | decide | omega) (by first | decide | omega) ?_); intro n' tv' h' tk' t' F' N' hn0' hn1'; (try dsimp only); (try k_fold)) | ((with_reducible show wpAny _ _ (call (Value.ref 386) [Value.ref _, Value.int 4 _]) _ _ _); k_dflt (refine' SpecT.use take_4 (by k_asm) (by k_asm) (by k_asm) (by k_asm) (by intro t9; k_upd) (by k_mem) (by k_asm) (by exact rfl) (by ktr_room) (by ktr_units) (by first | assumption | omega) (by assumption) (by first | assumption | omega) (by first | decide | omega) (by first | decide | omega) ?_); intro n' tv' h' tk' t' F' N' hn0' hn1'; (try dsimp only); (try k_fold)) | ((with_reducible show wpAny _ _ (call (Value.ref 386) [Value.ref _, Value.int 21 _]) _ _ _); k_dflt (refine' SpecT.use take_21 (by k_asm) (by k_asm) (by k_asm) (by k_asm) (by intro t9; k_upd) (by k_mem) (by k_asm) (by exact rfl) (by ktr_room) (by ktr_units) (by first | assumption | omega) (by assumption) (by first | assumption | omega) (by first | decide | omega) (by first | decide | omega) ?_); intro n' tv' h' tk' t' F' N' hn0' hn1'; (try dsimp only); (try k_fold)) | ((with_reducible show wpAny _ _ (call (Value.ref 386) [Value.ref _, Value.int 3 _]) _ _ _); k_dflt (refine' SpecT.use take_3 (by k_asm) (by k_asm) (by k_asm) (by k_asm) (by intro t9; k_upd) (by k_mem) (by k_asm) (by exact rfl) (by ktr_room) (by ktr_units) (by first | assumption | omega) (by assumption) (by first | assumption | omega) (by first | decide | omega) (by first | decide | omega) ?_); intro n' tv' h' tk' t' F' N' hn0' hn1'; (try dsimp only); (try k_fold)) | ((with_reducible show wpAny _ _ (getMethod (Value.ref _) (PySem.Str.ofString "probe_wait") _) _ _ _); k_dflt (refine' kmu_own (by k_asm) (by k_asm) (by k_inst) (by k_is) (by k_is) ?_; k_whole)) | ((with_reducible first | refine call_snd ?_ | refine call_app ?_); (with_reducible show wpAny _ _ (call (Value.builtin _) [Value.ref _, _]) _ _ _); k_dflt (refine' append_K (by k_asm) (by k_asm) (by k_upd) ?_ (by size_fits); k_whole); intro h' F' N'; (try k_sweep)) | (with_reducible refine ne_int_eq (by omega) ?_) | (k_here; (with_reducible show wpAny _ _ (call (Value.ref 63) [Value.ref _, Value.int _ _, Value.int _ _]) _ _ _); k_dflt (refine wpAny_call ?_; k_enter)) | (k_here; (with_reducible show wpAny _ _ (call (Value.ref 56) [Value.ref _, Value.ref _, Value.int _ _, Value.int _ _]) _ _ _); k_dflt (refine wpAny_call ?_; k_enter)) | (k_here; (with_reducible show wpAny _ _ (call (Value.ref 98) [Value.ref _]) _ _ _); k_dflt (refine wpAny_call ?_; k_enter)) | (k_here; (with_reducible show wpAny _ _ (callWith _ (Value.ref 98, _).1 _ (backTo _ (starEach [] _)) []) _ _ _); k_dflt (refine' callWith_pair0 (by k_asm) (by k_asm) (by k_is) ?_)) | ((with_reducible show wpAny _ _ (execs _ _) _ _ (Shared.mk _ _ _ (HAdd.hAdd (HAdd.hAdd (HAdd.hAdd (HAdd.hAdd _ _) _) _) _) _)); refine gen_toks ?_; intro tk9) | ((with_reducible show wpAny _ _ (eval (PySem.Expr.Name _ _) _) _ _ _); k_here; k_dflt (first | (refine' nameX_L (by k_asm) (by rfl) ?_ (by rfl) (by rfl); k_whole) | (refine' nameX_K (by k_asm) (by k_asm) (by k_asm) (by k_is) ?_ (by rfl) (by rfl); k_whole))) | ((with_reducible show wpAny _ _ (callWith _ (Value.ref _) _ _ _) _ _ _); k_here; k_dflt (first | (refine' callWith_K (by k_asm) (by k_is) ?_; k_whole) | (refine' callWith_K0 (by exact Frag.In.keeps (by k_asm) (Fr.keep (by k_asm))) (by k_is) ?_; k_whole)))) | walk1 | (dsimp only; walk1) | (leave1; walk_say "STEP leave1"; try dsimp only) | fail "no step")
    k_dflt (refine' ForT.mk ?F ?N ?S ?h1 ?h2 ?h3 ?turn ?fin; (case F => k_asm); (case N => k_asm); (case S => exact SubL.mem (by k_subL)); (case h1 => exact ⟨by omega, by omega⟩); (case h2 => exact ⟨by omega, by omega⟩); (case h3 => exact ⟨by omega, by omega⟩))
    case fin =>
      intro h9 tk9 v9 oo9 F9 N9
      refine wpP_pure ⟨rfl, At6.mk (Fr.boxed F9 rfl) N9 (SubL.mem (by k_subL)) l1 l2 hi hn h0 h1⟩
    case turn =>
      (repeat (rename Fr _ _ _ _ => F8; clear F8)); (repeat (rename News _ _ _ _ => N8; clear N8))
      intro I I' it it' k t hk0 hk1
      refine TurnP.of ?_
      intro h9 tk9 oo9 F9 N9
      delta mOf at F9
      (try dsimp only at F9)
      obtain rfl | rfl | rfl := hsp
      all_goals obtain ⟨rfl, hn7, hn8⟩ | ⟨j, tj, rfl, hj7, hj8, hj9, hj10⟩ := hav
      all_goals (try k_fold)
      all_goals repeat' (first | (k_unfold; (try dsimp only)) | ((with_reducible show wpP _ _ _ _ _ _); first | ((with_reducible show wpP _ _ (call (Value.ref 218) [Value.ref _, Value.int _ _]) _ _ _); k_dflt (refine' SpecP.use (packet_size_h_int _ _ #[] _ _ _ _ _ _ _ _ _ _ 0 _ _ ?_ ?_ (by decide) ?_ ?_ ?_ ?_ ?_) (by k_asm) (by k_asm) (by k_asm) (by k_asm) (by first | exact List.forall_mem_nil _ | exact SubL.mem (by k_subL)) (by k_asm) (by first | exact rfl | assumption) (by ktr_room) (by ktr_units) ?_; (all_goals (first | decide | assumption | omega | skip)); intro v' h' tk' F' N' hv'; (rename OctOf _ _ _ => hv9; obtain ⟨o9, u9, e9, ho91, ho92, ho93⟩ := hv9; subst e9); (try dsimp only)); (try k_fold)) | ((with_reducible show wpP _ _ (call (Value.ref 218) [Value.ref _, Value.none]) _ _ _); k_dflt (refine' SpecP.use (packet_size_h_none _ _ #[] _ _ 0 _ _ _ _ _ _ _ 0 0 _ ?_ ?_ (by decide) ?_ ?_ ?_) (by k_asm) (by k_asm) (by k_asm) (by k_asm) (by first | exact List.forall_mem_nil _ | exact SubL.mem (by k_subL)) (by k_asm) (by first | exact rfl | assumption) (by ktr_room) (by ktr_units) ?_; (all_goals (first | decide | assumption | omega | skip)); intro v' h' tk' F' N' hv'; (rename OctOf _ _ _ => hv9; obtain ⟨o9, u9, e9, ho91, ho92, ho93⟩ := hv9; subst e9); (try dsimp only)); (try k_fold)) | ((with_reducible show wpP _ _ (call (Value.ref 218) [Value.ref _, Value.int _ _]) _ _ _); k_dflt (refine' SpecP.use (packet_size_i_int _ _ _ _ _ _ _ _ _ _ _ _ _ _ _ _ ?_ ?_ ?_ ?_ ?_ ?_ ?_ ?_) (by k_asm) (by k_asm) (by k_asm) (by k_asm) (by first | exact List.forall_mem_nil _ | exact SubL.mem (by k_subL)) (by k_asm) (by first | exact rfl | assumption) (by ktr_room) (by ktr_units) ?_; (all_goals (first | decide | assumption | omega | skip)); intro v' h' tk' F' N' hv'; (rename OctOf _ _ _ => hv9; obtain ⟨o9, u9, e9, ho91, ho92, ho93⟩ := hv9; subst e9); (try dsimp only)); (try k_fold)) | ((with_reducible show wpP _ _ (call (Value.ref 218) [Value.ref _, Value.none]) _ _ _); k_dflt (refine' SpecP.use (packet_size_i_none _ _ _ _ _ 0 _ _ _ _ _ _ _ _ 0 _ ?_ ?_ ?_ ?_ ?_ ?_) (by k_asm) (by k_asm) (by k_asm) (by k_asm) (by first | exact List.forall_mem_nil _ | exact SubL.mem (by k_subL)) (by k_asm) (by first | exact rfl | assumption) (by ktr_room) (by ktr_units) ?_; (all_goals (first | decide | assumption | omega | skip)); intro v' h' tk' F' N' hv'; (rename OctOf _ _ _ => hv9; obtain ⟨o9, u9, e9, ho91, ho92, ho93⟩ := hv9; subst e9); (try dsimp only)); (try k_fold)) | ((with_reducible show wpP _ _ (call (Value.ref 218) [Value.ref _, Value.int _ _]) _ _ _); k_dflt (refine' SpecP.use (packet_size_s_int _ #[] #[] _ _ _ _ _ _ _ _ _ _ 0 _ _ ?_ (by decide) (by decide) ?_ ?_ ?_ ?_ ?_) (by k_asm) (by k_asm) (by k_asm) (by k_asm) (by first | exact List.forall_mem_nil _ | exact SubL.mem (by k_subL)) (by k_asm) (by first | exact rfl | assumption) (by ktr_room) (by ktr_units) ?_; (all_goals (first | decide | assumption | omega | skip)); intro v' h' tk' F' N' hv'; (rename OctOf _ _ _ => hv9; obtain ⟨o9, u9, e9, ho91, ho92, ho93⟩ := hv9; subst e9); (try dsimp only)); (try k_fold)) | ((with_reducible show wpP _ _ (call (Value.ref 218) [Value.ref _, Value.none]) _ _ _); k_dflt (refine' SpecP.use (packet_size_s_none _ #[] #[] _ _ 0 _ _ _ _ _ _ _ 0 0 _ ?_ (by decide) (by decide) ?_ ?_ ?_) (by k_asm) (by k_asm) (by k_asm) (by k_asm) (by first | exact List.forall_mem_nil _ | exact SubL.mem (by k_subL)) (by k_asm) (by first | exact rfl | assumption) (by ktr_room) (by ktr_units) ?_; (all_goals (first | decide | assumption | omega | skip)); intro v' h' tk' F' N' hv'; (rename OctOf _ _ _ => hv9; obtain ⟨o9, u9, e9, ho91, ho92, ho93⟩ := hv9; subst e9); (try dsimp only)); (try k_fold)) | ((with_reducible show wpP _ _ (exec (Stmt.If (PySem.Expr.UnaryOp UnaryOp.Not (PySem.Expr.Compare _ [_, _] [_, _] _) _) _ _ _) _) _ _ _); k_dflt (refine' wpP_IfNotChain (by with_unfolding_all rfl) ?_)) | ((with_reducible show wpP _ _ (call (Value.ref 232) [_, _, Value.str (Str.ofString "handshake") _]) _ _ _); k_dflt (refine' SpecPW.use (head_octets_h_int _ _ _ _ _ _ _ _ _ _ _ _ _ _ _ _ ?_ ?_ ?_ ?_ ?_ ?_ ?_ ?_) (by k_asm) (by k_asm) (by k_asm) (by k_asm) (by first | exact List.forall_mem_nil _ | exact SubL.mem (by k_subL)) (by k_asm) (by first | exact rfl | assumption) (by ktr_room) (by ktr_units) ?_; (all_goals (first | assumption | decide | assumption | omega | skip)); intro v' h' tk' F' N' hv'; (rename IntOf _ _ => hv9; obtain ⟨u9, e9⟩ := hv9; subst e9); (try dsimp only)); (try k_fold)) | ((with_reducible show wpP _ _ (call (Value.ref 232) [_, _, Value.str (Str.ofString "handshake") _]) _ _ _); k_dflt (refine' SpecPW.use (head_octets_h_none _ _ _ _ _ _ _ _ 0 _ _ _ 0 _ _ _ ?_ ?_ ?_ ?_ ?_ ?_) (by k_asm) (by k_asm) (by k_asm) (by k_asm) (by first | exact List.forall_mem_nil _ | exact SubL.mem (by k_subL)) (by k_asm) (by first | exact rfl | assumption) (by ktr_room) (by ktr_units) ?_; (all_goals (first | assumption | decide | assumption | omega | skip)); intro v' h' tk' F' N' hv'; (rename IntOf _ _ => hv9; obtain ⟨u9, e9⟩ := hv9; subst e9); (try dsimp only)); (try k_fold)) | ((with_reducible show wpP _ _ (call (Value.ref 232) [_, _, Value.str (Str.ofString "initial") _]) _ _ _); k_dflt (refine' SpecPW.use (head_octets_i_int _ _ _ _ _ _ _ _ _ _ _ _ _ _ _ _ ?_ ?_ ?_ ?_ ?_ ?_ ?_ ?_) (by k_asm) (by k_asm) (by k_asm) (by k_asm) (by first | exact List.forall_mem_nil _ | exact SubL.mem (by k_subL)) (by k_asm) (by first | exact rfl | assumption) (by ktr_room) (by ktr_units) ?_; (all_goals (first | assumption | decide | assumption | omega | skip)); intro v' h' tk' F' N' hv'; (rename IntOf _ _ => hv9; obtain ⟨u9, e9⟩ := hv9; subst e9); (try dsimp only)); (try k_fold)) | ((with_reducible show wpP _ _ (call (Value.ref 232) [_, _, Value.str (Str.ofString "initial") _]) _ _ _); k_dflt (refine' SpecPW.use (head_octets_i_none _ _ _ _ _ _ _ _ 0 _ _ _ 0 _ _ _ ?_ ?_ ?_ ?_ ?_ ?_) (by k_asm) (by k_asm) (by k_asm) (by k_asm) (by first | exact List.forall_mem_nil _ | exact SubL.mem (by k_subL)) (by k_asm) (by first | exact rfl | assumption) (by ktr_room) (by ktr_units) ?_; (all_goals (first | assumption | decide | assumption | omega | skip)); intro v' h' tk' F' N' hv'; (rename IntOf _ _ => hv9; obtain ⟨u9, e9⟩ := hv9; subst e9); (try dsimp only)); (try k_fold)) | ((with_reducible show wpP _ _ (call (Value.ref 232) [_, _, Value.str (Str.ofString "application") _]) _ _ _); k_dflt (refine' SpecPW.use (head_octets_s_int _ _ _ _ _ _ _ _ _ _ _ _ _ _ _ _ ?_ ?_ ?_ ?_ ?_ ?_ ?_ ?_) (by k_asm) (by k_asm) (by k_asm) (by k_asm) (by first | exact List.forall_mem_nil _ | exact SubL.mem (by k_subL)) (by k_asm) (by first | exact rfl | assumption) (by ktr_room) (by ktr_units) ?_; (all_goals (first | assumption | decide | assumption | omega | skip)); intro v' h' tk' F' N' hv'; (rename IntOf _ _ => hv9; obtain ⟨u9, e9⟩ := hv9; subst e9); (try dsimp only)); (try k_fold)) | ((with_reducible show wpP _ _ (call (Value.ref 232) [_, _, Value.str (Str.ofString "application") _]) _ _ _); k_dflt (refine' SpecPW.use (head_octets_s_none _ _ _ _ _ _ _ _ 0 _ _ _ 0 _ _ _ ?_ ?_ ?_ ?_ ?_ ?_) (by k_asm) (by k_asm) (by k_asm) (by k_asm) (by first | exact List.forall_mem_nil _ | exact SubL.mem (by k_subL)) (by k_asm) (by first | exact rfl | assumption) (by ktr_room) (by ktr_units) ?_; (all_goals (first | assumption | decide | assumption | omega | skip)); intro v' h' tk' F' N' hv'; (rename IntOf _ _ => hv9; obtain ⟨u9, e9⟩ := hv9; subst e9); (try dsimp only)); (try k_fold)) | walk1) | ((with_reducible show GoodW _ _ _ _ _ (Except.ok (Flow.ret (Value.bool true))) _ ∧ GrownAll _ _); with_reducible refine' good_end (by with_reducible assumption) (by with_reducible assumption) ?_) | (k_end; wrow_close) | ((with_reducible show wpAny _ _ _ _ _ _); first | ((with_reducible show wpAny _ _ (call (Value.ref 28) [_, _]) _ _ _); k_dflt (first | (refine' take_reset_use (by k_asm) (by k_asm) (by k_asm) (by k_asm) (by exact SubL.mem (by k_subL)) (by repeat' (first | exact Olds.nil | (refine' Olds.skip (by with_reducible first | exact List.Mem.head _ | exact List.Mem.tail _ (List.Mem.head _) | exact List.Mem.tail _ (List.Mem.tail _ (List.Mem.head _)) | exact List.Mem.tail _ (List.Mem.tail _ (List.Mem.tail _ (List.Mem.head _))) | exact List.Mem.tail _ (List.Mem.tail _ (List.Mem.tail _ (List.Mem.tail _ (List.Mem.head _)))) | exact List.Mem.tail _ (List.Mem.tail _ (List.Mem.tail _ (List.Mem.tail _ (List.Mem.tail _ (List.Mem.head _))))) | exact List.Mem.tail _ (List.Mem.tail _ (List.Mem.tail _ (List.Mem.tail _ (List.Mem.tail _ (List.Mem.tail _ (List.Mem.head _))))))) ?_) | (refine' Olds.keep (by with_reducible assumption) ?_) | (refine' Olds.keep (off_low (by with_reducible assumption) (by assumption) (by assumption) (by assumption) (by assumption) (by assumption) (by assumption)) ?_) | (refine' Olds.keep (off_high (by omega) (by assumption) (by assumption) (by assumption) (by assumption) (by assumption) (by assumption)) ?_) | refine' Olds.drop ?_)) (by assumption) (by assumption) (by assumption) (by assumption) (by assumption) (by assumption) (by assumption) (by assumption) (by first | decide | size_fits) (fun _ => on_reset_open (by assumption)) (fun _ => rfl) (by k_asm) (by first | exact rfl | assumption) (by ktr_room) (by ktr_units) ?_) | (refine' take_reset_use (by k_asm) (by k_asm) (by k_asm) (by k_asm) (by exact SubL.mem (by k_subL)) (by repeat' (first | exact Olds.nil | (refine' Olds.skip (by with_reducible first | exact List.Mem.head _ | exact List.Mem.tail _ (List.Mem.head _) | exact List.Mem.tail _ (List.Mem.tail _ (List.Mem.head _)) | exact List.Mem.tail _ (List.Mem.tail _ (List.Mem.tail _ (List.Mem.head _))) | exact List.Mem.tail _ (List.Mem.tail _ (List.Mem.tail _ (List.Mem.tail _ (List.Mem.head _)))) | exact List.Mem.tail _ (List.Mem.tail _ (List.Mem.tail _ (List.Mem.tail _ (List.Mem.tail _ (List.Mem.head _))))) | exact List.Mem.tail _ (List.Mem.tail _ (List.Mem.tail _ (List.Mem.tail _ (List.Mem.tail _ (List.Mem.tail _ (List.Mem.head _))))))) ?_) | (refine' Olds.keep (by with_reducible assumption) ?_) | (refine' Olds.keep (off_low (by with_reducible assumption) (by assumption) (by assumption) (by assumption) (by assumption) (by assumption) (by assumption)) ?_) | (refine' Olds.keep (off_high (by omega) (by assumption) (by assumption) (by assumption) (by assumption) (by assumption) (by assumption)) ?_) | refine' Olds.drop ?_)) (by assumption) (by assumption) (by assumption) (by assumption) (by assumption) (by assumption) (by assumption) (by assumption) (by first | decide | size_fits) (fun _ => on_reset_closing (by assumption)) (fun _ => rfl) (by k_asm) (by first | exact rfl | assumption) (by ktr_room) (by ktr_units) ?_) | (refine' take_reset_use (by k_asm) (by k_asm) (by k_asm) (by k_asm) (by exact SubL.mem (by k_subL)) (by repeat' (first | exact Olds.nil | (refine' Olds.skip (by with_reducible first | exact List.Mem.head _ | exact List.Mem.tail _ (List.Mem.head _) | exact List.Mem.tail _ (List.Mem.tail _ (List.Mem.head _)) | exact List.Mem.tail _ (List.Mem.tail _ (List.Mem.tail _ (List.Mem.head _))) | exact List.Mem.tail _ (List.Mem.tail _ (List.Mem.tail _ (List.Mem.tail _ (List.Mem.head _)))) | exact List.Mem.tail _ (List.Mem.tail _ (List.Mem.tail _ (List.Mem.tail _ (List.Mem.tail _ (List.Mem.head _))))) | exact List.Mem.tail _ (List.Mem.tail _ (List.Mem.tail _ (List.Mem.tail _ (List.Mem.tail _ (List.Mem.tail _ (List.Mem.head _))))))) ?_) | (refine' Olds.keep (by with_reducible assumption) ?_) | (refine' Olds.keep (off_low (by with_reducible assumption) (by assumption) (by assumption) (by assumption) (by assumption) (by assumption) (by assumption)) ?_) | (refine' Olds.keep (off_high (by omega) (by assumption) (by assumption) (by assumption) (by assumption) (by assumption) (by assumption)) ?_) | refine' Olds.drop ?_)) (by assumption) (by assumption) (by assumption) (by assumption) (by assumption) (by assumption) (by assumption) (by assumption) (by first | decide | size_fits) (fun _ => on_reset_draining (by assumption)) (fun _ => rfl) (by k_asm) (by first | exact rfl | assumption) (by ktr_room) (by ktr_units) ?_)); intro h' tk' x' a' t' y' F' N' hA'; (try k_fold)) | ((with_reducible show wpAny _ _ (call (Value.ref 225) [_, Value.str (Str.ofString "handshake") _, _, _]) _ _ _); k_dflt (refine' SpecN.use (packet_with_h _ _ _ _ _ _ _ _ _ _ _) (by k_asm) (by k_asm) (by k_asm) (by k_asm) (by first | exact List.forall_mem_nil _ | exact SubL.mem (by k_subL)) (by k_asm) (by first | exact rfl | assumption) (by ktr_room) (by ktr_units) ?_; intro a' ob' h' tk' F' N' hp'; obtain ⟨_, _, _, _, _, _, _, e9⟩ := hp'; subst e9; (try dsimp only)); (try k_fold)) | ((with_reducible show wpAny _ _ (call (Value.ref 225) [_, Value.str (Str.ofString "initial") _, _, _]) _ _ _); k_dflt (refine' SpecN.use (packet_with_i _ _ _ _ _ _ _ _ _ _ _) (by k_asm) (by k_asm) (by k_asm) (by k_asm) (by first | exact List.forall_mem_nil _ | exact SubL.mem (by k_subL)) (by k_asm) (by first | exact rfl | assumption) (by ktr_room) (by ktr_units) ?_; intro a' ob' h' tk' F' N' hp'; obtain ⟨_, _, _, _, _, _, _, _, _, e9, hz9⟩ := hp'; subst e9; (try dsimp only)); (try k_fold)) | ((with_reducible show wpAny _ _ (call (Value.ref 225) [_, Value.str (Str.ofString "application") _, _, _]) _ _ _); k_dflt (refine' SpecN.use (packet_with_s _ _ _ _ _ _ _ _ _ _ _) (by k_asm) (by k_asm) (by k_asm) (by k_asm) (by first | exact List.forall_mem_nil _ | exact SubL.mem (by k_subL)) (by k_asm) (by first | exact rfl | assumption) (by ktr_room) (by ktr_units) ?_; intro a' ob' h' tk' F' N' hp'; obtain ⟨_, _, _, _, _, _, _, e9⟩ := hp'; subst e9; (try dsimp only)); (try k_fold)) | ((with_reducible show wpAny _ _ (call (Value.ref 386) [Value.ref _, Value.int 50 _]) _ _ _); k_dflt (refine' SpecT.use take_50 (by k_asm) (by k_asm) (by k_asm) (by k_asm) (by intro t9; k_upd) (by k_mem) (by k_asm) (by exact rfl) (by ktr_room) (by ktr_units) (by first | assumption | omega) (by assumption) (by first | assumption | omega) (by first | decide | omega) (by first | decide | omega) ?_); intro n' tv' h' tk' t' F' N' hn0' hn1'; (try dsimp only); (try k_fold)) | ((with_reducible show wpAny _ _ (call (Value.ref 386) [Value.ref _, Value.int 6 _]) _ _ _); k_dflt (refine' SpecT.use take_6 (by k_asm) (by k_asm) (by k_asm) (by k_asm) (by intro t9; k_upd) (by k_mem) (by k_asm) (by exact rfl) (by ktr_room) (by ktr_units) (by first | assumption | omega) (by assumption) (by first | assumption | omega) (by first | decide | omega) (by first | decide | omega) ?_); intro n' tv' h' tk' t' F' N' hn0' hn1'; (try dsimp only); (try k_fold)) | ((with_reducible show wpAny _ _ (call (Value.ref 386) [Value.ref _, Value.int 4 _]) _ _ _); k_dflt (refine' SpecT.use take_4 (by k_asm) (by k_asm) (by k_asm) (by k_asm) (by intro t9; k_upd) (by k_mem) (by k_asm) (by exact rfl) (by ktr_room) (by ktr_units) (by first | assumption | omega) (by assumption) (by first | assumption | omega) (by first | decide | omega) (by first | decide | omega) ?_); intro n' tv' h' tk' t' F' N' hn0' hn1'; (try dsimp only); (try k_fold)) | ((with_reducible show wpAny _ _ (call (Value.ref 386) [Value.ref _, Value.int 21 _]) _ _ _); k_dflt (refine' SpecT.use take_21 (by k_asm) (by k_asm) (by k_asm) (by k_asm) (by intro t9; k_upd) (by k_mem) (by k_asm) (by exact rfl) (by ktr_room) (by ktr_units) (by first | assumption | omega) (by assumption) (by first | assumption | omega) (by first | decide | omega) (by first | decide | omega) ?_); intro n' tv' h' tk' t' F' N' hn0' hn1'; (try dsimp only); (try k_fold)) | ((with_reducible show wpAny _ _ (call (Value.ref 386) [Value.ref _, Value.int 3 _]) _ _ _); k_dflt (refine' SpecT.use take_3 (by k_asm) (by k_asm) (by k_asm) (by k_asm) (by intro t9; k_upd) (by k_mem) (by k_asm) (by exact rfl) (by ktr_room) (by ktr_units) (by first | assumption | omega) (by assumption) (by first | assumption | omega) (by first | decide | omega) (by first | decide | omega) ?_); intro n' tv' h' tk' t' F' N' hn0' hn1'; (try dsimp only); (try k_fold)) | ((with_reducible show wpAny _ _ (getMethod (Value.ref _) (PySem.Str.ofString "probe_wait") _) _ _ _); k_dflt (refine' kmu_own (by k_asm) (by k_asm) (by k_inst) (by k_is) (by k_is) ?_; k_whole)) | ((with_reducible first | refine call_snd ?_ | refine call_app ?_); (with_reducible show wpAny _ _ (call (Value.builtin _) [Value.ref _, _]) _ _ _); k_dflt (refine' append_K (by k_asm) (by k_asm) (by k_upd) ?_ (by size_fits); k_whole); intro h' F' N'; (try k_sweep)) | (with_reducible refine ne_int_eq (by omega) ?_) | (k_here; (with_reducible show wpAny _ _ (call (Value.ref 63) [Value.ref _, Value.int _ _, Value.int _ _]) _ _ _); k_dflt (refine wpAny_call ?_; k_enter)) | (k_here; (with_reducible show wpAny _ _ (call (Value.ref 56) [Value.ref _, Value.ref _, Value.int _ _, Value.int _ _]) _ _ _); k_dflt (refine wpAny_call ?_; k_enter)) | (k_here; (with_reducible show wpAny _ _ (call (Value.ref 98) [Value.ref _]) _ _ _); k_dflt (refine wpAny_call ?_; k_enter)) | (k_here; (with_reducible show wpAny _ _ (callWith _ (Value.ref 98, _).1 _ (backTo _ (starEach [] _)) []) _ _ _); k_dflt (refine' callWith_pair0 (by k_asm) (by k_asm) (by k_is) ?_)) | ((with_reducible show wpAny _ _ (execs _ _) _ _ (Shared.mk _ _ _ (HAdd.hAdd (HAdd.hAdd (HAdd.hAdd (HAdd.hAdd _ _) _) _) _) _)); refine gen_toks ?_; intro tk9) | ((with_reducible show wpAny _ _ (eval (PySem.Expr.Name _ _) _) _ _ _); k_here; k_dflt (first | (refine' nameX_L (by k_asm) (by rfl) ?_ (by rfl) (by rfl); k_whole) | (refine' nameX_K (by k_asm) (by k_asm) (by k_asm) (by k_is) ?_ (by rfl) (by rfl); k_whole))) | ((with_reducible show wpAny _ _ (callWith _ (Value.ref _) _ _ _) _ _ _); k_here; k_dflt (first | (refine' callWith_K (by k_asm) (by k_is) ?_; k_whole) | (refine' callWith_K0 (by exact Frag.In.keeps (by k_asm) (Fr.keep (by k_asm))) (by k_is) ?_; k_whole)))) | walk1 | (dsimp only; walk1) | (leave1; walk_say "STEP leave1"; try dsimp only) | fail "no step")
      all_goals (try dsimp only at *)
      all_goals k_dflt (refine' turnE ?F ?N ?S; (case F => k_asm); (case N => k_asm); (case S => exact SubL.mem (by k_subL)))
  clear F9 N9 l1 l2 hi hn hmr h0 h1 hsp hd1 he1 hav hb0 hb1 hod hms
  rintro s' ⟨h, tk, bx, lst, c, t, zc, vs, ns, mr, rfl, F9, N9, l1, l2, hi, hn, h0, h1⟩
  refine cutP (l1 := [_]) (At7 w (ghostOf s₁.heap [(392, 388)]) s₁.heap.objs.size s₁) ?_ ?_
  · refine wpP_any ?_
    (try k_fold)
    repeat' (first | (k_unfold; (try dsimp only)) | ((with_reducible show wpP _ _ _ _ _ _); first | ((with_reducible show wpP _ _ (call (Value.ref 218) [Value.ref _, Value.int _ _]) _ _ _); k_dflt (refine' SpecP.use (packet_size_h_int _ _ #[] _ _ _ _ _ _ _ _ _ _ 0 _ _ ?_ ?_ (by decide) ?_ ?_ ?_ ?_ ?_) (by k_asm) (by k_asm) (by k_asm) (by k_asm) (by first | exact List.forall_mem_nil _ | exact SubL.mem (by k_subL)) (by k_asm) (by first | exact rfl | assumption) (by ktr_room) (by ktr_units) ?_; (all_goals (first | decide | assumption | omega | skip)); intro v' h' tk' F' N' hv'; (rename OctOf _ _ _ => hv9; obtain ⟨o9, u9, e9, ho91, ho92, ho93⟩ := hv9; subst e9); (try dsimp only)); (try k_fold)) | ((with_reducible show wpP _ _ (call (Value.ref 218) [Value.ref _, Value.none]) _ _ _); k_dflt (refine' SpecP.use (packet_size_h_none _ _ #[] _ _ 0 _ _ _ _ _ _ _ 0 0 _ ?_ ?_ (by decide) ?_ ?_ ?_) (by k_asm) (by k_asm) (by k_asm) (by k_asm) (by first | exact List.forall_mem_nil _ | exact SubL.mem (by k_subL)) (by k_asm) (by first | exact rfl | assumption) (by ktr_room) (by ktr_units) ?_; (all_goals (first | decide | assumption | omega | skip)); intro v' h' tk' F' N' hv'; (rename OctOf _ _ _ => hv9; obtain ⟨o9, u9, e9, ho91, ho92, ho93⟩ := hv9; subst e9); (try dsimp only)); (try k_fold)) | ((with_reducible show wpP _ _ (call (Value.ref 218) [Value.ref _, Value.int _ _]) _ _ _); k_dflt (refine' SpecP.use (packet_size_i_int _ _ _ _ _ _ _ _ _ _ _ _ _ _ _ _ ?_ ?_ ?_ ?_ ?_ ?_ ?_ ?_) (by k_asm) (by k_asm) (by k_asm) (by k_asm) (by first | exact List.forall_mem_nil _ | exact SubL.mem (by k_subL)) (by k_asm) (by first | exact rfl | assumption) (by ktr_room) (by ktr_units) ?_; (all_goals (first | decide | assumption | omega | skip)); intro v' h' tk' F' N' hv'; (rename OctOf _ _ _ => hv9; obtain ⟨o9, u9, e9, ho91, ho92, ho93⟩ := hv9; subst e9); (try dsimp only)); (try k_fold)) | ((with_reducible show wpP _ _ (call (Value.ref 218) [Value.ref _, Value.none]) _ _ _); k_dflt (refine' SpecP.use (packet_size_i_none _ _ _ _ _ 0 _ _ _ _ _ _ _ _ 0 _ ?_ ?_ ?_ ?_ ?_ ?_) (by k_asm) (by k_asm) (by k_asm) (by k_asm) (by first | exact List.forall_mem_nil _ | exact SubL.mem (by k_subL)) (by k_asm) (by first | exact rfl | assumption) (by ktr_room) (by ktr_units) ?_; (all_goals (first | decide | assumption | omega | skip)); intro v' h' tk' F' N' hv'; (rename OctOf _ _ _ => hv9; obtain ⟨o9, u9, e9, ho91, ho92, ho93⟩ := hv9; subst e9); (try dsimp only)); (try k_fold)) | ((with_reducible show wpP _ _ (call (Value.ref 218) [Value.ref _, Value.int _ _]) _ _ _); k_dflt (refine' SpecP.use (packet_size_s_int _ #[] #[] _ _ _ _ _ _ _ _ _ _ 0 _ _ ?_ (by decide) (by decide) ?_ ?_ ?_ ?_ ?_) (by k_asm) (by k_asm) (by k_asm) (by k_asm) (by first | exact List.forall_mem_nil _ | exact SubL.mem (by k_subL)) (by k_asm) (by first | exact rfl | assumption) (by ktr_room) (by ktr_units) ?_; (all_goals (first | decide | assumption | omega | skip)); intro v' h' tk' F' N' hv'; (rename OctOf _ _ _ => hv9; obtain ⟨o9, u9, e9, ho91, ho92, ho93⟩ := hv9; subst e9); (try dsimp only)); (try k_fold)) | ((with_reducible show wpP _ _ (call (Value.ref 218) [Value.ref _, Value.none]) _ _ _); k_dflt (refine' SpecP.use (packet_size_s_none _ #[] #[] _ _ 0 _ _ _ _ _ _ _ 0 0 _ ?_ (by decide) (by decide) ?_ ?_ ?_) (by k_asm) (by k_asm) (by k_asm) (by k_asm) (by first | exact List.forall_mem_nil _ | exact SubL.mem (by k_subL)) (by k_asm) (by first | exact rfl | assumption) (by ktr_room) (by ktr_units) ?_; (all_goals (first | decide | assumption | omega | skip)); intro v' h' tk' F' N' hv'; (rename OctOf _ _ _ => hv9; obtain ⟨o9, u9, e9, ho91, ho92, ho93⟩ := hv9; subst e9); (try dsimp only)); (try k_fold)) | ((with_reducible show wpP _ _ (exec (Stmt.If (PySem.Expr.UnaryOp UnaryOp.Not (PySem.Expr.Compare _ [_, _] [_, _] _) _) _ _ _) _) _ _ _); k_dflt (refine' wpP_IfNotChain (by with_unfolding_all rfl) ?_)) | ((with_reducible show wpP _ _ (call (Value.ref 232) [_, _, Value.str (Str.ofString "handshake") _]) _ _ _); k_dflt (refine' SpecPW.use (head_octets_h_int _ _ _ _ _ _ _ _ _ _ _ _ _ _ _ _ ?_ ?_ ?_ ?_ ?_ ?_ ?_ ?_) (by k_asm) (by k_asm) (by k_asm) (by k_asm) (by first | exact List.forall_mem_nil _ | exact SubL.mem (by k_subL)) (by k_asm) (by first | exact rfl | assumption) (by ktr_room) (by ktr_units) ?_; (all_goals (first | assumption | decide | assumption | omega | skip)); intro v' h' tk' F' N' hv'; (rename IntOf _ _ => hv9; obtain ⟨u9, e9⟩ := hv9; subst e9); (try dsimp only)); (try k_fold)) | ((with_reducible show wpP _ _ (call (Value.ref 232) [_, _, Value.str (Str.ofString "handshake") _]) _ _ _); k_dflt (refine' SpecPW.use (head_octets_h_none _ _ _ _ _ _ _ _ 0 _ _ _ 0 _ _ _ ?_ ?_ ?_ ?_ ?_ ?_) (by k_asm) (by k_asm) (by k_asm) (by k_asm) (by first | exact List.forall_mem_nil _ | exact SubL.mem (by k_subL)) (by k_asm) (by first | exact rfl | assumption) (by ktr_room) (by ktr_units) ?_; (all_goals (first | assumption | decide | assumption | omega | skip)); intro v' h' tk' F' N' hv'; (rename IntOf _ _ => hv9; obtain ⟨u9, e9⟩ := hv9; subst e9); (try dsimp only)); (try k_fold)) | ((with_reducible show wpP _ _ (call (Value.ref 232) [_, _, Value.str (Str.ofString "initial") _]) _ _ _); k_dflt (refine' SpecPW.use (head_octets_i_int _ _ _ _ _ _ _ _ _ _ _ _ _ _ _ _ ?_ ?_ ?_ ?_ ?_ ?_ ?_ ?_) (by k_asm) (by k_asm) (by k_asm) (by k_asm) (by first | exact List.forall_mem_nil _ | exact SubL.mem (by k_subL)) (by k_asm) (by first | exact rfl | assumption) (by ktr_room) (by ktr_units) ?_; (all_goals (first | assumption | decide | assumption | omega | skip)); intro v' h' tk' F' N' hv'; (rename IntOf _ _ => hv9; obtain ⟨u9, e9⟩ := hv9; subst e9); (try dsimp only)); (try k_fold)) | ((with_reducible show wpP _ _ (call (Value.ref 232) [_, _, Value.str (Str.ofString "initial") _]) _ _ _); k_dflt (refine' SpecPW.use (head_octets_i_none _ _ _ _ _ _ _ _ 0 _ _ _ 0 _ _ _ ?_ ?_ ?_ ?_ ?_ ?_) (by k_asm) (by k_asm) (by k_asm) (by k_asm) (by first | exact List.forall_mem_nil _ | exact SubL.mem (by k_subL)) (by k_asm) (by first | exact rfl | assumption) (by ktr_room) (by ktr_units) ?_; (all_goals (first | assumption | decide | assumption | omega | skip)); intro v' h' tk' F' N' hv'; (rename IntOf _ _ => hv9; obtain ⟨u9, e9⟩ := hv9; subst e9); (try dsimp only)); (try k_fold)) | ((with_reducible show wpP _ _ (call (Value.ref 232) [_, _, Value.str (Str.ofString "application") _]) _ _ _); k_dflt (refine' SpecPW.use (head_octets_s_int _ _ _ _ _ _ _ _ _ _ _ _ _ _ _ _ ?_ ?_ ?_ ?_ ?_ ?_ ?_ ?_) (by k_asm) (by k_asm) (by k_asm) (by k_asm) (by first | exact List.forall_mem_nil _ | exact SubL.mem (by k_subL)) (by k_asm) (by first | exact rfl | assumption) (by ktr_room) (by ktr_units) ?_; (all_goals (first | assumption | decide | assumption | omega | skip)); intro v' h' tk' F' N' hv'; (rename IntOf _ _ => hv9; obtain ⟨u9, e9⟩ := hv9; subst e9); (try dsimp only)); (try k_fold)) | ((with_reducible show wpP _ _ (call (Value.ref 232) [_, _, Value.str (Str.ofString "application") _]) _ _ _); k_dflt (refine' SpecPW.use (head_octets_s_none _ _ _ _ _ _ _ _ 0 _ _ _ 0 _ _ _ ?_ ?_ ?_ ?_ ?_ ?_) (by k_asm) (by k_asm) (by k_asm) (by k_asm) (by first | exact List.forall_mem_nil _ | exact SubL.mem (by k_subL)) (by k_asm) (by first | exact rfl | assumption) (by ktr_room) (by ktr_units) ?_; (all_goals (first | assumption | decide | assumption | omega | skip)); intro v' h' tk' F' N' hv'; (rename IntOf _ _ => hv9; obtain ⟨u9, e9⟩ := hv9; subst e9); (try dsimp only)); (try k_fold)) | walk1) | ((with_reducible show GoodW _ _ _ _ _ (Except.ok (Flow.ret (Value.bool true))) _ ∧ GrownAll _ _); with_reducible refine' good_end (by with_reducible assumption) (by with_reducible assumption) ?_) | (k_end; wrow_close) | ((with_reducible show wpAny _ _ _ _ _ _); first | ((with_reducible show wpAny _ _ (call (Value.ref 28) [_, _]) _ _ _); k_dflt (first | (refine' take_reset_use (by k_asm) (by k_asm) (by k_asm) (by k_asm) (by exact SubL.mem (by k_subL)) (by repeat' (first | exact Olds.nil | (refine' Olds.skip (by with_reducible first | exact List.Mem.head _ | exact List.Mem.tail _ (List.Mem.head _) | exact List.Mem.tail _ (List.Mem.tail _ (List.Mem.head _)) | exact List.Mem.tail _ (List.Mem.tail _ (List.Mem.tail _ (List.Mem.head _))) | exact List.Mem.tail _ (List.Mem.tail _ (List.Mem.tail _ (List.Mem.tail _ (List.Mem.head _)))) | exact List.Mem.tail _ (List.Mem.tail _ (List.Mem.tail _ (List.Mem.tail _ (List.Mem.tail _ (List.Mem.head _))))) | exact List.Mem.tail _ (List.Mem.tail _ (List.Mem.tail _ (List.Mem.tail _ (List.Mem.tail _ (List.Mem.tail _ (List.Mem.head _))))))) ?_) | (refine' Olds.keep (by with_reducible assumption) ?_) | (refine' Olds.keep (off_low (by with_reducible assumption) (by assumption) (by assumption) (by assumption) (by assumption) (by assumption) (by assumption)) ?_) | (refine' Olds.keep (off_high (by omega) (by assumption) (by assumption) (by assumption) (by assumption) (by assumption) (by assumption)) ?_) | refine' Olds.drop ?_)) (by assumption) (by assumption) (by assumption) (by assumption) (by assumption) (by assumption) (by assumption) (by assumption) (by first | decide | size_fits) (fun _ => on_reset_open (by assumption)) (fun _ => rfl) (by k_asm) (by first | exact rfl | assumption) (by ktr_room) (by ktr_units) ?_) | (refine' take_reset_use (by k_asm) (by k_asm) (by k_asm) (by k_asm) (by exact SubL.mem (by k_subL)) (by repeat' (first | exact Olds.nil | (refine' Olds.skip (by with_reducible first | exact List.Mem.head _ | exact List.Mem.tail _ (List.Mem.head _) | exact List.Mem.tail _ (List.Mem.tail _ (List.Mem.head _)) | exact List.Mem.tail _ (List.Mem.tail _ (List.Mem.tail _ (List.Mem.head _))) | exact List.Mem.tail _ (List.Mem.tail _ (List.Mem.tail _ (List.Mem.tail _ (List.Mem.head _)))) | exact List.Mem.tail _ (List.Mem.tail _ (List.Mem.tail _ (List.Mem.tail _ (List.Mem.tail _ (List.Mem.head _))))) | exact List.Mem.tail _ (List.Mem.tail _ (List.Mem.tail _ (List.Mem.tail _ (List.Mem.tail _ (List.Mem.tail _ (List.Mem.head _))))))) ?_) | (refine' Olds.keep (by with_reducible assumption) ?_) | (refine' Olds.keep (off_low (by with_reducible assumption) (by assumption) (by assumption) (by assumption) (by assumption) (by assumption) (by assumption)) ?_) | (refine' Olds.keep (off_high (by omega) (by assumption) (by assumption) (by assumption) (by assumption) (by assumption) (by assumption)) ?_) | refine' Olds.drop ?_)) (by assumption) (by assumption) (by assumption) (by assumption) (by assumption) (by assumption) (by assumption) (by assumption) (by first | decide | size_fits) (fun _ => on_reset_closing (by assumption)) (fun _ => rfl) (by k_asm) (by first | exact rfl | assumption) (by ktr_room) (by ktr_units) ?_) | (refine' take_reset_use (by k_asm) (by k_asm) (by k_asm) (by k_asm) (by exact SubL.mem (by k_subL)) (by repeat' (first | exact Olds.nil | (refine' Olds.skip (by with_reducible first | exact List.Mem.head _ | exact List.Mem.tail _ (List.Mem.head _) | exact List.Mem.tail _ (List.Mem.tail _ (List.Mem.head _)) | exact List.Mem.tail _ (List.Mem.tail _ (List.Mem.tail _ (List.Mem.head _))) | exact List.Mem.tail _ (List.Mem.tail _ (List.Mem.tail _ (List.Mem.tail _ (List.Mem.head _)))) | exact List.Mem.tail _ (List.Mem.tail _ (List.Mem.tail _ (List.Mem.tail _ (List.Mem.tail _ (List.Mem.head _))))) | exact List.Mem.tail _ (List.Mem.tail _ (List.Mem.tail _ (List.Mem.tail _ (List.Mem.tail _ (List.Mem.tail _ (List.Mem.head _))))))) ?_) | (refine' Olds.keep (by with_reducible assumption) ?_) | (refine' Olds.keep (off_low (by with_reducible assumption) (by assumption) (by assumption) (by assumption) (by assumption) (by assumption) (by assumption)) ?_) | (refine' Olds.keep (off_high (by omega) (by assumption) (by assumption) (by assumption) (by assumption) (by assumption) (by assumption)) ?_) | refine' Olds.drop ?_)) (by assumption) (by assumption) (by assumption) (by assumption) (by assumption) (by assumption) (by assumption) (by assumption) (by first | decide | size_fits) (fun _ => on_reset_draining (by assumption)) (fun _ => rfl) (by k_asm) (by first | exact rfl | assumption) (by ktr_room) (by ktr_units) ?_)); intro h' tk' x' a' t' y' F' N' hA'; (try k_fold)) | ((with_reducible show wpAny _ _ (call (Value.ref 225) [_, Value.str (Str.ofString "handshake") _, _, _]) _ _ _); k_dflt (refine' SpecN.use (packet_with_h _ _ _ _ _ _ _ _ _ _ _) (by k_asm) (by k_asm) (by k_asm) (by k_asm) (by first | exact List.forall_mem_nil _ | exact SubL.mem (by k_subL)) (by k_asm) (by first | exact rfl | assumption) (by ktr_room) (by ktr_units) ?_; intro a' ob' h' tk' F' N' hp'; obtain ⟨_, _, _, _, _, _, _, e9⟩ := hp'; subst e9; (try dsimp only)); (try k_fold)) | ((with_reducible show wpAny _ _ (call (Value.ref 225) [_, Value.str (Str.ofString "initial") _, _, _]) _ _ _); k_dflt (refine' SpecN.use (packet_with_i _ _ _ _ _ _ _ _ _ _ _) (by k_asm) (by k_asm) (by k_asm) (by k_asm) (by first | exact List.forall_mem_nil _ | exact SubL.mem (by k_subL)) (by k_asm) (by first | exact rfl | assumption) (by ktr_room) (by ktr_units) ?_; intro a' ob' h' tk' F' N' hp'; obtain ⟨_, _, _, _, _, _, _, _, _, e9, hz9⟩ := hp'; subst e9; (try dsimp only)); (try k_fold)) | ((with_reducible show wpAny _ _ (call (Value.ref 225) [_, Value.str (Str.ofString "application") _, _, _]) _ _ _); k_dflt (refine' SpecN.use (packet_with_s _ _ _ _ _ _ _ _ _ _ _) (by k_asm) (by k_asm) (by k_asm) (by k_asm) (by first | exact List.forall_mem_nil _ | exact SubL.mem (by k_subL)) (by k_asm) (by first | exact rfl | assumption) (by ktr_room) (by ktr_units) ?_; intro a' ob' h' tk' F' N' hp'; obtain ⟨_, _, _, _, _, _, _, e9⟩ := hp'; subst e9; (try dsimp only)); (try k_fold)) | ((with_reducible show wpAny _ _ (call (Value.ref 386) [Value.ref _, Value.int 50 _]) _ _ _); k_dflt (refine' SpecT.use take_50 (by k_asm) (by k_asm) (by k_asm) (by k_asm) (by intro t9; k_upd) (by k_mem) (by k_asm) (by exact rfl) (by ktr_room) (by ktr_units) (by first | assumption | omega) (by assumption) (by first | assumption | omega) (by first | decide | omega) (by first | decide | omega) ?_); intro n' tv' h' tk' t' F' N' hn0' hn1'; (try dsimp only); (try k_fold)) | ((with_reducible show wpAny _ _ (call (Value.ref 386) [Value.ref _, Value.int 6 _]) _ _ _); k_dflt (refine' SpecT.use take_6 (by k_asm) (by k_asm) (by k_asm) (by k_asm) (by intro t9; k_upd) (by k_mem) (by k_asm) (by exact rfl) (by ktr_room) (by ktr_units) (by first | assumption | omega) (by assumption) (by first | assumption | omega) (by first | decide | omega) (by first | decide | omega) ?_); intro n' tv' h' tk' t' F' N' hn0' hn1'; (try dsimp only); (try k_fold)) | ((with_reducible show wpAny _ _ (call (Value.ref 386) [Value.ref _, Value.int 4 _]) _ _ _); k_dflt (refine' SpecT.use take_4 (by k_asm) (by k_asm) (by k_asm) (by k_asm) (by intro t9; k_upd) (by k_mem) (by k_asm) (by exact rfl) (by ktr_room) (by ktr_units) (by first | assumption | omega) (by assumption) (by first | assumption | omega) (by first | decide | omega) (by first | decide | omega) ?_); intro n' tv' h' tk' t' F' N' hn0' hn1'; (try dsimp only); (try k_fold)) | ((with_reducible show wpAny _ _ (call (Value.ref 386) [Value.ref _, Value.int 21 _]) _ _ _); k_dflt (refine' SpecT.use take_21 (by k_asm) (by k_asm) (by k_asm) (by k_asm) (by intro t9; k_upd) (by k_mem) (by k_asm) (by exact rfl) (by ktr_room) (by ktr_units) (by first | assumption | omega) (by assumption) (by first | assumption | omega) (by first | decide | omega) (by first | decide | omega) ?_); intro n' tv' h' tk' t' F' N' hn0' hn1'; (try dsimp only); (try k_fold)) | ((with_reducible show wpAny _ _ (call (Value.ref 386) [Value.ref _, Value.int 3 _]) _ _ _); k_dflt (refine' SpecT.use take_3 (by k_asm) (by k_asm) (by k_asm) (by k_asm) (by intro t9; k_upd) (by k_mem) (by k_asm) (by exact rfl) (by ktr_room) (by ktr_units) (by first | assumption | omega) (by assumption) (by first | assumption | omega) (by first | decide | omega) (by first | decide | omega) ?_); intro n' tv' h' tk' t' F' N' hn0' hn1'; (try dsimp only); (try k_fold)) | ((with_reducible show wpAny _ _ (getMethod (Value.ref _) (PySem.Str.ofString "probe_wait") _) _ _ _); k_dflt (refine' kmu_own (by k_asm) (by k_asm) (by k_inst) (by k_is) (by k_is) ?_; k_whole)) | ((with_reducible first | refine call_snd ?_ | refine call_app ?_); (with_reducible show wpAny _ _ (call (Value.builtin _) [Value.ref _, _]) _ _ _); k_dflt (refine' append_K (by k_asm) (by k_asm) (by k_upd) ?_ (by size_fits); k_whole); intro h' F' N'; (try k_sweep)) | (with_reducible refine ne_int_eq (by omega) ?_) | (k_here; (with_reducible show wpAny _ _ (call (Value.ref 63) [Value.ref _, Value.int _ _, Value.int _ _]) _ _ _); k_dflt (refine wpAny_call ?_; k_enter)) | (k_here; (with_reducible show wpAny _ _ (call (Value.ref 56) [Value.ref _, Value.ref _, Value.int _ _, Value.int _ _]) _ _ _); k_dflt (refine wpAny_call ?_; k_enter)) | (k_here; (with_reducible show wpAny _ _ (call (Value.ref 98) [Value.ref _]) _ _ _); k_dflt (refine wpAny_call ?_; k_enter)) | (k_here; (with_reducible show wpAny _ _ (callWith _ (Value.ref 98, _).1 _ (backTo _ (starEach [] _)) []) _ _ _); k_dflt (refine' callWith_pair0 (by k_asm) (by k_asm) (by k_is) ?_)) | ((with_reducible show wpAny _ _ (execs _ _) _ _ (Shared.mk _ _ _ (HAdd.hAdd (HAdd.hAdd (HAdd.hAdd (HAdd.hAdd _ _) _) _) _) _)); refine gen_toks ?_; intro tk9) | ((with_reducible show wpAny _ _ (eval (PySem.Expr.Name _ _) _) _ _ _); k_here; k_dflt (first | (refine' nameX_L (by k_asm) (by rfl) ?_ (by rfl) (by rfl); k_whole) | (refine' nameX_K (by k_asm) (by k_asm) (by k_asm) (by k_is) ?_ (by rfl) (by rfl); k_whole))) | ((with_reducible show wpAny _ _ (callWith _ (Value.ref _) _ _ _) _ _ _); k_here; k_dflt (first | (refine' callWith_K (by k_asm) (by k_is) ?_; k_whole) | (refine' callWith_K0 (by exact Frag.In.keeps (by k_asm) (Fr.keep (by k_asm))) (by k_is) ?_; k_whole)))) | walk1 | (dsimp only; walk1) | (leave1; walk_say "STEP leave1"; try dsimp only) | fail "no step")
    k_dflt (refine' At7.mk ?F ?N ?S ?l1 ?l2 ?h0 ?h1 ?h2 ?h3; (case F => k_asm); (case N => k_asm); (case S => exact SubL.mem (by k_subL)); (case l1 => omega); (case l2 => omega); (case h0 => omega); (case h1 => omega); (case h2 => omega); (case h3 => omega))
  clear F9 N9 l1 l2 hi hn h0 h1
  refine At7.elim (P := fun s' => wpP _ _ _ _ _ s') ?_
  intro h tk ca da f n tf tn mr t1 t2 t3 t4 t5 t6 t7 t8 t9 t10 t11 t12 t13 t14 t15 t16 t17 v1 v2 v3 v4 v5 v6 v7 v8 v9 v10 v11 v12 v13 v14 v15 v16 v17 F9 N9 l1 l2 h0 h1 h2 h3
  show wpP _ _ _ _ _ _
  refine cutP (l1 := [_]) (At8 w (ghostOf s₁.heap [(392, 388)]) s₁.heap.objs.size s₁) ?_ ?_
  · refine wpP_any ?_
    (try k_fold)
    repeat' (first | (k_unfold; (try dsimp only)) | ((with_reducible show wpP _ _ _ _ _ _); first | ((with_reducible show wpP _ _ (call (Value.ref 218) [Value.ref _, Value.int _ _]) _ _ _); k_dflt (refine' SpecP.use (packet_size_h_int _ _ #[] _ _ _ _ _ _ _ _ _ _ 0 _ _ ?_ ?_ (by decide) ?_ ?_ ?_ ?_ ?_) (by k_asm) (by k_asm) (by k_asm) (by k_asm) (by first | exact List.forall_mem_nil _ | exact SubL.mem (by k_subL)) (by k_asm) (by first | exact rfl | assumption) (by ktr_room) (by ktr_units) ?_; (all_goals (first | decide | assumption | omega | skip)); intro v' h' tk' F' N' hv'; (rename OctOf _ _ _ => hv9; obtain ⟨o9, u9, e9, ho91, ho92, ho93⟩ := hv9; subst e9); (try dsimp only)); (try k_fold)) | ((with_reducible show wpP _ _ (call (Value.ref 218) [Value.ref _, Value.none]) _ _ _); k_dflt (refine' SpecP.use (packet_size_h_none _ _ #[] _ _ 0 _ _ _ _ _ _ _ 0 0 _ ?_ ?_ (by decide) ?_ ?_ ?_) (by k_asm) (by k_asm) (by k_asm) (by k_asm) (by first | exact List.forall_mem_nil _ | exact SubL.mem (by k_subL)) (by k_asm) (by first | exact rfl | assumption) (by ktr_room) (by ktr_units) ?_; (all_goals (first | decide | assumption | omega | skip)); intro v' h' tk' F' N' hv'; (rename OctOf _ _ _ => hv9; obtain ⟨o9, u9, e9, ho91, ho92, ho93⟩ := hv9; subst e9); (try dsimp only)); (try k_fold)) | ((with_reducible show wpP _ _ (call (Value.ref 218) [Value.ref _, Value.int _ _]) _ _ _); k_dflt (refine' SpecP.use (packet_size_i_int _ _ _ _ _ _ _ _ _ _ _ _ _ _ _ _ ?_ ?_ ?_ ?_ ?_ ?_ ?_ ?_) (by k_asm) (by k_asm) (by k_asm) (by k_asm) (by first | exact List.forall_mem_nil _ | exact SubL.mem (by k_subL)) (by k_asm) (by first | exact rfl | assumption) (by ktr_room) (by ktr_units) ?_; (all_goals (first | decide | assumption | omega | skip)); intro v' h' tk' F' N' hv'; (rename OctOf _ _ _ => hv9; obtain ⟨o9, u9, e9, ho91, ho92, ho93⟩ := hv9; subst e9); (try dsimp only)); (try k_fold)) | ((with_reducible show wpP _ _ (call (Value.ref 218) [Value.ref _, Value.none]) _ _ _); k_dflt (refine' SpecP.use (packet_size_i_none _ _ _ _ _ 0 _ _ _ _ _ _ _ _ 0 _ ?_ ?_ ?_ ?_ ?_ ?_) (by k_asm) (by k_asm) (by k_asm) (by k_asm) (by first | exact List.forall_mem_nil _ | exact SubL.mem (by k_subL)) (by k_asm) (by first | exact rfl | assumption) (by ktr_room) (by ktr_units) ?_; (all_goals (first | decide | assumption | omega | skip)); intro v' h' tk' F' N' hv'; (rename OctOf _ _ _ => hv9; obtain ⟨o9, u9, e9, ho91, ho92, ho93⟩ := hv9; subst e9); (try dsimp only)); (try k_fold)) | ((with_reducible show wpP _ _ (call (Value.ref 218) [Value.ref _, Value.int _ _]) _ _ _); k_dflt (refine' SpecP.use (packet_size_s_int _ #[] #[] _ _ _ _ _ _ _ _ _ _ 0 _ _ ?_ (by decide) (by decide) ?_ ?_ ?_ ?_ ?_) (by k_asm) (by k_asm) (by k_asm) (by k_asm) (by first | exact List.forall_mem_nil _ | exact SubL.mem (by k_subL)) (by k_asm) (by first | exact rfl | assumption) (by ktr_room) (by ktr_units) ?_; (all_goals (first | decide | assumption | omega | skip)); intro v' h' tk' F' N' hv'; (rename OctOf _ _ _ => hv9; obtain ⟨o9, u9, e9, ho91, ho92, ho93⟩ := hv9; subst e9); (try dsimp only)); (try k_fold)) | ((with_reducible show wpP _ _ (call (Value.ref 218) [Value.ref _, Value.none]) _ _ _); k_dflt (refine' SpecP.use (packet_size_s_none _ #[] #[] _ _ 0 _ _ _ _ _ _ _ 0 0 _ ?_ (by decide) (by decide) ?_ ?_ ?_) (by k_asm) (by k_asm) (by k_asm) (by k_asm) (by first | exact List.forall_mem_nil _ | exact SubL.mem (by k_subL)) (by k_asm) (by first | exact rfl | assumption) (by ktr_room) (by ktr_units) ?_; (all_goals (first | decide | assumption | omega | skip)); intro v' h' tk' F' N' hv'; (rename OctOf _ _ _ => hv9; obtain ⟨o9, u9, e9, ho91, ho92, ho93⟩ := hv9; subst e9); (try dsimp only)); (try k_fold)) | ((with_reducible show wpP _ _ (exec (Stmt.If (PySem.Expr.UnaryOp UnaryOp.Not (PySem.Expr.Compare _ [_, _] [_, _] _) _) _ _ _) _) _ _ _); k_dflt (refine' wpP_IfNotChain (by with_unfolding_all rfl) ?_)) | ((with_reducible show wpP _ _ (call (Value.ref 232) [_, _, Value.str (Str.ofString "handshake") _]) _ _ _); k_dflt (refine' SpecPW.use (head_octets_h_int _ _ _ _ _ _ _ _ _ _ _ _ _ _ _ _ ?_ ?_ ?_ ?_ ?_ ?_ ?_ ?_) (by k_asm) (by k_asm) (by k_asm) (by k_asm) (by first | exact List.forall_mem_nil _ | exact SubL.mem (by k_subL)) (by k_asm) (by first | exact rfl | assumption) (by ktr_room) (by ktr_units) ?_; (all_goals (first | assumption | decide | assumption | omega | skip)); intro v' h' tk' F' N' hv'; (rename IntOf _ _ => hv9; obtain ⟨u9, e9⟩ := hv9; subst e9); (try dsimp only)); (try k_fold)) | ((with_reducible show wpP _ _ (call (Value.ref 232) [_, _, Value.str (Str.ofString "handshake") _]) _ _ _); k_dflt (refine' SpecPW.use (head_octets_h_none _ _ _ _ _ _ _ _ 0 _ _ _ 0 _ _ _ ?_ ?_ ?_ ?_ ?_ ?_) (by k_asm) (by k_asm) (by k_asm) (by k_asm) (by first | exact List.forall_mem_nil _ | exact SubL.mem (by k_subL)) (by k_asm) (by first | exact rfl | assumption) (by ktr_room) (by ktr_units) ?_; (all_goals (first | assumption | decide | assumption | omega | skip)); intro v' h' tk' F' N' hv'; (rename IntOf _ _ => hv9; obtain ⟨u9, e9⟩ := hv9; subst e9); (try dsimp only)); (try k_fold)) | ((with_reducible show wpP _ _ (call (Value.ref 232) [_, _, Value.str (Str.ofString "initial") _]) _ _ _); k_dflt (refine' SpecPW.use (head_octets_i_int _ _ _ _ _ _ _ _ _ _ _ _ _ _ _ _ ?_ ?_ ?_ ?_ ?_ ?_ ?_ ?_) (by k_asm) (by k_asm) (by k_asm) (by k_asm) (by first | exact List.forall_mem_nil _ | exact SubL.mem (by k_subL)) (by k_asm) (by first | exact rfl | assumption) (by ktr_room) (by ktr_units) ?_; (all_goals (first | assumption | decide | assumption | omega | skip)); intro v' h' tk' F' N' hv'; (rename IntOf _ _ => hv9; obtain ⟨u9, e9⟩ := hv9; subst e9); (try dsimp only)); (try k_fold)) | ((with_reducible show wpP _ _ (call (Value.ref 232) [_, _, Value.str (Str.ofString "initial") _]) _ _ _); k_dflt (refine' SpecPW.use (head_octets_i_none _ _ _ _ _ _ _ _ 0 _ _ _ 0 _ _ _ ?_ ?_ ?_ ?_ ?_ ?_) (by k_asm) (by k_asm) (by k_asm) (by k_asm) (by first | exact List.forall_mem_nil _ | exact SubL.mem (by k_subL)) (by k_asm) (by first | exact rfl | assumption) (by ktr_room) (by ktr_units) ?_; (all_goals (first | assumption | decide | assumption | omega | skip)); intro v' h' tk' F' N' hv'; (rename IntOf _ _ => hv9; obtain ⟨u9, e9⟩ := hv9; subst e9); (try dsimp only)); (try k_fold)) | ((with_reducible show wpP _ _ (call (Value.ref 232) [_, _, Value.str (Str.ofString "application") _]) _ _ _); k_dflt (refine' SpecPW.use (head_octets_s_int _ _ _ _ _ _ _ _ _ _ _ _ _ _ _ _ ?_ ?_ ?_ ?_ ?_ ?_ ?_ ?_) (by k_asm) (by k_asm) (by k_asm) (by k_asm) (by first | exact List.forall_mem_nil _ | exact SubL.mem (by k_subL)) (by k_asm) (by first | exact rfl | assumption) (by ktr_room) (by ktr_units) ?_; (all_goals (first | assumption | decide | assumption | omega | skip)); intro v' h' tk' F' N' hv'; (rename IntOf _ _ => hv9; obtain ⟨u9, e9⟩ := hv9; subst e9); (try dsimp only)); (try k_fold)) | ((with_reducible show wpP _ _ (call (Value.ref 232) [_, _, Value.str (Str.ofString "application") _]) _ _ _); k_dflt (refine' SpecPW.use (head_octets_s_none _ _ _ _ _ _ _ _ 0 _ _ _ 0 _ _ _ ?_ ?_ ?_ ?_ ?_ ?_) (by k_asm) (by k_asm) (by k_asm) (by k_asm) (by first | exact List.forall_mem_nil _ | exact SubL.mem (by k_subL)) (by k_asm) (by first | exact rfl | assumption) (by ktr_room) (by ktr_units) ?_; (all_goals (first | assumption | decide | assumption | omega | skip)); intro v' h' tk' F' N' hv'; (rename IntOf _ _ => hv9; obtain ⟨u9, e9⟩ := hv9; subst e9); (try dsimp only)); (try k_fold)) | walk1) | ((with_reducible show GoodW _ _ _ _ _ (Except.ok (Flow.ret (Value.bool true))) _ ∧ GrownAll _ _); with_reducible refine' good_end (by with_reducible assumption) (by with_reducible assumption) ?_) | (k_end; wrow_close) | ((with_reducible show wpAny _ _ _ _ _ _); first | ((with_reducible show wpAny _ _ (call (Value.ref 28) [_, _]) _ _ _); k_dflt (first | (refine' take_reset_use (by k_asm) (by k_asm) (by k_asm) (by k_asm) (by exact SubL.mem (by k_subL)) (by repeat' (first | exact Olds.nil | (refine' Olds.skip (by with_reducible first | exact List.Mem.head _ | exact List.Mem.tail _ (List.Mem.head _) | exact List.Mem.tail _ (List.Mem.tail _ (List.Mem.head _)) | exact List.Mem.tail _ (List.Mem.tail _ (List.Mem.tail _ (List.Mem.head _))) | exact List.Mem.tail _ (List.Mem.tail _ (List.Mem.tail _ (List.Mem.tail _ (List.Mem.head _)))) | exact List.Mem.tail _ (List.Mem.tail _ (List.Mem.tail _ (List.Mem.tail _ (List.Mem.tail _ (List.Mem.head _))))) | exact List.Mem.tail _ (List.Mem.tail _ (List.Mem.tail _ (List.Mem.tail _ (List.Mem.tail _ (List.Mem.tail _ (List.Mem.head _))))))) ?_) | (refine' Olds.keep (by with_reducible assumption) ?_) | (refine' Olds.keep (off_low (by with_reducible assumption) (by assumption) (by assumption) (by assumption) (by assumption) (by assumption) (by assumption)) ?_) | (refine' Olds.keep (off_high (by omega) (by assumption) (by assumption) (by assumption) (by assumption) (by assumption) (by assumption)) ?_) | refine' Olds.drop ?_)) (by assumption) (by assumption) (by assumption) (by assumption) (by assumption) (by assumption) (by assumption) (by assumption) (by first | decide | size_fits) (fun _ => on_reset_open (by assumption)) (fun _ => rfl) (by k_asm) (by first | exact rfl | assumption) (by ktr_room) (by ktr_units) ?_) | (refine' take_reset_use (by k_asm) (by k_asm) (by k_asm) (by k_asm) (by exact SubL.mem (by k_subL)) (by repeat' (first | exact Olds.nil | (refine' Olds.skip (by with_reducible first | exact List.Mem.head _ | exact List.Mem.tail _ (List.Mem.head _) | exact List.Mem.tail _ (List.Mem.tail _ (List.Mem.head _)) | exact List.Mem.tail _ (List.Mem.tail _ (List.Mem.tail _ (List.Mem.head _))) | exact List.Mem.tail _ (List.Mem.tail _ (List.Mem.tail _ (List.Mem.tail _ (List.Mem.head _)))) | exact List.Mem.tail _ (List.Mem.tail _ (List.Mem.tail _ (List.Mem.tail _ (List.Mem.tail _ (List.Mem.head _))))) | exact List.Mem.tail _ (List.Mem.tail _ (List.Mem.tail _ (List.Mem.tail _ (List.Mem.tail _ (List.Mem.tail _ (List.Mem.head _))))))) ?_) | (refine' Olds.keep (by with_reducible assumption) ?_) | (refine' Olds.keep (off_low (by with_reducible assumption) (by assumption) (by assumption) (by assumption) (by assumption) (by assumption) (by assumption)) ?_) | (refine' Olds.keep (off_high (by omega) (by assumption) (by assumption) (by assumption) (by assumption) (by assumption) (by assumption)) ?_) | refine' Olds.drop ?_)) (by assumption) (by assumption) (by assumption) (by assumption) (by assumption) (by assumption) (by assumption) (by assumption) (by first | decide | size_fits) (fun _ => on_reset_closing (by assumption)) (fun _ => rfl) (by k_asm) (by first | exact rfl | assumption) (by ktr_room) (by ktr_units) ?_) | (refine' take_reset_use (by k_asm) (by k_asm) (by k_asm) (by k_asm) (by exact SubL.mem (by k_subL)) (by repeat' (first | exact Olds.nil | (refine' Olds.skip (by with_reducible first | exact List.Mem.head _ | exact List.Mem.tail _ (List.Mem.head _) | exact List.Mem.tail _ (List.Mem.tail _ (List.Mem.head _)) | exact List.Mem.tail _ (List.Mem.tail _ (List.Mem.tail _ (List.Mem.head _))) | exact List.Mem.tail _ (List.Mem.tail _ (List.Mem.tail _ (List.Mem.tail _ (List.Mem.head _)))) | exact List.Mem.tail _ (List.Mem.tail _ (List.Mem.tail _ (List.Mem.tail _ (List.Mem.tail _ (List.Mem.head _))))) | exact List.Mem.tail _ (List.Mem.tail _ (List.Mem.tail _ (List.Mem.tail _ (List.Mem.tail _ (List.Mem.tail _ (List.Mem.head _))))))) ?_) | (refine' Olds.keep (by with_reducible assumption) ?_) | (refine' Olds.keep (off_low (by with_reducible assumption) (by assumption) (by assumption) (by assumption) (by assumption) (by assumption) (by assumption)) ?_) | (refine' Olds.keep (off_high (by omega) (by assumption) (by assumption) (by assumption) (by assumption) (by assumption) (by assumption)) ?_) | refine' Olds.drop ?_)) (by assumption) (by assumption) (by assumption) (by assumption) (by assumption) (by assumption) (by assumption) (by assumption) (by first | decide | size_fits) (fun _ => on_reset_draining (by assumption)) (fun _ => rfl) (by k_asm) (by first | exact rfl | assumption) (by ktr_room) (by ktr_units) ?_)); intro h' tk' x' a' t' y' F' N' hA'; (try k_fold)) | ((with_reducible show wpAny _ _ (call (Value.ref 225) [_, Value.str (Str.ofString "handshake") _, _, _]) _ _ _); k_dflt (refine' SpecN.use (packet_with_h _ _ _ _ _ _ _ _ _ _ _) (by k_asm) (by k_asm) (by k_asm) (by k_asm) (by first | exact List.forall_mem_nil _ | exact SubL.mem (by k_subL)) (by k_asm) (by first | exact rfl | assumption) (by ktr_room) (by ktr_units) ?_; intro a' ob' h' tk' F' N' hp'; obtain ⟨_, _, _, _, _, _, _, e9⟩ := hp'; subst e9; (try dsimp only)); (try k_fold)) | ((with_reducible show wpAny _ _ (call (Value.ref 225) [_, Value.str (Str.ofString "initial") _, _, _]) _ _ _); k_dflt (refine' SpecN.use (packet_with_i _ _ _ _ _ _ _ _ _ _ _) (by k_asm) (by k_asm) (by k_asm) (by k_asm) (by first | exact List.forall_mem_nil _ | exact SubL.mem (by k_subL)) (by k_asm) (by first | exact rfl | assumption) (by ktr_room) (by ktr_units) ?_; intro a' ob' h' tk' F' N' hp'; obtain ⟨_, _, _, _, _, _, _, _, _, e9, hz9⟩ := hp'; subst e9; (try dsimp only)); (try k_fold)) | ((with_reducible show wpAny _ _ (call (Value.ref 225) [_, Value.str (Str.ofString "application") _, _, _]) _ _ _); k_dflt (refine' SpecN.use (packet_with_s _ _ _ _ _ _ _ _ _ _ _) (by k_asm) (by k_asm) (by k_asm) (by k_asm) (by first | exact List.forall_mem_nil _ | exact SubL.mem (by k_subL)) (by k_asm) (by first | exact rfl | assumption) (by ktr_room) (by ktr_units) ?_; intro a' ob' h' tk' F' N' hp'; obtain ⟨_, _, _, _, _, _, _, e9⟩ := hp'; subst e9; (try dsimp only)); (try k_fold)) | ((with_reducible show wpAny _ _ (call (Value.ref 386) [Value.ref _, Value.int 50 _]) _ _ _); k_dflt (refine' SpecT.use take_50 (by k_asm) (by k_asm) (by k_asm) (by k_asm) (by intro t9; k_upd) (by k_mem) (by k_asm) (by exact rfl) (by ktr_room) (by ktr_units) (by first | assumption | omega) (by assumption) (by first | assumption | omega) (by first | decide | omega) (by first | decide | omega) ?_); intro n' tv' h' tk' t' F' N' hn0' hn1'; (try dsimp only); (try k_fold)) | ((with_reducible show wpAny _ _ (call (Value.ref 386) [Value.ref _, Value.int 6 _]) _ _ _); k_dflt (refine' SpecT.use take_6 (by k_asm) (by k_asm) (by k_asm) (by k_asm) (by intro t9; k_upd) (by k_mem) (by k_asm) (by exact rfl) (by ktr_room) (by ktr_units) (by first | assumption | omega) (by assumption) (by first | assumption | omega) (by first | decide | omega) (by first | decide | omega) ?_); intro n' tv' h' tk' t' F' N' hn0' hn1'; (try dsimp only); (try k_fold)) | ((with_reducible show wpAny _ _ (call (Value.ref 386) [Value.ref _, Value.int 4 _]) _ _ _); k_dflt (refine' SpecT.use take_4 (by k_asm) (by k_asm) (by k_asm) (by k_asm) (by intro t9; k_upd) (by k_mem) (by k_asm) (by exact rfl) (by ktr_room) (by ktr_units) (by first | assumption | omega) (by assumption) (by first | assumption | omega) (by first | decide | omega) (by first | decide | omega) ?_); intro n' tv' h' tk' t' F' N' hn0' hn1'; (try dsimp only); (try k_fold)) | ((with_reducible show wpAny _ _ (call (Value.ref 386) [Value.ref _, Value.int 21 _]) _ _ _); k_dflt (refine' SpecT.use take_21 (by k_asm) (by k_asm) (by k_asm) (by k_asm) (by intro t9; k_upd) (by k_mem) (by k_asm) (by exact rfl) (by ktr_room) (by ktr_units) (by first | assumption | omega) (by assumption) (by first | assumption | omega) (by first | decide | omega) (by first | decide | omega) ?_); intro n' tv' h' tk' t' F' N' hn0' hn1'; (try dsimp only); (try k_fold)) | ((with_reducible show wpAny _ _ (call (Value.ref 386) [Value.ref _, Value.int 3 _]) _ _ _); k_dflt (refine' SpecT.use take_3 (by k_asm) (by k_asm) (by k_asm) (by k_asm) (by intro t9; k_upd) (by k_mem) (by k_asm) (by exact rfl) (by ktr_room) (by ktr_units) (by first | assumption | omega) (by assumption) (by first | assumption | omega) (by first | decide | omega) (by first | decide | omega) ?_); intro n' tv' h' tk' t' F' N' hn0' hn1'; (try dsimp only); (try k_fold)) | ((with_reducible show wpAny _ _ (getMethod (Value.ref _) (PySem.Str.ofString "probe_wait") _) _ _ _); k_dflt (refine' kmu_own (by k_asm) (by k_asm) (by k_inst) (by k_is) (by k_is) ?_; k_whole)) | ((with_reducible first | refine call_snd ?_ | refine call_app ?_); (with_reducible show wpAny _ _ (call (Value.builtin _) [Value.ref _, _]) _ _ _); k_dflt (refine' append_K (by k_asm) (by k_asm) (by k_upd) ?_ (by size_fits); k_whole); intro h' F' N'; (try k_sweep)) | (with_reducible refine ne_int_eq (by omega) ?_) | (k_here; (with_reducible show wpAny _ _ (call (Value.ref 63) [Value.ref _, Value.int _ _, Value.int _ _]) _ _ _); k_dflt (refine wpAny_call ?_; k_enter)) | (k_here; (with_reducible show wpAny _ _ (call (Value.ref 56) [Value.ref _, Value.ref _, Value.int _ _, Value.int _ _]) _ _ _); k_dflt (refine wpAny_call ?_; k_enter)) | (k_here; (with_reducible show wpAny _ _ (call (Value.ref 98) [Value.ref _]) _ _ _); k_dflt (refine wpAny_call ?_; k_enter)) | (k_here; (with_reducible show wpAny _ _ (callWith _ (Value.ref 98, _).1 _ (backTo _ (starEach [] _)) []) _ _ _); k_dflt (refine' callWith_pair0 (by k_asm) (by k_asm) (by k_is) ?_)) | ((with_reducible show wpAny _ _ (execs _ _) _ _ (Shared.mk _ _ _ (HAdd.hAdd (HAdd.hAdd (HAdd.hAdd (HAdd.hAdd _ _) _) _) _) _)); refine gen_toks ?_; intro tk9) | ((with_reducible show wpAny _ _ (eval (PySem.Expr.Name _ _) _) _ _ _); k_here; k_dflt (first | (refine' nameX_L (by k_asm) (by rfl) ?_ (by rfl) (by rfl); k_whole) | (refine' nameX_K (by k_asm) (by k_asm) (by k_asm) (by k_is) ?_ (by rfl) (by rfl); k_whole))) | ((with_reducible show wpAny _ _ (callWith _ (Value.ref _) _ _ _) _ _ _); k_here; k_dflt (first | (refine' callWith_K (by k_asm) (by k_is) ?_; k_whole) | (refine' callWith_K0 (by exact Frag.In.keeps (by k_asm) (Fr.keep (by k_asm))) (by k_is) ?_; k_whole)))) | walk1 | (dsimp only; walk1) | (leave1; walk_say "STEP leave1"; try dsimp only) | fail "no step")
    k_dflt (refine' At8.mk ?F ?N ?S ?l1 ?l2 ?l3 ?l4 ?l5 ?l6 ?l7 ?h0 ?h1 ?h2 ?h3 ?h4 ?h5; (case F => k_asm); (case N => k_asm); (case S => exact SubL.mem (by k_subL)); (case l1 => omega); (case l2 => omega); (case l3 => omega); (case l4 => omega); (case l5 => omega); (case l6 => omega); (case l7 => omega); (case h0 => omega); (case h1 => omega); (case h2 => omega); (case h3 => omega); (case h4 => assumption); (case h5 => assumption))
  clear F9 N9 l1 l2 h0 h1 h2 h3
  refine At8.elim (P := fun s' => wpP _ _ _ _ _ s') ?_
  intro h tk ca da cla cda eva co lma f n tf tn mr t1 t2 t3 t4 t5 t6 t7 t8 t9 t10 t11 t12 t13 t14 t15 t16 t17 t18 t19 t20 t21 v1 v2 v3 v4 v5 v6 v7 v8 v9 v10 v11 v12 v13 v14 v15 v16 v17 c0 c1 c2 c3 c4 c5 tq u4 u5 pm ctv qual oc fs F9 N9 l1 l2 l3 l4 l5 l6 l7 h0 h1 h2 h3 h4 h5
  show wpP _ _ _ _ _ _
  obtain rfl | rfl | rfl : f = 0 ∨ f = 1 ∨ f = 2 := by omega
  all_goals clear h0 h1
  · refine wpP_any ?_
    (try k_fold)
    repeat' (first | (k_unfold; (try dsimp only)) | ((with_reducible show wpP _ _ _ _ _ _); first | ((with_reducible show wpP _ _ (call (Value.ref 218) [Value.ref _, Value.int _ _]) _ _ _); k_dflt (refine' SpecP.use (packet_size_h_int _ _ #[] _ _ _ _ _ _ _ _ _ _ 0 _ _ ?_ ?_ (by decide) ?_ ?_ ?_ ?_ ?_) (by k_asm) (by k_asm) (by k_asm) (by k_asm) (by first | exact List.forall_mem_nil _ | exact SubL.mem (by k_subL)) (by k_asm) (by first | exact rfl | assumption) (by ktr_room) (by ktr_units) ?_; (all_goals (first | decide | assumption | omega | skip)); intro v' h' tk' F' N' hv'; (rename OctOf _ _ _ => hv9; obtain ⟨o9, u9, e9, ho91, ho92, ho93⟩ := hv9; subst e9); (try dsimp only)); (try k_fold)) | ((with_reducible show wpP _ _ (call (Value.ref 218) [Value.ref _, Value.none]) _ _ _); k_dflt (refine' SpecP.use (packet_size_h_none _ _ #[] _ _ 0 _ _ _ _ _ _ _ 0 0 _ ?_ ?_ (by decide) ?_ ?_ ?_) (by k_asm) (by k_asm) (by k_asm) (by k_asm) (by first | exact List.forall_mem_nil _ | exact SubL.mem (by k_subL)) (by k_asm) (by first | exact rfl | assumption) (by ktr_room) (by ktr_units) ?_; (all_goals (first | decide | assumption | omega | skip)); intro v' h' tk' F' N' hv'; (rename OctOf _ _ _ => hv9; obtain ⟨o9, u9, e9, ho91, ho92, ho93⟩ := hv9; subst e9); (try dsimp only)); (try k_fold)) | ((with_reducible show wpP _ _ (call (Value.ref 218) [Value.ref _, Value.int _ _]) _ _ _); k_dflt (refine' SpecP.use (packet_size_i_int _ _ _ _ _ _ _ _ _ _ _ _ _ _ _ _ ?_ ?_ ?_ ?_ ?_ ?_ ?_ ?_) (by k_asm) (by k_asm) (by k_asm) (by k_asm) (by first | exact List.forall_mem_nil _ | exact SubL.mem (by k_subL)) (by k_asm) (by first | exact rfl | assumption) (by ktr_room) (by ktr_units) ?_; (all_goals (first | decide | assumption | omega | skip)); intro v' h' tk' F' N' hv'; (rename OctOf _ _ _ => hv9; obtain ⟨o9, u9, e9, ho91, ho92, ho93⟩ := hv9; subst e9); (try dsimp only)); (try k_fold)) | ((with_reducible show wpP _ _ (call (Value.ref 218) [Value.ref _, Value.none]) _ _ _); k_dflt (refine' SpecP.use (packet_size_i_none _ _ _ _ _ 0 _ _ _ _ _ _ _ _ 0 _ ?_ ?_ ?_ ?_ ?_ ?_) (by k_asm) (by k_asm) (by k_asm) (by k_asm) (by first | exact List.forall_mem_nil _ | exact SubL.mem (by k_subL)) (by k_asm) (by first | exact rfl | assumption) (by ktr_room) (by ktr_units) ?_; (all_goals (first | decide | assumption | omega | skip)); intro v' h' tk' F' N' hv'; (rename OctOf _ _ _ => hv9; obtain ⟨o9, u9, e9, ho91, ho92, ho93⟩ := hv9; subst e9); (try dsimp only)); (try k_fold)) | ((with_reducible show wpP _ _ (call (Value.ref 218) [Value.ref _, Value.int _ _]) _ _ _); k_dflt (refine' SpecP.use (packet_size_s_int _ #[] #[] _ _ _ _ _ _ _ _ _ _ 0 _ _ ?_ (by decide) (by decide) ?_ ?_ ?_ ?_ ?_) (by k_asm) (by k_asm) (by k_asm) (by k_asm) (by first | exact List.forall_mem_nil _ | exact SubL.mem (by k_subL)) (by k_asm) (by first | exact rfl | assumption) (by ktr_room) (by ktr_units) ?_; (all_goals (first | decide | assumption | omega | skip)); intro v' h' tk' F' N' hv'; (rename OctOf _ _ _ => hv9; obtain ⟨o9, u9, e9, ho91, ho92, ho93⟩ := hv9; subst e9); (try dsimp only)); (try k_fold)) | ((with_reducible show wpP _ _ (call (Value.ref 218) [Value.ref _, Value.none]) _ _ _); k_dflt (refine' SpecP.use (packet_size_s_none _ #[] #[] _ _ 0 _ _ _ _ _ _ _ 0 0 _ ?_ (by decide) (by decide) ?_ ?_ ?_) (by k_asm) (by k_asm) (by k_asm) (by k_asm) (by first | exact List.forall_mem_nil _ | exact SubL.mem (by k_subL)) (by k_asm) (by first | exact rfl | assumption) (by ktr_room) (by ktr_units) ?_; (all_goals (first | decide | assumption | omega | skip)); intro v' h' tk' F' N' hv'; (rename OctOf _ _ _ => hv9; obtain ⟨o9, u9, e9, ho91, ho92, ho93⟩ := hv9; subst e9); (try dsimp only)); (try k_fold)) | ((with_reducible show wpP _ _ (exec (Stmt.If (PySem.Expr.UnaryOp UnaryOp.Not (PySem.Expr.Compare _ [_, _] [_, _] _) _) _ _ _) _) _ _ _); k_dflt (refine' wpP_IfNotChain (by with_unfolding_all rfl) ?_)) | ((with_reducible show wpP _ _ (call (Value.ref 232) [_, _, Value.str (Str.ofString "handshake") _]) _ _ _); k_dflt (refine' SpecPW.use (head_octets_h_int _ _ _ _ _ _ _ _ _ _ _ _ _ _ _ _ ?_ ?_ ?_ ?_ ?_ ?_ ?_ ?_) (by k_asm) (by k_asm) (by k_asm) (by k_asm) (by first | exact List.forall_mem_nil _ | exact SubL.mem (by k_subL)) (by k_asm) (by first | exact rfl | assumption) (by ktr_room) (by ktr_units) ?_; (all_goals (first | assumption | decide | assumption | omega | skip)); intro v' h' tk' F' N' hv'; (rename IntOf _ _ => hv9; obtain ⟨u9, e9⟩ := hv9; subst e9); (try dsimp only)); (try k_fold)) | ((with_reducible show wpP _ _ (call (Value.ref 232) [_, _, Value.str (Str.ofString "handshake") _]) _ _ _); k_dflt (refine' SpecPW.use (head_octets_h_none _ _ _ _ _ _ _ _ 0 _ _ _ 0 _ _ _ ?_ ?_ ?_ ?_ ?_ ?_) (by k_asm) (by k_asm) (by k_asm) (by k_asm) (by first | exact List.forall_mem_nil _ | exact SubL.mem (by k_subL)) (by k_asm) (by first | exact rfl | assumption) (by ktr_room) (by ktr_units) ?_; (all_goals (first | assumption | decide | assumption | omega | skip)); intro v' h' tk' F' N' hv'; (rename IntOf _ _ => hv9; obtain ⟨u9, e9⟩ := hv9; subst e9); (try dsimp only)); (try k_fold)) | ((with_reducible show wpP _ _ (call (Value.ref 232) [_, _, Value.str (Str.ofString "initial") _]) _ _ _); k_dflt (refine' SpecPW.use (head_octets_i_int _ _ _ _ _ _ _ _ _ _ _ _ _ _ _ _ ?_ ?_ ?_ ?_ ?_ ?_ ?_ ?_) (by k_asm) (by k_asm) (by k_asm) (by k_asm) (by first | exact List.forall_mem_nil _ | exact SubL.mem (by k_subL)) (by k_asm) (by first | exact rfl | assumption) (by ktr_room) (by ktr_units) ?_; (all_goals (first | assumption | decide | assumption | omega | skip)); intro v' h' tk' F' N' hv'; (rename IntOf _ _ => hv9; obtain ⟨u9, e9⟩ := hv9; subst e9); (try dsimp only)); (try k_fold)) | ((with_reducible show wpP _ _ (call (Value.ref 232) [_, _, Value.str (Str.ofString "initial") _]) _ _ _); k_dflt (refine' SpecPW.use (head_octets_i_none _ _ _ _ _ _ _ _ 0 _ _ _ 0 _ _ _ ?_ ?_ ?_ ?_ ?_ ?_) (by k_asm) (by k_asm) (by k_asm) (by k_asm) (by first | exact List.forall_mem_nil _ | exact SubL.mem (by k_subL)) (by k_asm) (by first | exact rfl | assumption) (by ktr_room) (by ktr_units) ?_; (all_goals (first | assumption | decide | assumption | omega | skip)); intro v' h' tk' F' N' hv'; (rename IntOf _ _ => hv9; obtain ⟨u9, e9⟩ := hv9; subst e9); (try dsimp only)); (try k_fold)) | ((with_reducible show wpP _ _ (call (Value.ref 232) [_, _, Value.str (Str.ofString "application") _]) _ _ _); k_dflt (refine' SpecPW.use (head_octets_s_int _ _ _ _ _ _ _ _ _ _ _ _ _ _ _ _ ?_ ?_ ?_ ?_ ?_ ?_ ?_ ?_) (by k_asm) (by k_asm) (by k_asm) (by k_asm) (by first | exact List.forall_mem_nil _ | exact SubL.mem (by k_subL)) (by k_asm) (by first | exact rfl | assumption) (by ktr_room) (by ktr_units) ?_; (all_goals (first | assumption | decide | assumption | omega | skip)); intro v' h' tk' F' N' hv'; (rename IntOf _ _ => hv9; obtain ⟨u9, e9⟩ := hv9; subst e9); (try dsimp only)); (try k_fold)) | ((with_reducible show wpP _ _ (call (Value.ref 232) [_, _, Value.str (Str.ofString "application") _]) _ _ _); k_dflt (refine' SpecPW.use (head_octets_s_none _ _ _ _ _ _ _ _ 0 _ _ _ 0 _ _ _ ?_ ?_ ?_ ?_ ?_ ?_) (by k_asm) (by k_asm) (by k_asm) (by k_asm) (by first | exact List.forall_mem_nil _ | exact SubL.mem (by k_subL)) (by k_asm) (by first | exact rfl | assumption) (by ktr_room) (by ktr_units) ?_; (all_goals (first | assumption | decide | assumption | omega | skip)); intro v' h' tk' F' N' hv'; (rename IntOf _ _ => hv9; obtain ⟨u9, e9⟩ := hv9; subst e9); (try dsimp only)); (try k_fold)) | walk1) | ((with_reducible show GoodW _ _ _ _ _ (Except.ok (Flow.ret (Value.bool true))) _ ∧ GrownAll _ _); with_reducible refine' good_end (by with_reducible assumption) (by with_reducible assumption) ?_) | (k_end; wrow_close) | ((with_reducible show wpAny _ _ _ _ _ _); first | ((with_reducible show wpAny _ _ (call (Value.ref 28) [_, _]) _ _ _); k_dflt (first | (refine' take_reset_use (by k_asm) (by k_asm) (by k_asm) (by k_asm) (by exact SubL.mem (by k_subL)) (by repeat' (first | exact Olds.nil | (refine' Olds.skip (by with_reducible first | exact List.Mem.head _ | exact List.Mem.tail _ (List.Mem.head _) | exact List.Mem.tail _ (List.Mem.tail _ (List.Mem.head _)) | exact List.Mem.tail _ (List.Mem.tail _ (List.Mem.tail _ (List.Mem.head _))) | exact List.Mem.tail _ (List.Mem.tail _ (List.Mem.tail _ (List.Mem.tail _ (List.Mem.head _)))) | exact List.Mem.tail _ (List.Mem.tail _ (List.Mem.tail _ (List.Mem.tail _ (List.Mem.tail _ (List.Mem.head _))))) | exact List.Mem.tail _ (List.Mem.tail _ (List.Mem.tail _ (List.Mem.tail _ (List.Mem.tail _ (List.Mem.tail _ (List.Mem.head _))))))) ?_) | (refine' Olds.keep (by with_reducible assumption) ?_) | (refine' Olds.keep (off_low (by with_reducible assumption) (by assumption) (by assumption) (by assumption) (by assumption) (by assumption) (by assumption)) ?_) | (refine' Olds.keep (off_high (by omega) (by assumption) (by assumption) (by assumption) (by assumption) (by assumption) (by assumption)) ?_) | refine' Olds.drop ?_)) (by assumption) (by assumption) (by assumption) (by assumption) (by assumption) (by assumption) (by assumption) (by assumption) (by first | decide | size_fits) (fun _ => on_reset_open (by assumption)) (fun _ => rfl) (by k_asm) (by first | exact rfl | assumption) (by ktr_room) (by ktr_units) ?_) | (refine' take_reset_use (by k_asm) (by k_asm) (by k_asm) (by k_asm) (by exact SubL.mem (by k_subL)) (by repeat' (first | exact Olds.nil | (refine' Olds.skip (by with_reducible first | exact List.Mem.head _ | exact List.Mem.tail _ (List.Mem.head _) | exact List.Mem.tail _ (List.Mem.tail _ (List.Mem.head _)) | exact List.Mem.tail _ (List.Mem.tail _ (List.Mem.tail _ (List.Mem.head _))) | exact List.Mem.tail _ (List.Mem.tail _ (List.Mem.tail _ (List.Mem.tail _ (List.Mem.head _)))) | exact List.Mem.tail _ (List.Mem.tail _ (List.Mem.tail _ (List.Mem.tail _ (List.Mem.tail _ (List.Mem.head _))))) | exact List.Mem.tail _ (List.Mem.tail _ (List.Mem.tail _ (List.Mem.tail _ (List.Mem.tail _ (List.Mem.tail _ (List.Mem.head _))))))) ?_) | (refine' Olds.keep (by with_reducible assumption) ?_) | (refine' Olds.keep (off_low (by with_reducible assumption) (by assumption) (by assumption) (by assumption) (by assumption) (by assumption) (by assumption)) ?_) | (refine' Olds.keep (off_high (by omega) (by assumption) (by assumption) (by assumption) (by assumption) (by assumption) (by assumption)) ?_) | refine' Olds.drop ?_)) (by assumption) (by assumption) (by assumption) (by assumption) (by assumption) (by assumption) (by assumption) (by assumption) (by first | decide | size_fits) (fun _ => on_reset_closing (by assumption)) (fun _ => rfl) (by k_asm) (by first | exact rfl | assumption) (by ktr_room) (by ktr_units) ?_) | (refine' take_reset_use (by k_asm) (by k_asm) (by k_asm) (by k_asm) (by exact SubL.mem (by k_subL)) (by repeat' (first | exact Olds.nil | (refine' Olds.skip (by with_reducible first | exact List.Mem.head _ | exact List.Mem.tail _ (List.Mem.head _) | exact List.Mem.tail _ (List.Mem.tail _ (List.Mem.head _)) | exact List.Mem.tail _ (List.Mem.tail _ (List.Mem.tail _ (List.Mem.head _))) | exact List.Mem.tail _ (List.Mem.tail _ (List.Mem.tail _ (List.Mem.tail _ (List.Mem.head _)))) | exact List.Mem.tail _ (List.Mem.tail _ (List.Mem.tail _ (List.Mem.tail _ (List.Mem.tail _ (List.Mem.head _))))) | exact List.Mem.tail _ (List.Mem.tail _ (List.Mem.tail _ (List.Mem.tail _ (List.Mem.tail _ (List.Mem.tail _ (List.Mem.head _))))))) ?_) | (refine' Olds.keep (by with_reducible assumption) ?_) | (refine' Olds.keep (off_low (by with_reducible assumption) (by assumption) (by assumption) (by assumption) (by assumption) (by assumption) (by assumption)) ?_) | (refine' Olds.keep (off_high (by omega) (by assumption) (by assumption) (by assumption) (by assumption) (by assumption) (by assumption)) ?_) | refine' Olds.drop ?_)) (by assumption) (by assumption) (by assumption) (by assumption) (by assumption) (by assumption) (by assumption) (by assumption) (by first | decide | size_fits) (fun _ => on_reset_draining (by assumption)) (fun _ => rfl) (by k_asm) (by first | exact rfl | assumption) (by ktr_room) (by ktr_units) ?_)); intro h' tk' x' a' t' y' F' N' hA'; (try k_fold)) | ((with_reducible show wpAny _ _ (call (Value.ref 225) [_, Value.str (Str.ofString "handshake") _, _, _]) _ _ _); k_dflt (refine' SpecN.use (packet_with_h _ _ _ _ _ _ _ _ _ _ _) (by k_asm) (by k_asm) (by k_asm) (by k_asm) (by first | exact List.forall_mem_nil _ | exact SubL.mem (by k_subL)) (by k_asm) (by first | exact rfl | assumption) (by ktr_room) (by ktr_units) ?_; intro a' ob' h' tk' F' N' hp'; obtain ⟨_, _, _, _, _, _, _, e9⟩ := hp'; subst e9; (try dsimp only)); (try k_fold)) | ((with_reducible show wpAny _ _ (call (Value.ref 225) [_, Value.str (Str.ofString "initial") _, _, _]) _ _ _); k_dflt (refine' SpecN.use (packet_with_i _ _ _ _ _ _ _ _ _ _ _) (by k_asm) (by k_asm) (by k_asm) (by k_asm) (by first | exact List.forall_mem_nil _ | exact SubL.mem (by k_subL)) (by k_asm) (by first | exact rfl | assumption) (by ktr_room) (by ktr_units) ?_; intro a' ob' h' tk' F' N' hp'; obtain ⟨_, _, _, _, _, _, _, _, _, e9, hz9⟩ := hp'; subst e9; (try dsimp only)); (try k_fold)) | ((with_reducible show wpAny _ _ (call (Value.ref 225) [_, Value.str (Str.ofString "application") _, _, _]) _ _ _); k_dflt (refine' SpecN.use (packet_with_s _ _ _ _ _ _ _ _ _ _ _) (by k_asm) (by k_asm) (by k_asm) (by k_asm) (by first | exact List.forall_mem_nil _ | exact SubL.mem (by k_subL)) (by k_asm) (by first | exact rfl | assumption) (by ktr_room) (by ktr_units) ?_; intro a' ob' h' tk' F' N' hp'; obtain ⟨_, _, _, _, _, _, _, e9⟩ := hp'; subst e9; (try dsimp only)); (try k_fold)) | ((with_reducible show wpAny _ _ (call (Value.ref 386) [Value.ref _, Value.int 50 _]) _ _ _); k_dflt (refine' SpecT.use take_50 (by k_asm) (by k_asm) (by k_asm) (by k_asm) (by intro t9; k_upd) (by k_mem) (by k_asm) (by exact rfl) (by ktr_room) (by ktr_units) (by first | assumption | omega) (by assumption) (by first | assumption | omega) (by first | decide | omega) (by first | decide | omega) ?_); intro n' tv' h' tk' t' F' N' hn0' hn1'; (try dsimp only); (try k_fold)) | ((with_reducible show wpAny _ _ (call (Value.ref 386) [Value.ref _, Value.int 6 _]) _ _ _); k_dflt (refine' SpecT.use take_6 (by k_asm) (by k_asm) (by k_asm) (by k_asm) (by intro t9; k_upd) (by k_mem) (by k_asm) (by exact rfl) (by ktr_room) (by ktr_units) (by first | assumption | omega) (by assumption) (by first | assumption | omega) (by first | decide | omega) (by first | decide | omega) ?_); intro n' tv' h' tk' t' F' N' hn0' hn1'; (try dsimp only); (try k_fold)) | ((with_reducible show wpAny _ _ (call (Value.ref 386) [Value.ref _, Value.int 4 _]) _ _ _); k_dflt (refine' SpecT.use take_4 (by k_asm) (by k_asm) (by k_asm) (by k_asm) (by intro t9; k_upd) (by k_mem) (by k_asm) (by exact rfl) (by ktr_room) (by ktr_units) (by first | assumption | omega) (by assumption) (by first | assumption | omega) (by first | decide | omega) (by first | decide | omega) ?_); intro n' tv' h' tk' t' F' N' hn0' hn1'; (try dsimp only); (try k_fold)) | ((with_reducible show wpAny _ _ (call (Value.ref 386) [Value.ref _, Value.int 21 _]) _ _ _); k_dflt (refine' SpecT.use take_21 (by k_asm) (by k_asm) (by k_asm) (by k_asm) (by intro t9; k_upd) (by k_mem) (by k_asm) (by exact rfl) (by ktr_room) (by ktr_units) (by first | assumption | omega) (by assumption) (by first | assumption | omega) (by first | decide | omega) (by first | decide | omega) ?_); intro n' tv' h' tk' t' F' N' hn0' hn1'; (try dsimp only); (try k_fold)) | ((with_reducible show wpAny _ _ (call (Value.ref 386) [Value.ref _, Value.int 3 _]) _ _ _); k_dflt (refine' SpecT.use take_3 (by k_asm) (by k_asm) (by k_asm) (by k_asm) (by intro t9; k_upd) (by k_mem) (by k_asm) (by exact rfl) (by ktr_room) (by ktr_units) (by first | assumption | omega) (by assumption) (by first | assumption | omega) (by first | decide | omega) (by first | decide | omega) ?_); intro n' tv' h' tk' t' F' N' hn0' hn1'; (try dsimp only); (try k_fold)) | ((with_reducible show wpAny _ _ (getMethod (Value.ref _) (PySem.Str.ofString "probe_wait") _) _ _ _); k_dflt (refine' kmu_own (by k_asm) (by k_asm) (by k_inst) (by k_is) (by k_is) ?_; k_whole)) | ((with_reducible first | refine call_snd ?_ | refine call_app ?_); (with_reducible show wpAny _ _ (call (Value.builtin _) [Value.ref _, _]) _ _ _); k_dflt (refine' append_K (by k_asm) (by k_asm) (by k_upd) ?_ (by size_fits); k_whole); intro h' F' N'; (try k_sweep)) | (with_reducible refine ne_int_eq (by omega) ?_) | (k_here; (with_reducible show wpAny _ _ (call (Value.ref 63) [Value.ref _, Value.int _ _, Value.int _ _]) _ _ _); k_dflt (refine wpAny_call ?_; k_enter)) | (k_here; (with_reducible show wpAny _ _ (call (Value.ref 56) [Value.ref _, Value.ref _, Value.int _ _, Value.int _ _]) _ _ _); k_dflt (refine wpAny_call ?_; k_enter)) | (k_here; (with_reducible show wpAny _ _ (call (Value.ref 98) [Value.ref _]) _ _ _); k_dflt (refine wpAny_call ?_; k_enter)) | (k_here; (with_reducible show wpAny _ _ (callWith _ (Value.ref 98, _).1 _ (backTo _ (starEach [] _)) []) _ _ _); k_dflt (refine' callWith_pair0 (by k_asm) (by k_asm) (by k_is) ?_)) | ((with_reducible show wpAny _ _ (execs _ _) _ _ (Shared.mk _ _ _ (HAdd.hAdd (HAdd.hAdd (HAdd.hAdd (HAdd.hAdd _ _) _) _) _) _)); refine gen_toks ?_; intro tk9) | ((with_reducible show wpAny _ _ (eval (PySem.Expr.Name _ _) _) _ _ _); k_here; k_dflt (first | (refine' nameX_L (by k_asm) (by rfl) ?_ (by rfl) (by rfl); k_whole) | (refine' nameX_K (by k_asm) (by k_asm) (by k_asm) (by k_is) ?_ (by rfl) (by rfl); k_whole))) | ((with_reducible show wpAny _ _ (callWith _ (Value.ref _) _ _ _) _ _ _); k_here; k_dflt (first | (refine' callWith_K (by k_asm) (by k_is) ?_; k_whole) | (refine' callWith_K0 (by exact Frag.In.keeps (by k_asm) (Fr.keep (by k_asm))) (by k_is) ?_; k_whole)))) | walk1 | (dsimp only; walk1) | (leave1; walk_say "STEP leave1"; try dsimp only) | fail "no step")
  · refine wpP_any ?_
    (try k_fold)
    repeat' (first | (k_unfold; (try dsimp only)) | ((with_reducible show wpP _ _ _ _ _ _); first | ((with_reducible show wpP _ _ (call (Value.ref 218) [Value.ref _, Value.int _ _]) _ _ _); k_dflt (refine' SpecP.use (packet_size_h_int _ _ #[] _ _ _ _ _ _ _ _ _ _ 0 _ _ ?_ ?_ (by decide) ?_ ?_ ?_ ?_ ?_) (by k_asm) (by k_asm) (by k_asm) (by k_asm) (by first | exact List.forall_mem_nil _ | exact SubL.mem (by k_subL)) (by k_asm) (by first | exact rfl | assumption) (by ktr_room) (by ktr_units) ?_; (all_goals (first | decide | assumption | omega | skip)); intro v' h' tk' F' N' hv'; (rename OctOf _ _ _ => hv9; obtain ⟨o9, u9, e9, ho91, ho92, ho93⟩ := hv9; subst e9); (try dsimp only)); (try k_fold)) | ((with_reducible show wpP _ _ (call (Value.ref 218) [Value.ref _, Value.none]) _ _ _); k_dflt (refine' SpecP.use (packet_size_h_none _ _ #[] _ _ 0 _ _ _ _ _ _ _ 0 0 _ ?_ ?_ (by decide) ?_ ?_ ?_) (by k_asm) (by k_asm) (by k_asm) (by k_asm) (by first | exact List.forall_mem_nil _ | exact SubL.mem (by k_subL)) (by k_asm) (by first | exact rfl | assumption) (by ktr_room) (by ktr_units) ?_; (all_goals (first | decide | assumption | omega | skip)); intro v' h' tk' F' N' hv'; (rename OctOf _ _ _ => hv9; obtain ⟨o9, u9, e9, ho91, ho92, ho93⟩ := hv9; subst e9); (try dsimp only)); (try k_fold)) | ((with_reducible show wpP _ _ (call (Value.ref 218) [Value.ref _, Value.int _ _]) _ _ _); k_dflt (refine' SpecP.use (packet_size_i_int _ _ _ _ _ _ _ _ _ _ _ _ _ _ _ _ ?_ ?_ ?_ ?_ ?_ ?_ ?_ ?_) (by k_asm) (by k_asm) (by k_asm) (by k_asm) (by first | exact List.forall_mem_nil _ | exact SubL.mem (by k_subL)) (by k_asm) (by first | exact rfl | assumption) (by ktr_room) (by ktr_units) ?_; (all_goals (first | decide | assumption | omega | skip)); intro v' h' tk' F' N' hv'; (rename OctOf _ _ _ => hv9; obtain ⟨o9, u9, e9, ho91, ho92, ho93⟩ := hv9; subst e9); (try dsimp only)); (try k_fold)) | ((with_reducible show wpP _ _ (call (Value.ref 218) [Value.ref _, Value.none]) _ _ _); k_dflt (refine' SpecP.use (packet_size_i_none _ _ _ _ _ 0 _ _ _ _ _ _ _ _ 0 _ ?_ ?_ ?_ ?_ ?_ ?_) (by k_asm) (by k_asm) (by k_asm) (by k_asm) (by first | exact List.forall_mem_nil _ | exact SubL.mem (by k_subL)) (by k_asm) (by first | exact rfl | assumption) (by ktr_room) (by ktr_units) ?_; (all_goals (first | decide | assumption | omega | skip)); intro v' h' tk' F' N' hv'; (rename OctOf _ _ _ => hv9; obtain ⟨o9, u9, e9, ho91, ho92, ho93⟩ := hv9; subst e9); (try dsimp only)); (try k_fold)) | ((with_reducible show wpP _ _ (call (Value.ref 218) [Value.ref _, Value.int _ _]) _ _ _); k_dflt (refine' SpecP.use (packet_size_s_int _ #[] #[] _ _ _ _ _ _ _ _ _ _ 0 _ _ ?_ (by decide) (by decide) ?_ ?_ ?_ ?_ ?_) (by k_asm) (by k_asm) (by k_asm) (by k_asm) (by first | exact List.forall_mem_nil _ | exact SubL.mem (by k_subL)) (by k_asm) (by first | exact rfl | assumption) (by ktr_room) (by ktr_units) ?_; (all_goals (first | decide | assumption | omega | skip)); intro v' h' tk' F' N' hv'; (rename OctOf _ _ _ => hv9; obtain ⟨o9, u9, e9, ho91, ho92, ho93⟩ := hv9; subst e9); (try dsimp only)); (try k_fold)) | ((with_reducible show wpP _ _ (call (Value.ref 218) [Value.ref _, Value.none]) _ _ _); k_dflt (refine' SpecP.use (packet_size_s_none _ #[] #[] _ _ 0 _ _ _ _ _ _ _ 0 0 _ ?_ (by decide) (by decide) ?_ ?_ ?_) (by k_asm) (by k_asm) (by k_asm) (by k_asm) (by first | exact List.forall_mem_nil _ | exact SubL.mem (by k_subL)) (by k_asm) (by first | exact rfl | assumption) (by ktr_room) (by ktr_units) ?_; (all_goals (first | decide | assumption | omega | skip)); intro v' h' tk' F' N' hv'; (rename OctOf _ _ _ => hv9; obtain ⟨o9, u9, e9, ho91, ho92, ho93⟩ := hv9; subst e9); (try dsimp only)); (try k_fold)) | ((with_reducible show wpP _ _ (exec (Stmt.If (PySem.Expr.UnaryOp UnaryOp.Not (PySem.Expr.Compare _ [_, _] [_, _] _) _) _ _ _) _) _ _ _); k_dflt (refine' wpP_IfNotChain (by with_unfolding_all rfl) ?_)) | ((with_reducible show wpP _ _ (call (Value.ref 232) [_, _, Value.str (Str.ofString "handshake") _]) _ _ _); k_dflt (refine' SpecPW.use (head_octets_h_int _ _ _ _ _ _ _ _ _ _ _ _ _ _ _ _ ?_ ?_ ?_ ?_ ?_ ?_ ?_ ?_) (by k_asm) (by k_asm) (by k_asm) (by k_asm) (by first | exact List.forall_mem_nil _ | exact SubL.mem (by k_subL)) (by k_asm) (by first | exact rfl | assumption) (by ktr_room) (by ktr_units) ?_; (all_goals (first | assumption | decide | assumption | omega | skip)); intro v' h' tk' F' N' hv'; (rename IntOf _ _ => hv9; obtain ⟨u9, e9⟩ := hv9; subst e9); (try dsimp only)); (try k_fold)) | ((with_reducible show wpP _ _ (call (Value.ref 232) [_, _, Value.str (Str.ofString "handshake") _]) _ _ _); k_dflt (refine' SpecPW.use (head_octets_h_none _ _ _ _ _ _ _ _ 0 _ _ _ 0 _ _ _ ?_ ?_ ?_ ?_ ?_ ?_) (by k_asm) (by k_asm) (by k_asm) (by k_asm) (by first | exact List.forall_mem_nil _ | exact SubL.mem (by k_subL)) (by k_asm) (by first | exact rfl | assumption) (by ktr_room) (by ktr_units) ?_; (all_goals (first | assumption | decide | assumption | omega | skip)); intro v' h' tk' F' N' hv'; (rename IntOf _ _ => hv9; obtain ⟨u9, e9⟩ := hv9; subst e9); (try dsimp only)); (try k_fold)) | ((with_reducible show wpP _ _ (call (Value.ref 232) [_, _, Value.str (Str.ofString "initial") _]) _ _ _); k_dflt (refine' SpecPW.use (head_octets_i_int _ _ _ _ _ _ _ _ _ _ _ _ _ _ _ _ ?_ ?_ ?_ ?_ ?_ ?_ ?_ ?_) (by k_asm) (by k_asm) (by k_asm) (by k_asm) (by first | exact List.forall_mem_nil _ | exact SubL.mem (by k_subL)) (by k_asm) (by first | exact rfl | assumption) (by ktr_room) (by ktr_units) ?_; (all_goals (first | assumption | decide | assumption | omega | skip)); intro v' h' tk' F' N' hv'; (rename IntOf _ _ => hv9; obtain ⟨u9, e9⟩ := hv9; subst e9); (try dsimp only)); (try k_fold)) | ((with_reducible show wpP _ _ (call (Value.ref 232) [_, _, Value.str (Str.ofString "initial") _]) _ _ _); k_dflt (refine' SpecPW.use (head_octets_i_none _ _ _ _ _ _ _ _ 0 _ _ _ 0 _ _ _ ?_ ?_ ?_ ?_ ?_ ?_) (by k_asm) (by k_asm) (by k_asm) (by k_asm) (by first | exact List.forall_mem_nil _ | exact SubL.mem (by k_subL)) (by k_asm) (by first | exact rfl | assumption) (by ktr_room) (by ktr_units) ?_; (all_goals (first | assumption | decide | assumption | omega | skip)); intro v' h' tk' F' N' hv'; (rename IntOf _ _ => hv9; obtain ⟨u9, e9⟩ := hv9; subst e9); (try dsimp only)); (try k_fold)) | ((with_reducible show wpP _ _ (call (Value.ref 232) [_, _, Value.str (Str.ofString "application") _]) _ _ _); k_dflt (refine' SpecPW.use (head_octets_s_int _ _ _ _ _ _ _ _ _ _ _ _ _ _ _ _ ?_ ?_ ?_ ?_ ?_ ?_ ?_ ?_) (by k_asm) (by k_asm) (by k_asm) (by k_asm) (by first | exact List.forall_mem_nil _ | exact SubL.mem (by k_subL)) (by k_asm) (by first | exact rfl | assumption) (by ktr_room) (by ktr_units) ?_; (all_goals (first | assumption | decide | assumption | omega | skip)); intro v' h' tk' F' N' hv'; (rename IntOf _ _ => hv9; obtain ⟨u9, e9⟩ := hv9; subst e9); (try dsimp only)); (try k_fold)) | ((with_reducible show wpP _ _ (call (Value.ref 232) [_, _, Value.str (Str.ofString "application") _]) _ _ _); k_dflt (refine' SpecPW.use (head_octets_s_none _ _ _ _ _ _ _ _ 0 _ _ _ 0 _ _ _ ?_ ?_ ?_ ?_ ?_ ?_) (by k_asm) (by k_asm) (by k_asm) (by k_asm) (by first | exact List.forall_mem_nil _ | exact SubL.mem (by k_subL)) (by k_asm) (by first | exact rfl | assumption) (by ktr_room) (by ktr_units) ?_; (all_goals (first | assumption | decide | assumption | omega | skip)); intro v' h' tk' F' N' hv'; (rename IntOf _ _ => hv9; obtain ⟨u9, e9⟩ := hv9; subst e9); (try dsimp only)); (try k_fold)) | walk1) | ((with_reducible show GoodW _ _ _ _ _ (Except.ok (Flow.ret (Value.bool true))) _ ∧ GrownAll _ _); with_reducible refine' good_end (by with_reducible assumption) (by with_reducible assumption) ?_) | (k_end; wrow_close) | ((with_reducible show wpAny _ _ _ _ _ _); first | ((with_reducible show wpAny _ _ (call (Value.ref 28) [_, _]) _ _ _); k_dflt (first | (refine' take_reset_use (by k_asm) (by k_asm) (by k_asm) (by k_asm) (by exact SubL.mem (by k_subL)) (by repeat' (first | exact Olds.nil | (refine' Olds.skip (by with_reducible first | exact List.Mem.head _ | exact List.Mem.tail _ (List.Mem.head _) | exact List.Mem.tail _ (List.Mem.tail _ (List.Mem.head _)) | exact List.Mem.tail _ (List.Mem.tail _ (List.Mem.tail _ (List.Mem.head _))) | exact List.Mem.tail _ (List.Mem.tail _ (List.Mem.tail _ (List.Mem.tail _ (List.Mem.head _)))) | exact List.Mem.tail _ (List.Mem.tail _ (List.Mem.tail _ (List.Mem.tail _ (List.Mem.tail _ (List.Mem.head _))))) | exact List.Mem.tail _ (List.Mem.tail _ (List.Mem.tail _ (List.Mem.tail _ (List.Mem.tail _ (List.Mem.tail _ (List.Mem.head _))))))) ?_) | (refine' Olds.keep (by with_reducible assumption) ?_) | (refine' Olds.keep (off_low (by with_reducible assumption) (by assumption) (by assumption) (by assumption) (by assumption) (by assumption) (by assumption)) ?_) | (refine' Olds.keep (off_high (by omega) (by assumption) (by assumption) (by assumption) (by assumption) (by assumption) (by assumption)) ?_) | refine' Olds.drop ?_)) (by assumption) (by assumption) (by assumption) (by assumption) (by assumption) (by assumption) (by assumption) (by assumption) (by first | decide | size_fits) (fun _ => on_reset_open (by assumption)) (fun _ => rfl) (by k_asm) (by first | exact rfl | assumption) (by ktr_room) (by ktr_units) ?_) | (refine' take_reset_use (by k_asm) (by k_asm) (by k_asm) (by k_asm) (by exact SubL.mem (by k_subL)) (by repeat' (first | exact Olds.nil | (refine' Olds.skip (by with_reducible first | exact List.Mem.head _ | exact List.Mem.tail _ (List.Mem.head _) | exact List.Mem.tail _ (List.Mem.tail _ (List.Mem.head _)) | exact List.Mem.tail _ (List.Mem.tail _ (List.Mem.tail _ (List.Mem.head _))) | exact List.Mem.tail _ (List.Mem.tail _ (List.Mem.tail _ (List.Mem.tail _ (List.Mem.head _)))) | exact List.Mem.tail _ (List.Mem.tail _ (List.Mem.tail _ (List.Mem.tail _ (List.Mem.tail _ (List.Mem.head _))))) | exact List.Mem.tail _ (List.Mem.tail _ (List.Mem.tail _ (List.Mem.tail _ (List.Mem.tail _ (List.Mem.tail _ (List.Mem.head _))))))) ?_) | (refine' Olds.keep (by with_reducible assumption) ?_) | (refine' Olds.keep (off_low (by with_reducible assumption) (by assumption) (by assumption) (by assumption) (by assumption) (by assumption) (by assumption)) ?_) | (refine' Olds.keep (off_high (by omega) (by assumption) (by assumption) (by assumption) (by assumption) (by assumption) (by assumption)) ?_) | refine' Olds.drop ?_)) (by assumption) (by assumption) (by assumption) (by assumption) (by assumption) (by assumption) (by assumption) (by assumption) (by first | decide | size_fits) (fun _ => on_reset_closing (by assumption)) (fun _ => rfl) (by k_asm) (by first | exact rfl | assumption) (by ktr_room) (by ktr_units) ?_) | (refine' take_reset_use (by k_asm) (by k_asm) (by k_asm) (by k_asm) (by exact SubL.mem (by k_subL)) (by repeat' (first | exact Olds.nil | (refine' Olds.skip (by with_reducible first | exact List.Mem.head _ | exact List.Mem.tail _ (List.Mem.head _) | exact List.Mem.tail _ (List.Mem.tail _ (List.Mem.head _)) | exact List.Mem.tail _ (List.Mem.tail _ (List.Mem.tail _ (List.Mem.head _))) | exact List.Mem.tail _ (List.Mem.tail _ (List.Mem.tail _ (List.Mem.tail _ (List.Mem.head _)))) | exact List.Mem.tail _ (List.Mem.tail _ (List.Mem.tail _ (List.Mem.tail _ (List.Mem.tail _ (List.Mem.head _))))) | exact List.Mem.tail _ (List.Mem.tail _ (List.Mem.tail _ (List.Mem.tail _ (List.Mem.tail _ (List.Mem.tail _ (List.Mem.head _))))))) ?_) | (refine' Olds.keep (by with_reducible assumption) ?_) | (refine' Olds.keep (off_low (by with_reducible assumption) (by assumption) (by assumption) (by assumption) (by assumption) (by assumption) (by assumption)) ?_) | (refine' Olds.keep (off_high (by omega) (by assumption) (by assumption) (by assumption) (by assumption) (by assumption) (by assumption)) ?_) | refine' Olds.drop ?_)) (by assumption) (by assumption) (by assumption) (by assumption) (by assumption) (by assumption) (by assumption) (by assumption) (by first | decide | size_fits) (fun _ => on_reset_draining (by assumption)) (fun _ => rfl) (by k_asm) (by first | exact rfl | assumption) (by ktr_room) (by ktr_units) ?_)); intro h' tk' x' a' t' y' F' N' hA'; (try k_fold)) | ((with_reducible show wpAny _ _ (call (Value.ref 225) [_, Value.str (Str.ofString "handshake") _, _, _]) _ _ _); k_dflt (refine' SpecN.use (packet_with_h _ _ _ _ _ _ _ _ _ _ _) (by k_asm) (by k_asm) (by k_asm) (by k_asm) (by first | exact List.forall_mem_nil _ | exact SubL.mem (by k_subL)) (by k_asm) (by first | exact rfl | assumption) (by ktr_room) (by ktr_units) ?_; intro a' ob' h' tk' F' N' hp'; obtain ⟨_, _, _, _, _, _, _, e9⟩ := hp'; subst e9; (try dsimp only)); (try k_fold)) | ((with_reducible show wpAny _ _ (call (Value.ref 225) [_, Value.str (Str.ofString "initial") _, _, _]) _ _ _); k_dflt (refine' SpecN.use (packet_with_i _ _ _ _ _ _ _ _ _ _ _) (by k_asm) (by k_asm) (by k_asm) (by k_asm) (by first | exact List.forall_mem_nil _ | exact SubL.mem (by k_subL)) (by k_asm) (by first | exact rfl | assumption) (by ktr_room) (by ktr_units) ?_; intro a' ob' h' tk' F' N' hp'; obtain ⟨_, _, _, _, _, _, _, _, _, e9, hz9⟩ := hp'; subst e9; (try dsimp only)); (try k_fold)) | ((with_reducible show wpAny _ _ (call (Value.ref 225) [_, Value.str (Str.ofString "application") _, _, _]) _ _ _); k_dflt (refine' SpecN.use (packet_with_s _ _ _ _ _ _ _ _ _ _ _) (by k_asm) (by k_asm) (by k_asm) (by k_asm) (by first | exact List.forall_mem_nil _ | exact SubL.mem (by k_subL)) (by k_asm) (by first | exact rfl | assumption) (by ktr_room) (by ktr_units) ?_; intro a' ob' h' tk' F' N' hp'; obtain ⟨_, _, _, _, _, _, _, e9⟩ := hp'; subst e9; (try dsimp only)); (try k_fold)) | ((with_reducible show wpAny _ _ (call (Value.ref 386) [Value.ref _, Value.int 50 _]) _ _ _); k_dflt (refine' SpecT.use take_50 (by k_asm) (by k_asm) (by k_asm) (by k_asm) (by intro t9; k_upd) (by k_mem) (by k_asm) (by exact rfl) (by ktr_room) (by ktr_units) (by first | assumption | omega) (by assumption) (by first | assumption | omega) (by first | decide | omega) (by first | decide | omega) ?_); intro n' tv' h' tk' t' F' N' hn0' hn1'; (try dsimp only); (try k_fold)) | ((with_reducible show wpAny _ _ (call (Value.ref 386) [Value.ref _, Value.int 6 _]) _ _ _); k_dflt (refine' SpecT.use take_6 (by k_asm) (by k_asm) (by k_asm) (by k_asm) (by intro t9; k_upd) (by k_mem) (by k_asm) (by exact rfl) (by ktr_room) (by ktr_units) (by first | assumption | omega) (by assumption) (by first | assumption | omega) (by first | decide | omega) (by first | decide | omega) ?_); intro n' tv' h' tk' t' F' N' hn0' hn1'; (try dsimp only); (try k_fold)) | ((with_reducible show wpAny _ _ (call (Value.ref 386) [Value.ref _, Value.int 4 _]) _ _ _); k_dflt (refine' SpecT.use take_4 (by k_asm) (by k_asm) (by k_asm) (by k_asm) (by intro t9; k_upd) (by k_mem) (by k_asm) (by exact rfl) (by ktr_room) (by ktr_units) (by first | assumption | omega) (by assumption) (by first | assumption | omega) (by first | decide | omega) (by first | decide | omega) ?_); intro n' tv' h' tk' t' F' N' hn0' hn1'; (try dsimp only); (try k_fold)) | ((with_reducible show wpAny _ _ (call (Value.ref 386) [Value.ref _, Value.int 21 _]) _ _ _); k_dflt (refine' SpecT.use take_21 (by k_asm) (by k_asm) (by k_asm) (by k_asm) (by intro t9; k_upd) (by k_mem) (by k_asm) (by exact rfl) (by ktr_room) (by ktr_units) (by first | assumption | omega) (by assumption) (by first | assumption | omega) (by first | decide | omega) (by first | decide | omega) ?_); intro n' tv' h' tk' t' F' N' hn0' hn1'; (try dsimp only); (try k_fold)) | ((with_reducible show wpAny _ _ (call (Value.ref 386) [Value.ref _, Value.int 3 _]) _ _ _); k_dflt (refine' SpecT.use take_3 (by k_asm) (by k_asm) (by k_asm) (by k_asm) (by intro t9; k_upd) (by k_mem) (by k_asm) (by exact rfl) (by ktr_room) (by ktr_units) (by first | assumption | omega) (by assumption) (by first | assumption | omega) (by first | decide | omega) (by first | decide | omega) ?_); intro n' tv' h' tk' t' F' N' hn0' hn1'; (try dsimp only); (try k_fold)) | ((with_reducible show wpAny _ _ (getMethod (Value.ref _) (PySem.Str.ofString "probe_wait") _) _ _ _); k_dflt (refine' kmu_own (by k_asm) (by k_asm) (by k_inst) (by k_is) (by k_is) ?_; k_whole)) | ((with_reducible first | refine call_snd ?_ | refine call_app ?_); (with_reducible show wpAny _ _ (call (Value.builtin _) [Value.ref _, _]) _ _ _); k_dflt (refine' append_K (by k_asm) (by k_asm) (by k_upd) ?_ (by size_fits); k_whole); intro h' F' N'; (try k_sweep)) | (with_reducible refine ne_int_eq (by omega) ?_) | (k_here; (with_reducible show wpAny _ _ (call (Value.ref 63) [Value.ref _, Value.int _ _, Value.int _ _]) _ _ _); k_dflt (refine wpAny_call ?_; k_enter)) | (k_here; (with_reducible show wpAny _ _ (call (Value.ref 56) [Value.ref _, Value.ref _, Value.int _ _, Value.int _ _]) _ _ _); k_dflt (refine wpAny_call ?_; k_enter)) | (k_here; (with_reducible show wpAny _ _ (call (Value.ref 98) [Value.ref _]) _ _ _); k_dflt (refine wpAny_call ?_; k_enter)) | (k_here; (with_reducible show wpAny _ _ (callWith _ (Value.ref 98, _).1 _ (backTo _ (starEach [] _)) []) _ _ _); k_dflt (refine' callWith_pair0 (by k_asm) (by k_asm) (by k_is) ?_)) | ((with_reducible show wpAny _ _ (execs _ _) _ _ (Shared.mk _ _ _ (HAdd.hAdd (HAdd.hAdd (HAdd.hAdd (HAdd.hAdd _ _) _) _) _) _)); refine gen_toks ?_; intro tk9) | ((with_reducible show wpAny _ _ (eval (PySem.Expr.Name _ _) _) _ _ _); k_here; k_dflt (first | (refine' nameX_L (by k_asm) (by rfl) ?_ (by rfl) (by rfl); k_whole) | (refine' nameX_K (by k_asm) (by k_asm) (by k_asm) (by k_is) ?_ (by rfl) (by rfl); k_whole))) | ((with_reducible show wpAny _ _ (callWith _ (Value.ref _) _ _ _) _ _ _); k_here; k_dflt (first | (refine' callWith_K (by k_asm) (by k_is) ?_; k_whole) | (refine' callWith_K0 (by exact Frag.In.keeps (by k_asm) (Fr.keep (by k_asm))) (by k_is) ?_; k_whole)))) | walk1 | (dsimp only; walk1) | (leave1; walk_say "STEP leave1"; try dsimp only) | fail "no step")
  · refine wpP_any ?_
    (try k_fold)
    repeat' (first | (k_unfold; (try dsimp only)) | ((with_reducible show wpP _ _ _ _ _ _); first | ((with_reducible show wpP _ _ (call (Value.ref 218) [Value.ref _, Value.int _ _]) _ _ _); k_dflt (refine' SpecP.use (packet_size_h_int _ _ #[] _ _ _ _ _ _ _ _ _ _ 0 _ _ ?_ ?_ (by decide) ?_ ?_ ?_ ?_ ?_) (by k_asm) (by k_asm) (by k_asm) (by k_asm) (by first | exact List.forall_mem_nil _ | exact SubL.mem (by k_subL)) (by k_asm) (by first | exact rfl | assumption) (by ktr_room) (by ktr_units) ?_; (all_goals (first | decide | assumption | omega | skip)); intro v' h' tk' F' N' hv'; (rename OctOf _ _ _ => hv9; obtain ⟨o9, u9, e9, ho91, ho92, ho93⟩ := hv9; subst e9); (try dsimp only)); (try k_fold)) | ((with_reducible show wpP _ _ (call (Value.ref 218) [Value.ref _, Value.none]) _ _ _); k_dflt (refine' SpecP.use (packet_size_h_none _ _ #[] _ _ 0 _ _ _ _ _ _ _ 0 0 _ ?_ ?_ (by decide) ?_ ?_ ?_) (by k_asm) (by k_asm) (by k_asm) (by k_asm) (by first | exact List.forall_mem_nil _ | exact SubL.mem (by k_subL)) (by k_asm) (by first | exact rfl | assumption) (by ktr_room) (by ktr_units) ?_; (all_goals (first | decide | assumption | omega | skip)); intro v' h' tk' F' N' hv'; (rename OctOf _ _ _ => hv9; obtain ⟨o9, u9, e9, ho91, ho92, ho93⟩ := hv9; subst e9); (try dsimp only)); (try k_fold)) | ((with_reducible show wpP _ _ (call (Value.ref 218) [Value.ref _, Value.int _ _]) _ _ _); k_dflt (refine' SpecP.use (packet_size_i_int _ _ _ _ _ _ _ _ _ _ _ _ _ _ _ _ ?_ ?_ ?_ ?_ ?_ ?_ ?_ ?_) (by k_asm) (by k_asm) (by k_asm) (by k_asm) (by first | exact List.forall_mem_nil _ | exact SubL.mem (by k_subL)) (by k_asm) (by first | exact rfl | assumption) (by ktr_room) (by ktr_units) ?_; (all_goals (first | decide | assumption | omega | skip)); intro v' h' tk' F' N' hv'; (rename OctOf _ _ _ => hv9; obtain ⟨o9, u9, e9, ho91, ho92, ho93⟩ := hv9; subst e9); (try dsimp only)); (try k_fold)) | ((with_reducible show wpP _ _ (call (Value.ref 218) [Value.ref _, Value.none]) _ _ _); k_dflt (refine' SpecP.use (packet_size_i_none _ _ _ _ _ 0 _ _ _ _ _ _ _ _ 0 _ ?_ ?_ ?_ ?_ ?_ ?_) (by k_asm) (by k_asm) (by k_asm) (by k_asm) (by first | exact List.forall_mem_nil _ | exact SubL.mem (by k_subL)) (by k_asm) (by first | exact rfl | assumption) (by ktr_room) (by ktr_units) ?_; (all_goals (first | decide | assumption | omega | skip)); intro v' h' tk' F' N' hv'; (rename OctOf _ _ _ => hv9; obtain ⟨o9, u9, e9, ho91, ho92, ho93⟩ := hv9; subst e9); (try dsimp only)); (try k_fold)) | ((with_reducible show wpP _ _ (call (Value.ref 218) [Value.ref _, Value.int _ _]) _ _ _); k_dflt (refine' SpecP.use (packet_size_s_int _ #[] #[] _ _ _ _ _ _ _ _ _ _ 0 _ _ ?_ (by decide) (by decide) ?_ ?_ ?_ ?_ ?_) (by k_asm) (by k_asm) (by k_asm) (by k_asm) (by first | exact List.forall_mem_nil _ | exact SubL.mem (by k_subL)) (by k_asm) (by first | exact rfl | assumption) (by ktr_room) (by ktr_units) ?_; (all_goals (first | decide | assumption | omega | skip)); intro v' h' tk' F' N' hv'; (rename OctOf _ _ _ => hv9; obtain ⟨o9, u9, e9, ho91, ho92, ho93⟩ := hv9; subst e9); (try dsimp only)); (try k_fold)) | ((with_reducible show wpP _ _ (call (Value.ref 218) [Value.ref _, Value.none]) _ _ _); k_dflt (refine' SpecP.use (packet_size_s_none _ #[] #[] _ _ 0 _ _ _ _ _ _ _ 0 0 _ ?_ (by decide) (by decide) ?_ ?_ ?_) (by k_asm) (by k_asm) (by k_asm) (by k_asm) (by first | exact List.forall_mem_nil _ | exact SubL.mem (by k_subL)) (by k_asm) (by first | exact rfl | assumption) (by ktr_room) (by ktr_units) ?_; (all_goals (first | decide | assumption | omega | skip)); intro v' h' tk' F' N' hv'; (rename OctOf _ _ _ => hv9; obtain ⟨o9, u9, e9, ho91, ho92, ho93⟩ := hv9; subst e9); (try dsimp only)); (try k_fold)) | ((with_reducible show wpP _ _ (exec (Stmt.If (PySem.Expr.UnaryOp UnaryOp.Not (PySem.Expr.Compare _ [_, _] [_, _] _) _) _ _ _) _) _ _ _); k_dflt (refine' wpP_IfNotChain (by with_unfolding_all rfl) ?_)) | ((with_reducible show wpP _ _ (call (Value.ref 232) [_, _, Value.str (Str.ofString "handshake") _]) _ _ _); k_dflt (refine' SpecPW.use (head_octets_h_int _ _ _ _ _ _ _ _ _ _ _ _ _ _ _ _ ?_ ?_ ?_ ?_ ?_ ?_ ?_ ?_) (by k_asm) (by k_asm) (by k_asm) (by k_asm) (by first | exact List.forall_mem_nil _ | exact SubL.mem (by k_subL)) (by k_asm) (by first | exact rfl | assumption) (by ktr_room) (by ktr_units) ?_; (all_goals (first | assumption | decide | assumption | omega | skip)); intro v' h' tk' F' N' hv'; (rename IntOf _ _ => hv9; obtain ⟨u9, e9⟩ := hv9; subst e9); (try dsimp only)); (try k_fold)) | ((with_reducible show wpP _ _ (call (Value.ref 232) [_, _, Value.str (Str.ofString "handshake") _]) _ _ _); k_dflt (refine' SpecPW.use (head_octets_h_none _ _ _ _ _ _ _ _ 0 _ _ _ 0 _ _ _ ?_ ?_ ?_ ?_ ?_ ?_) (by k_asm) (by k_asm) (by k_asm) (by k_asm) (by first | exact List.forall_mem_nil _ | exact SubL.mem (by k_subL)) (by k_asm) (by first | exact rfl | assumption) (by ktr_room) (by ktr_units) ?_; (all_goals (first | assumption | decide | assumption | omega | skip)); intro v' h' tk' F' N' hv'; (rename IntOf _ _ => hv9; obtain ⟨u9, e9⟩ := hv9; subst e9); (try dsimp only)); (try k_fold)) | ((with_reducible show wpP _ _ (call (Value.ref 232) [_, _, Value.str (Str.ofString "initial") _]) _ _ _); k_dflt (refine' SpecPW.use (head_octets_i_int _ _ _ _ _ _ _ _ _ _ _ _ _ _ _ _ ?_ ?_ ?_ ?_ ?_ ?_ ?_ ?_) (by k_asm) (by k_asm) (by k_asm) (by k_asm) (by first | exact List.forall_mem_nil _ | exact SubL.mem (by k_subL)) (by k_asm) (by first | exact rfl | assumption) (by ktr_room) (by ktr_units) ?_; (all_goals (first | assumption | decide | assumption | omega | skip)); intro v' h' tk' F' N' hv'; (rename IntOf _ _ => hv9; obtain ⟨u9, e9⟩ := hv9; subst e9); (try dsimp only)); (try k_fold)) | ((with_reducible show wpP _ _ (call (Value.ref 232) [_, _, Value.str (Str.ofString "initial") _]) _ _ _); k_dflt (refine' SpecPW.use (head_octets_i_none _ _ _ _ _ _ _ _ 0 _ _ _ 0 _ _ _ ?_ ?_ ?_ ?_ ?_ ?_) (by k_asm) (by k_asm) (by k_asm) (by k_asm) (by first | exact List.forall_mem_nil _ | exact SubL.mem (by k_subL)) (by k_asm) (by first | exact rfl | assumption) (by ktr_room) (by ktr_units) ?_; (all_goals (first | assumption | decide | assumption | omega | skip)); intro v' h' tk' F' N' hv'; (rename IntOf _ _ => hv9; obtain ⟨u9, e9⟩ := hv9; subst e9); (try dsimp only)); (try k_fold)) | ((with_reducible show wpP _ _ (call (Value.ref 232) [_, _, Value.str (Str.ofString "application") _]) _ _ _); k_dflt (refine' SpecPW.use (head_octets_s_int _ _ _ _ _ _ _ _ _ _ _ _ _ _ _ _ ?_ ?_ ?_ ?_ ?_ ?_ ?_ ?_) (by k_asm) (by k_asm) (by k_asm) (by k_asm) (by first | exact List.forall_mem_nil _ | exact SubL.mem (by k_subL)) (by k_asm) (by first | exact rfl | assumption) (by ktr_room) (by ktr_units) ?_; (all_goals (first | assumption | decide | assumption | omega | skip)); intro v' h' tk' F' N' hv'; (rename IntOf _ _ => hv9; obtain ⟨u9, e9⟩ := hv9; subst e9); (try dsimp only)); (try k_fold)) | ((with_reducible show wpP _ _ (call (Value.ref 232) [_, _, Value.str (Str.ofString "application") _]) _ _ _); k_dflt (refine' SpecPW.use (head_octets_s_none _ _ _ _ _ _ _ _ 0 _ _ _ 0 _ _ _ ?_ ?_ ?_ ?_ ?_ ?_) (by k_asm) (by k_asm) (by k_asm) (by k_asm) (by first | exact List.forall_mem_nil _ | exact SubL.mem (by k_subL)) (by k_asm) (by first | exact rfl | assumption) (by ktr_room) (by ktr_units) ?_; (all_goals (first | assumption | decide | assumption | omega | skip)); intro v' h' tk' F' N' hv'; (rename IntOf _ _ => hv9; obtain ⟨u9, e9⟩ := hv9; subst e9); (try dsimp only)); (try k_fold)) | walk1) | ((with_reducible show GoodW _ _ _ _ _ (Except.ok (Flow.ret (Value.bool true))) _ ∧ GrownAll _ _); with_reducible refine' good_end (by with_reducible assumption) (by with_reducible assumption) ?_) | (k_end; wrow_close) | ((with_reducible show wpAny _ _ _ _ _ _); first | ((with_reducible show wpAny _ _ (call (Value.ref 28) [_, _]) _ _ _); k_dflt (first | (refine' take_reset_use (by k_asm) (by k_asm) (by k_asm) (by k_asm) (by exact SubL.mem (by k_subL)) (by repeat' (first | exact Olds.nil | (refine' Olds.skip (by with_reducible first | exact List.Mem.head _ | exact List.Mem.tail _ (List.Mem.head _) | exact List.Mem.tail _ (List.Mem.tail _ (List.Mem.head _)) | exact List.Mem.tail _ (List.Mem.tail _ (List.Mem.tail _ (List.Mem.head _))) | exact List.Mem.tail _ (List.Mem.tail _ (List.Mem.tail _ (List.Mem.tail _ (List.Mem.head _)))) | exact List.Mem.tail _ (List.Mem.tail _ (List.Mem.tail _ (List.Mem.tail _ (List.Mem.tail _ (List.Mem.head _))))) | exact List.Mem.tail _ (List.Mem.tail _ (List.Mem.tail _ (List.Mem.tail _ (List.Mem.tail _ (List.Mem.tail _ (List.Mem.head _))))))) ?_) | (refine' Olds.keep (by with_reducible assumption) ?_) | (refine' Olds.keep (off_low (by with_reducible assumption) (by assumption) (by assumption) (by assumption) (by assumption) (by assumption) (by assumption)) ?_) | (refine' Olds.keep (off_high (by omega) (by assumption) (by assumption) (by assumption) (by assumption) (by assumption) (by assumption)) ?_) | refine' Olds.drop ?_)) (by assumption) (by assumption) (by assumption) (by assumption) (by assumption) (by assumption) (by assumption) (by assumption) (by first | decide | size_fits) (fun _ => on_reset_open (by assumption)) (fun _ => rfl) (by k_asm) (by first | exact rfl | assumption) (by ktr_room) (by ktr_units) ?_) | (refine' take_reset_use (by k_asm) (by k_asm) (by k_asm) (by k_asm) (by exact SubL.mem (by k_subL)) (by repeat' (first | exact Olds.nil | (refine' Olds.skip (by with_reducible first | exact List.Mem.head _ | exact List.Mem.tail _ (List.Mem.head _) | exact List.Mem.tail _ (List.Mem.tail _ (List.Mem.head _)) | exact List.Mem.tail _ (List.Mem.tail _ (List.Mem.tail _ (List.Mem.head _))) | exact List.Mem.tail _ (List.Mem.tail _ (List.Mem.tail _ (List.Mem.tail _ (List.Mem.head _)))) | exact List.Mem.tail _ (List.Mem.tail _ (List.Mem.tail _ (List.Mem.tail _ (List.Mem.tail _ (List.Mem.head _))))) | exact List.Mem.tail _ (List.Mem.tail _ (List.Mem.tail _ (List.Mem.tail _ (List.Mem.tail _ (List.Mem.tail _ (List.Mem.head _))))))) ?_) | (refine' Olds.keep (by with_reducible assumption) ?_) | (refine' Olds.keep (off_low (by with_reducible assumption) (by assumption) (by assumption) (by assumption) (by assumption) (by assumption) (by assumption)) ?_) | (refine' Olds.keep (off_high (by omega) (by assumption) (by assumption) (by assumption) (by assumption) (by assumption) (by assumption)) ?_) | refine' Olds.drop ?_)) (by assumption) (by assumption) (by assumption) (by assumption) (by assumption) (by assumption) (by assumption) (by assumption) (by first | decide | size_fits) (fun _ => on_reset_closing (by assumption)) (fun _ => rfl) (by k_asm) (by first | exact rfl | assumption) (by ktr_room) (by ktr_units) ?_) | (refine' take_reset_use (by k_asm) (by k_asm) (by k_asm) (by k_asm) (by exact SubL.mem (by k_subL)) (by repeat' (first | exact Olds.nil | (refine' Olds.skip (by with_reducible first | exact List.Mem.head _ | exact List.Mem.tail _ (List.Mem.head _) | exact List.Mem.tail _ (List.Mem.tail _ (List.Mem.head _)) | exact List.Mem.tail _ (List.Mem.tail _ (List.Mem.tail _ (List.Mem.head _))) | exact List.Mem.tail _ (List.Mem.tail _ (List.Mem.tail _ (List.Mem.tail _ (List.Mem.head _)))) | exact List.Mem.tail _ (List.Mem.tail _ (List.Mem.tail _ (List.Mem.tail _ (List.Mem.tail _ (List.Mem.head _))))) | exact List.Mem.tail _ (List.Mem.tail _ (List.Mem.tail _ (List.Mem.tail _ (List.Mem.tail _ (List.Mem.tail _ (List.Mem.head _))))))) ?_) | (refine' Olds.keep (by with_reducible assumption) ?_) | (refine' Olds.keep (off_low (by with_reducible assumption) (by assumption) (by assumption) (by assumption) (by assumption) (by assumption) (by assumption)) ?_) | (refine' Olds.keep (off_high (by omega) (by assumption) (by assumption) (by assumption) (by assumption) (by assumption) (by assumption)) ?_) | refine' Olds.drop ?_)) (by assumption) (by assumption) (by assumption) (by assumption) (by assumption) (by assumption) (by assumption) (by assumption) (by first | decide | size_fits) (fun _ => on_reset_draining (by assumption)) (fun _ => rfl) (by k_asm) (by first | exact rfl | assumption) (by ktr_room) (by ktr_units) ?_)); intro h' tk' x' a' t' y' F' N' hA'; (try k_fold)) | ((with_reducible show wpAny _ _ (call (Value.ref 225) [_, Value.str (Str.ofString "handshake") _, _, _]) _ _ _); k_dflt (refine' SpecN.use (packet_with_h _ _ _ _ _ _ _ _ _ _ _) (by k_asm) (by k_asm) (by k_asm) (by k_asm) (by first | exact List.forall_mem_nil _ | exact SubL.mem (by k_subL)) (by k_asm) (by first | exact rfl | assumption) (by ktr_room) (by ktr_units) ?_; intro a' ob' h' tk' F' N' hp'; obtain ⟨_, _, _, _, _, _, _, e9⟩ := hp'; subst e9; (try dsimp only)); (try k_fold)) | ((with_reducible show wpAny _ _ (call (Value.ref 225) [_, Value.str (Str.ofString "initial") _, _, _]) _ _ _); k_dflt (refine' SpecN.use (packet_with_i _ _ _ _ _ _ _ _ _ _ _) (by k_asm) (by k_asm) (by k_asm) (by k_asm) (by first | exact List.forall_mem_nil _ | exact SubL.mem (by k_subL)) (by k_asm) (by first | exact rfl | assumption) (by ktr_room) (by ktr_units) ?_; intro a' ob' h' tk' F' N' hp'; obtain ⟨_, _, _, _, _, _, _, _, _, e9, hz9⟩ := hp'; subst e9; (try dsimp only)); (try k_fold)) | ((with_reducible show wpAny _ _ (call (Value.ref 225) [_, Value.str (Str.ofString "application") _, _, _]) _ _ _); k_dflt (refine' SpecN.use (packet_with_s _ _ _ _ _ _ _ _ _ _ _) (by k_asm) (by k_asm) (by k_asm) (by k_asm) (by first | exact List.forall_mem_nil _ | exact SubL.mem (by k_subL)) (by k_asm) (by first | exact rfl | assumption) (by ktr_room) (by ktr_units) ?_; intro a' ob' h' tk' F' N' hp'; obtain ⟨_, _, _, _, _, _, _, e9⟩ := hp'; subst e9; (try dsimp only)); (try k_fold)) | ((with_reducible show wpAny _ _ (call (Value.ref 386) [Value.ref _, Value.int 50 _]) _ _ _); k_dflt (refine' SpecT.use take_50 (by k_asm) (by k_asm) (by k_asm) (by k_asm) (by intro t9; k_upd) (by k_mem) (by k_asm) (by exact rfl) (by ktr_room) (by ktr_units) (by first | assumption | omega) (by assumption) (by first | assumption | omega) (by first | decide | omega) (by first | decide | omega) ?_); intro n' tv' h' tk' t' F' N' hn0' hn1'; (try dsimp only); (try k_fold)) | ((with_reducible show wpAny _ _ (call (Value.ref 386) [Value.ref _, Value.int 6 _]) _ _ _); k_dflt (refine' SpecT.use take_6 (by k_asm) (by k_asm) (by k_asm) (by k_asm) (by intro t9; k_upd) (by k_mem) (by k_asm) (by exact rfl) (by ktr_room) (by ktr_units) (by first | assumption | omega) (by assumption) (by first | assumption | omega) (by first | decide | omega) (by first | decide | omega) ?_); intro n' tv' h' tk' t' F' N' hn0' hn1'; (try dsimp only); (try k_fold)) | ((with_reducible show wpAny _ _ (call (Value.ref 386) [Value.ref _, Value.int 4 _]) _ _ _); k_dflt (refine' SpecT.use take_4 (by k_asm) (by k_asm) (by k_asm) (by k_asm) (by intro t9; k_upd) (by k_mem) (by k_asm) (by exact rfl) (by ktr_room) (by ktr_units) (by first | assumption | omega) (by assumption) (by first | assumption | omega) (by first | decide | omega) (by first | decide | omega) ?_); intro n' tv' h' tk' t' F' N' hn0' hn1'; (try dsimp only); (try k_fold)) | ((with_reducible show wpAny _ _ (call (Value.ref 386) [Value.ref _, Value.int 21 _]) _ _ _); k_dflt (refine' SpecT.use take_21 (by k_asm) (by k_asm) (by k_asm) (by k_asm) (by intro t9; k_upd) (by k_mem) (by k_asm) (by exact rfl) (by ktr_room) (by ktr_units) (by first | assumption | omega) (by assumption) (by first | assumption | omega) (by first | decide | omega) (by first | decide | omega) ?_); intro n' tv' h' tk' t' F' N' hn0' hn1'; (try dsimp only); (try k_fold)) | ((with_reducible show wpAny _ _ (call (Value.ref 386) [Value.ref _, Value.int 3 _]) _ _ _); k_dflt (refine' SpecT.use take_3 (by k_asm) (by k_asm) (by k_asm) (by k_asm) (by intro t9; k_upd) (by k_mem) (by k_asm) (by exact rfl) (by ktr_room) (by ktr_units) (by first | assumption | omega) (by assumption) (by first | assumption | omega) (by first | decide | omega) (by first | decide | omega) ?_); intro n' tv' h' tk' t' F' N' hn0' hn1'; (try dsimp only); (try k_fold)) | ((with_reducible show wpAny _ _ (getMethod (Value.ref _) (PySem.Str.ofString "probe_wait") _) _ _ _); k_dflt (refine' kmu_own (by k_asm) (by k_asm) (by k_inst) (by k_is) (by k_is) ?_; k_whole)) | ((with_reducible first | refine call_snd ?_ | refine call_app ?_); (with_reducible show wpAny _ _ (call (Value.builtin _) [Value.ref _, _]) _ _ _); k_dflt (refine' append_K (by k_asm) (by k_asm) (by k_upd) ?_ (by size_fits); k_whole); intro h' F' N'; (try k_sweep)) | (with_reducible refine ne_int_eq (by omega) ?_) | (k_here; (with_reducible show wpAny _ _ (call (Value.ref 63) [Value.ref _, Value.int _ _, Value.int _ _]) _ _ _); k_dflt (refine wpAny_call ?_; k_enter)) | (k_here; (with_reducible show wpAny _ _ (call (Value.ref 56) [Value.ref _, Value.ref _, Value.int _ _, Value.int _ _]) _ _ _); k_dflt (refine wpAny_call ?_; k_enter)) | (k_here; (with_reducible show wpAny _ _ (call (Value.ref 98) [Value.ref _]) _ _ _); k_dflt (refine wpAny_call ?_; k_enter)) | (k_here; (with_reducible show wpAny _ _ (callWith _ (Value.ref 98, _).1 _ (backTo _ (starEach [] _)) []) _ _ _); k_dflt (refine' callWith_pair0 (by k_asm) (by k_asm) (by k_is) ?_)) | ((with_reducible show wpAny _ _ (execs _ _) _ _ (Shared.mk _ _ _ (HAdd.hAdd (HAdd.hAdd (HAdd.hAdd (HAdd.hAdd _ _) _) _) _) _)); refine gen_toks ?_; intro tk9) | ((with_reducible show wpAny _ _ (eval (PySem.Expr.Name _ _) _) _ _ _); k_here; k_dflt (first | (refine' nameX_L (by k_asm) (by rfl) ?_ (by rfl) (by rfl); k_whole) | (refine' nameX_K (by k_asm) (by k_asm) (by k_asm) (by k_is) ?_ (by rfl) (by rfl); k_whole))) | ((with_reducible show wpAny _ _ (callWith _ (Value.ref _) _ _ _) _ _ _); k_here; k_dflt (first | (refine' callWith_K (by k_asm) (by k_is) ?_; k_whole) | (refine' callWith_K0 (by exact Frag.In.keeps (by k_asm) (Fr.keep (by k_asm))) (by k_is) ?_; k_whole)))) | walk1 | (dsimp only; walk1) | (leave1; walk_say "STEP leave1"; try dsimp only) | fail "no step")
end
end Mine
theorem PySem.Challenge.cw_pf0271_01_holds : PySem.Challenge.rw_pf0271_01.Holds := by
  exact Mine.law_try
