import PyProof.Rows.All
import Wide.All
import OpenK.AllK
import Wide.FinOn
import KE.BytesMake
import KE.KToBytes
import KE.BitLaws
import Lean
import PySem.Challenge.RW_no0055_01
set_option compiler.extract_closed false
set_option Elab.async false
section
open PySem PySem.W PySem.Spec PySem.Calls PyProof.Rows
open PySem.Sem (wp)
set_option Elab.async false
set_option maxRecDepth 100000
set_option linter.unusedVariables false
namespace Mine

/-! A logic of contexts with a clean stack: as wpAny, but no frame on the stack lends a bytearray out. -/
def dirtyIds : List String := ["bytearray.__contains__", "bytearray.__mod__", "bytearray.__rmod__", "_struct.pack_into.held", "bytearray.find.held"] ++ Builtin.Bytes.decodersThatHold
def okC : Code → Bool
  | .builtin id _ => !dirtyIds.contains id
  | _ => true
def CleanB (Γ : PySem.Ctx) : Prop := ∀ x ∈ Γ.below, okC x.1 = true
def Clean (Γ : PySem.Ctx) : Prop := okC Γ.code = true ∧ CleanB Γ

def wpG {α : Type} (M : Model) (A : Around) (t : Sem α) (Q : α → Shared → Prop) (E : Value → Shared → Prop) (s : Shared) : Prop :=
  ∀ Γ p, Γ.In A → Clean Γ → wp M Γ t (fun a _ s' => Q a s') (fun e _ s' => E e s') p s
def codeG (M : Model) (A : Around) (c : Code) (R : Result → Shared → Prop) (s : Shared) : Prop :=
  ∀ Γ p, Γ.code = c → Γ.Below A → CleanB Γ → wpCode M Γ R p s

section
variable {α β : Type} {M : Model} {A : Around} {E : Value → Shared → Prop} {s : Shared} {env : Env}

theorem g_any {t : Sem α} {Q : α → Shared → Prop} (h : wpAny M A t Q E s) : wpG M A t Q E s := fun Γ p hΓ _ => h Γ p hΓ
theorem g_bind {m : Sem α} {f : α → Sem β} {Q : β → Shared → Prop} (h : wpG M A m (fun a s' => wpG M A (f a) Q E s') E s) : wpG M A (m >>= f) Q E s := fun Γ p hΓ hC => by
  rw [Sem.wp_bind']
  exact Sem.wp_mono M Γ m (fun a p' s' h' => h' Γ p' hΓ hC) (fun _ _ _ h' => h') p s (h Γ p hΓ hC)
theorem g_step {m : Sem α} {f : α → Sem β} {Q : β → Shared → Prop} (h : wpAny M A m (fun a s' => wpG M A (f a) Q E s') E s) : wpG M A (m >>= f) Q E s := g_bind (g_any h)
theorem g_pure {a : α} {Q : α → Shared → Prop} (h : Q a s) : wpG M A (pure a) Q E s := fun _ _ _ _ => h
theorem g_mono {t : Sem α} {Q Q' : α → Shared → Prop} {E' : Value → Shared → Prop} (h : wpG M A t Q E s) (hQ : ∀ a s, Q a s → Q' a s) (hE : ∀ e s, E e s → E' e s) : wpG M A t Q' E' s :=
  fun Γ p hΓ hC => Sem.wp_mono M Γ t (fun a _ s => hQ a s) (fun e _ s => hE e s) p s (h Γ p hΓ hC)
theorem g_holding {vs : List Value} {m : Sem α} {Q : α → Shared → Prop} (h : wpG M A m Q E s) : wpG M A (holding vs m) Q E s := fun Γ p hΓ hC => by rw [Sem.wp_holding]; exact h Γ p hΓ hC
theorem g_keep {vs : List Value} {m : Sem α} {Q : α → Shared → Prop} (h : wpG M A m Q E s) : wpG M A (m.keep vs) Q E s := fun Γ p hΓ hC => by rw [Sem.wp_keep]; exact h Γ p hΓ hC
theorem g_operate {vs : List Value} {m : Sem Value} {Q : Value → Shared → Prop} (h : wpG M A m Q E s) : wpG M A (operate vs m) Q E s := fun Γ p hΓ hC => by rw [Sem.wp_operate]; exact h Γ p hΓ hC
theorem g_onRaise {m : Sem α} {k : Value → Sem Unit} {Q : α → Shared → Prop} (h : wpG M A m Q (fun _ _ => False) s) : wpG M A (m.onRaise k) Q E s := fun Γ p hΓ hC => by
  rw [Sem.wp_onRaise]
  exact Sem.wp_mono M Γ m (fun _ _ _ h' => h') (fun _ _ _ h' => h'.elim) p s (h Γ p hΓ hC)
theorem g_eq {t t' : Sem α} {Q : α → Shared → Prop} (e : t = t') (h : wpG M A t' Q E s) : wpG M A t Q E s := e ▸ h

theorem cleanB_enter {Γ : PySem.Ctx} (h : Clean Γ) (c : Code) (hd : Option Value) (p : Pos) : CleanB (Γ.enter c hd p) := fun x hx => by
  rcases List.mem_cons.mp hx with rfl | hx
  · exact h.1
  · exact h.2 x hx
theorem g_run {c : Code} {h : Option Value} {Q : Flow → Shared → Prop} (hc : codeG M (A.mark h) c (fun r s' => match r with | .ok f => Q f s' | .error e => E e s') s) (hnb : h ≠ some byPass := by intro x; cases x) :
    wpG M A (run c h) Q E s := fun Γ p hΓ hC => by rw [Sem.wp_run]; exact hc _ p rfl (hΓ.enter c h p hnb) (cleanB_enter hC _ _ _)
theorem g_call {f : Value} {pos : List Value} {kw : List (PySem.Str × Value)} {Q : Value → Shared → Prop}
    (hc : codeG M A (.call f ⟨pos, kw⟩) (fun r s' => match r with | .ok (.ret v) => Q v s' | .ok _ => False | .error e => E e s') s) : wpG M A (call f pos kw) Q E s := fun Γ p hΓ hC => by
  show wp M Γ (runValue _) _ _ p s
  rw [Sem.wp_runValue]; exact hc _ p rfl (hΓ.enter _ none p (by intro x; cases x)) (cleanB_enter hC _ _ _)
theorem codeG_mono {c : Code} {R R' : Result → Shared → Prop} (h : codeG M A c R s) (hR : ∀ r s, R r s → R' r s) : codeG M A c R' s := fun Γ p hc hΓ hC => wpCode_mono hR (h Γ p hc hΓ hC)
theorem codeG_any {c : Code} {R : Result → Shared → Prop} (h : codeAny M A c R s) : codeG M A c R s := fun Γ p hc hΓ _ => h Γ p hc hΓ
theorem codeG_of_tree {c : Code} {R : Result → Shared → Prop} (ok : okC c = true)
    (h : wpG M (A.under c) (M.den c) (fun fin s' => match fin with | .done f => R (.ok f) s' | .again c' => c'.quiet = true ∧ codeG M A c' R s') (fun e s' => R (.error e) s') s) : codeG M A c R s := fun Γ p hc hΓ hC => by
  rw [wpCode_iff_wp, hc]
  refine Sem.wp_mono M Γ _ (fun fin p' s' h' => ?_) (fun _ _ _ h' => h') p s (h Γ p (hc ▸ hΓ.in) ⟨hc ▸ ok, hC⟩)
  cases fin with
  | done f => exact h'
  | again c' => exact ⟨h'.1, h'.2 (Γ.goto c') p' rfl (hΓ.goto c') hC⟩

-- statements
theorem g_execs_nil {Q : Flow → Shared → Prop} (h : Q .next s) : wpG M A (execs [] env) Q E s := g_any (wpAny_execs_nil h)
theorem g_execs_cons {st rest} {Q : Flow → Shared → Prop} (h : wpG M A (exec st env) (fun f s' => match f with | .next => wpG M A (execs rest env) Q E s' | f => Q f s') E s) : wpG M A (execs (st :: rest) env) Q E s := by
  rw [execs_cons]
  refine g_bind (g_mono h (fun f s' h' => ?_) fun _ _ h' => h')
  cases f <;> first | exact h' | exact g_pure h'
theorem g_Return {e pos} {Q : Flow → Shared → Prop} (h : wpG M A (eval e env) (fun v => Q (.ret v)) E s) : wpG M A (exec (.Return (some e) pos) env) Q E s := by
  rw [exec_Return_some]
  exact g_step (wpAny_standAt (g_bind (g_mono h (fun _ _ h' => g_pure h') fun _ _ h' => h')))
theorem g_If {test body orelse pos} {Q : Flow → Shared → Prop}
    (h : wpG M A (isTrue test env (eval test env)) (fun b s₂ => if b then wpG M A (execs body env) Q E s₂ else wpG M A (execs orelse env) Q E s₂) E s) : wpG M A (exec (.If test body orelse pos) env) Q E s := by
  rw [exec_If]
  refine g_step (wpAny_standAt (g_bind (g_mono h (fun b s₂ h₂ => ?_) fun _ _ h' => h')))
  cases b <;> exact h₂
theorem g_Assign {x pos' value pos} {Q : Flow → Shared → Prop} (h : wpG M A (eval value env) (fun v s₁ => wpAny M A (storeName env x v) (fun _ => Q .next) E s₁) E s)
    (hs : swapsWith value (some (.Name x pos')) pos.line env = pure false := by rfl) : wpG M A (exec (.Assign [.Name x pos'] value pos) env) Q E s := fun Γ p hΓ hC => by
  simp only [exec_Assign_Name env x pos' value pos hs, Sem.wp_bind', Sem.wp_cmd_standAt, Sem.wp_bindName, Sem.wp_pure']
  exact Sem.wp_mono M Γ _ (fun v _ s₁ h₁ => h₁ Γ _ hΓ) (fun _ _ _ h' => h') _ _ (h Γ _ hΓ hC)
-- expressions
theorem g_BinOp {l op r pos} {Q : Value → Shared → Prop} (h : wpG M A (eval l env) (fun a s₁ => wpG M A (eval r env) (fun b s₂ => wpAny M A (binaryOp op a b) Q E s₂) E s₁) E s) : wpG M A (eval (.BinOp l op r pos) env) Q E s := fun Γ p hΓ hC => by
  simp only [eval_BinOp, Sem.wp_bind', Sem.wp_holding, Sem.wp_cmd_standAt, Sem.wp_operate]
  exact Sem.wp_mono M Γ _ (fun a p₁ s₁ h₁ => Sem.wp_mono M Γ _ (fun b _ s₂ h₂ => h₂ Γ _ hΓ) (fun _ _ _ h' => h') _ _ (h₁ Γ p₁ hΓ hC)) (fun _ _ _ h' => h') _ _ (h Γ p hΓ hC)
theorem g_Compare {l op r pos} {Q : Value → Shared → Prop} (h : wpG M A (eval l env) (fun a s₁ => wpG M A (eval r env) (fun b s₂ => wpAny M A (compareOp op a b) Q E s₂) E s₁) E s)
    (hm : behindInMarks op r = false := by with_unfolding_all rfl) : wpG M A (eval (.Compare l [op] [r] pos) env) Q E s := fun Γ p hΓ hC => by
  simp only [eval_Compare1, markedBehindIn_of_false hm, Sem.wp_bind', Sem.wp_holding, Sem.wp_cmd_standAt, Sem.wp_operate]
  exact Sem.wp_mono M Γ _ (fun a p₁ s₁ h₁ => Sem.wp_mono M Γ _ (fun b _ s₂ h₂ => h₂ Γ _ hΓ) (fun _ _ _ h' => h') _ _ (h₁ Γ p₁ hΓ hC)) (fun _ _ _ h' => h') _ _ (h Γ p hΓ hC)
theorem g_isTrue_Compare {l op r pos whole} {Q : Bool → Shared → Prop} (h : wpG M A (eval l env) (fun a s₁ => wpG M A (eval r env) (fun b s₂ => wpAny M A (compareOp op a b) (fun c s₃ => wpAny M A (truthy c) Q E s₃) E s₂) E s₁) E s)
    (hm : behindInMarks op r = false := by with_unfolding_all rfl) : wpG M A (isTrue (.Compare l [op] [r] pos) env whole) Q E s := fun Γ p hΓ hC => by
  simp only [isTrue_Compare1, markedBehindIn_of_false hm, Sem.wp_bind', Sem.wp_holding, Sem.wp_cmd_standAt, Sem.wp_operate]
  exact Sem.wp_mono M Γ _ (fun a p₁ s₁ h₁ => Sem.wp_mono M Γ _ (fun b _ s₂ h₂ => Sem.wp_mono M Γ _ (fun c p₃ s₃ h₃ => h₃ Γ p₃ hΓ) (fun _ _ _ h' => h') _ _ (h₂ Γ _ hΓ)) (fun _ _ _ h' => h') _ _ (h₁ Γ p₁ hΓ hC)) (fun _ _ _ h' => h') _ _ (h Γ p hΓ hC)
theorem g_isTrue_not {x pos whole} {Q : Bool → Shared → Prop} (h : wpG M A (isTrue x env (eval x env)) (fun c s' => Q (!c) s') E s) : wpG M A (isTrue (.UnaryOp .Not x pos) env whole) Q E s := by
  show wpG M A (do return !(← isTrue x env (eval x env))) Q E s
  exact g_bind (g_mono h (fun c s' h' => g_pure h') fun _ _ x => x)
theorem g_isTrue_or {x rest pos whole} {Q : Bool → Shared → Prop} (h : wpG M A (isTrue x env (eval x env)) (fun c s' => if c then Q true s' else wpG M A (isTrue (.BoolOp .Or rest pos) env whole) Q E s') E s) :
    wpG M A (isTrue (.BoolOp .Or (x :: rest) pos) env whole) Q E s := by
  show wpG M A (do
    match BoolOp.Or, ← isTrue x env (eval x env) with
    | .And, false => pure false
    | .Or, true => pure true
    | _, _ => allTrue .Or rest env) Q E s
  refine g_bind (g_mono h (fun c s' h' => ?_) fun _ _ x => x)
  cases c with
  | true => exact g_pure h'
  | false => exact h'
theorem g_isTrue_plain {e : Expr} {whole : Sem Value} {Q : Bool → Shared → Prop} (h : wpG M A whole (fun v s₁ => wpAny M A (truthy v) Q E s₁) E s)
    (he : isTrue e env whole = (do let v ← whole; standAt e.pos; holding [v] (truthy v)) := by rfl) : wpG M A (isTrue e env whole) Q E s := by
  rw [he]
  exact g_bind (g_mono h (fun v s₁ h₁ => g_any (wpAny_bind (wpAny_standAt (wpAny_holding h₁)))) fun _ _ x => x)
-- calls
theorem g_spliced_cons {x : Sem Value} {rest : List (Bool × Sem Value)} {Q : List Value → Shared → Prop}
    (h : wpG M A x (fun v s₁ => wpG M A (spliced rest) (fun vs s₂ => Q (v :: vs) s₂) E s₁) E s) : wpG M A (spliced ((false, x) :: rest)) Q E s := by
  rw [spliced]
  refine g_bind (g_mono h (fun v s₁ h₁ => ?_) fun _ _ x => x)
  simp only [Bool.false_eq_true, if_false]
  exact g_bind (g_pure (g_bind (g_holding (g_mono h₁ (fun vs s₂ h₂ => g_pure h₂) fun _ _ x => x))))
theorem g_evalArgs {f : Value} {x : Sem Value} {rest : List (Bool × Sem Value)} {Q : Args → Shared → Prop}
    (h : wpG M A (spliced ((false, x) :: rest)) (fun vs s' => Q ⟨vs, []⟩ s') E s) : wpG M A (evalArgs f true ((false, x) :: rest) []) Q E s := by
  unfold evalArgs
  show wpG M A (spliced ((false, x) :: rest) >>= _) Q E s
  refine g_bind (g_mono h (fun vs s' h' => ?_) fun _ _ x => x)
  exact g_any (wpAny_holding (wpAny_bind (wpAny_pure (wpAny_bind (wpAny_pure (wpAny_pure h'))))))
theorem g_callWith {pos : Pos} {f : Value} {first : List Value} {args : List (Bool × Sem Value)} {P : Heap → Prop} {Q : Value → Shared → Prop} (hplain : args.any (·.1) = false)
    (hk : ∀ h, P h → ∃ k, (k = Keeper.frame ∨ k = Keeper.machine ∨ k = Keeper.boundFrame) ∧ Looks M h (keeperOf f) k)
    (h : wpG M A (evalArgs f true args []) (fun a s₁ => P s₁.heap ∧ wpG M A (call f (first ++ a.pos) a.kw) Q E s₁) E s) : wpG M A (callWith pos f first args []) Q E s := by
  unfold callWith
  refine g_bind (g_holding (g_mono h (fun a s₁ h₁ => g_step (wpAny_standAt ?_)) fun _ _ x => x))
  obtain ⟨k, hk', L⟩ := hk _ h₁.1
  simp only [hplain, List.any_nil, Bool.or_false]
  refine g_step (L.here ?_)
  have tail : ∀ {t : Sem Value}, wpG M A t Q E s₁ → wpG M A (t >>= fun r => holding [r] point >>= fun _ => pure r) Q E s₁ :=
    fun ht => g_bind (g_mono ht (fun r s₂ hr => g_any (wpAny_bind (wpAny_holding (wpAny_point (wpAny_pure hr))))) fun _ _ x => x)
  have marked (mk : Value) : wpG M A (callMarked mk f (first ++ a.pos) a.kw) Q E s₁ := by unfold callMarked; exact g_keep h₁.2
  rcases hk' with rfl | rfl | rfl <;> dsimp only <;> first | exact tail h₁.2 | (split <;> first | exact tail h₁.2 | exact tail (marked _))
theorem g_Call_Name {id : PySem.Str} {p pos : Pos} {args : List Expr} {Q : Value → Shared → Prop}
    (h : wpAny M A (eval (.Name id p) env) (fun f s₁ => wpG M A (callWith pos f [] (backTo pos (starEach args env)) []) Q E s₁) E s) : wpG M A (eval (.Call (.Name id p) args [] pos) env) Q E s := by
  show wpG M A (do callWith pos (← eval (.Name id p) env) [] (backTo pos (starEach args env)) (backToKw pos (keywordEach [] env))) Q E s
  exact g_step h
end
end Mine
end
section
open PySem PySem.W PySem.Spec PySem.Calls PyProof.Rows
open PySem.Sem (wp)
set_option Elab.async false
set_option maxRecDepth 100000
set_option linter.unusedVariables false
namespace Mine

section
variable {prog : Program} {w : World} {A A₀ : Around} {s : Shared} {R : Result → Shared → Prop}
theorem codeG_func {body : List Stmt} {env : Env}
    (h : wpG (model prog w) (A.deeper env) (execs body env) (fun f s' => R (.ok (.ret (match f with | .ret v => v | _ => .none))) s') (fun _ _ => False) s) : codeG (model prog w) A (.func body env) R s := by
  refine codeG_of_tree rfl ?_
  show wpG _ (A.deeper env) (do point; match ← (execs body env).onRaise (leaving env) with | .ret v => ret v | _ => ret .none) _ _ s
  refine g_step (wpAny_point (g_bind (g_onRaise (g_mono h (fun f s' h' => ?_) fun _ _ h' => h'))))
  cases f <;> exact g_pure h'
theorem codeG_call_function {a : Addr} {args : Args} {o : Obj} {fd : FuncData} {body : List Stmt} (hroom : A.depth < recursionLimit) (ho : s.heap.get? a = some o) (hd : o.data = .func fd)
    (hco : fd.scope.isCoroutine = false) (hgen : fd.scope.isGenerator = false) (hbody : fd.body = .stmts body) (hcd : s.heap.CodeRec fd.code fd.qualname)
    (h : wpAny (model prog w) A.in1 (bindArgs fd args) (fun binds s₁ =>
      wpAny (model prog w) A.in1 (newFunctionEnv fd.scope fd.globals fd.closure binds (fd.qualname ++ ".<locals>.") (some a) fd.code none fd.builtins)
        (fun env s₂ => s₂.heap.NoLimit ∧ codeG (model prog w) A (.func body env) R s₂) (fun e s' => R (.error e) s') s₁) (fun e s' => R (.error e) s') s) : codeG (model prog w) A (.call (.ref a) args) R s := by
  refine codeG_of_tree rfl (g_any ?_)
  show wpAny _ A.in1 (callAny (.ref a) args) _ _ s
  simp only [callAny]
  refine wpAny_bind (wpAny_load ho ?_)
  obtain ⟨c, oc, vs, tq, hc, hoc, hdc, hq⟩ := hcd
  simp only [hd, callFunction, hco, hgen, hbody, hc]
  rw [hc] at h
  refine wpAny_bind (m := field (.ref c) 1) (wpAny_field hoc hdc hq (wpAny_bind (wpAny_pure ?_)))
  exact wpAny_bind (wpAny_mono h (fun binds s₁ h₁ => wpAny_bind (wpAny_mono h₁ (fun env s₂ h₂ => wpAny_bind (wpAny_enterFrame h₂.1 hroom (wpAny_pure ⟨rfl, h₂.2⟩))) fun _ _ h' => h')) fun _ _ h' => h')

theorem clean_def {K : Frag} {L : Addr} {h₀ base : Heap} {m mg mb : PySem.Str → Option Value} {news : List (Addr × Obj)} {p : Program} {loose : List PySem.Str} {mean : ExcName → Option Value}
    {env : Env} {outer : List Env} {name qual : PySem.Str} {params : Arguments} {body : List Stmt} {scope : Scope} {dV kV doc pm cdv ct oc : Value} {an od : Option Addr} {osl : Array (Option Value)} {f : Addr} {args : Args} {binds : List (PySem.Str × Value)}
    (B : Below A₀ base outer h₀) (F : Fr h₀ L s.heap m) (X₀ : K.In h₀) (N : News h₀ L s.heap news) (T : Top p loose mean mg mb h₀) (hA : A.frames = some (env :: outer)) (hf : env.frame = some L) (hke : env.scope.kind = .function)
    (ho : K.lookup f = some ⟨oc, od, .func (fnOf name qual params body scope dV kV doc pm an cdv ct), osl⟩) (hcd : codeIn K cdv qual = true) (hroom : A.depth < recursionLimit)
    (hbind : BindsTo s (fnOf name qual params body scope dV kV doc pm an cdv ct) args binds) (hloc : ∀ y ∈ binds, scope.names.lookup y.1 = some .local)
    (h : ∀ g L' h₁, Fr h₀ L g m → Fr g L' h₁ (fun y => binds.reverse.lookup y) → News g L' h₁ news → Below A base (env :: outer) g → K.In g → Top p loose mean mg mb g →
      wpG (model prog w) (A.deeper (envOf qual scope L' f cdv)) (execs body (envOf qual scope L' f cdv))
        (fun fl s' => LeaveK h₀ L m g R (match fl with | .ret v => v | _ => .none) s') (fun _ _ => False) { s with heap := h₁, toks := s.toks + binds.length })
    (hco : scope.isCoroutine = false) (hgen : scope.isGenerator = false) (hk : scope.kind = .function) (hcell : ∀ x ∈ scope.names, x.2 ≠ .cell) : codeG (model prog w) A (.call (.ref f) args) R s := by
  obtain ⟨FG, BG, st, lv⟩ := groundX (R := R) B F N hA hf hke
  refine codeG_call_function hroom ((X₀.keeps F.keep) _ _ ho) rfl hco hgen rfl (codeRec_of (X₀.keeps F.keep) hcd) (hbind _ _ _ _ ?_)
  refine wpAny_newFunctionEnv hcell hloc (fun h₁ hns hsb => ⟨(T.nolimit.keeps F.keep).fresh _ hsb, codeG_func ?_⟩) hk
  have hk₁ : ∀ b o, s.heap.get? b = some o → h₁.get? b = some o := fun b o e => hsb.extBut b o (Nat.ne_of_lt (Heap.lt_size e)) (Heap.get?_push_of_some _ e)
  refine g_mono (h _ s.heap.objs.size h₁ FG ⟨hns, fun b o e => hk₁ b o (of_hideAll _ e), Nat.le_of_eq (hideAll_size _ _)⟩
    (fun p hp => ⟨hk₁ _ _ (N p hp).1, Nat.ne_of_lt (Heap.lt_size (N p hp).1), hideAll_none _ (List.mem_map_of_mem hp)⟩) BG (X₀.keeps st) (T.keeps st)) (fun fl s' hl => lv _ _ hl) fun _ _ y => y
end

-- the head
section
theorem thread_ends_G {prog : Program} {w : World} {t : Sem Fin} {s : Shared} {R : Result → Shared → Prop} (hreg : s.asleep)
    (h : wpG (model prog w) callerA t (fun fin s' => ∃ f, fin = .done f ∧ (R (.ok f) s' ∧ leftWithCleanup s'.gens = false)) (fun e s' => R (.error e) s' ∧ leftWithCleanup s'.gens = false) s) :
    ∃ n r s' s'', runN (denote table) prog w n s ⟨t, .builtin "claim.caller" {}, default, []⟩ = .halted (outcomeOf r) s' ∧
      schedN (denote table) prog w n (.single s ⟨t, .builtin "claim.caller" {}, default, []⟩) = .halted (outcomeOf r) s' ∧ s'.forget = s''.forget ∧ R r s'' := by
  have hc : Clean (⟨.builtin "claim.caller" {}, none, none, [], none⟩ : PySem.Ctx) := ⟨by decide +kernel, fun _ hx => nomatch hx⟩
  have h' : wp (model prog w) ⟨.builtin "claim.caller" {}, none, none, [], none⟩ t (Sem.finPost (model prog w) ⟨.builtin "claim.caller" {}, none, none, [], none⟩ fun r s' => R r s' ∧ leftWithCleanup s'.gens = false)
      (fun e _ s' => R (.error e) s' ∧ leftWithCleanup s'.gens = false) default s := by
    refine Sem.wp_mono _ _ t (fun fin p' s' h' => ?_) (fun _ _ _ h' => h') default s (h _ default caller_in hc)
    obtain ⟨f, rfl, hf⟩ := h'
    exact hf
  obtain ⟨n, r, s₁, s₂, hs, hn, hfo, hR⟩ := wp_halts_full (M := model prog w) (R := R) hreg h'
  exact ⟨n, r, s₂, s₁, hn, hs, hfo, hR⟩

theorem callFrom_G {c : ClaimW} {tree : List Value → Sem Fin} {w : World} {s : Shared} {free : Addr → Prop} {gens : Prop} {kept : Heap → Prop} (hz : s.asleep) (hgens : s.gens = #[])
    (spec : ∀ args, c.pre args = true → WData.layableAll args = true → ∀ ord : List DictEntry → List DictEntry, (∀ l, (ord l).Perm l) →
      ∃ vs s₁, layAllW c.records (classAt s.heap) w.params ord args s = some (vs, s₁) ∧
        wpG (model c.prog w) callerA (tree vs) (fun fin s' => ∃ f, fin = .done f ∧ (c.Ends s args vs s₁ (.ok f) s' ∧ s'.os = s.os ∧ AllBare s'.gens ∧ kept s'.heap))
          (fun e s' => c.Ends s args vs s₁ (.error e) s' ∧ s'.os = s.os ∧ AllBare s'.gens ∧ kept s'.heap) s₁) :
    c.CallFrom (fun vs => ⟨tree vs, .builtin "claim.caller" {}, default, []⟩) w free gens kept s := by
  intro args hpre hlay ord hord
  obtain ⟨vs, s₁, laid, code⟩ := spec args hpre hlay ord hord
  have al := layAllW_rest _ _ _ laid
  obtain ⟨k, r, s', s'', run, sched, fo, ends, os, kp⟩ := thread_ends_G (prog := c.prog) (w := w) (t := tree vs) (s := s₁) (R := fun r s' => c.Ends s args vs s₁ r s' ∧ s'.os = s.os ∧ kept s'.heap)
    (Shared.asleep_of_life al.2.2.2 hz)
    (g_mono code (fun fin s' ⟨f, e, h1, h2, h3, h4⟩ => ⟨f, e, ⟨h1, h2, h4⟩, leftWithCleanup_false_of_bare h3⟩) fun e s' ⟨h1, h2, h3, h4⟩ => ⟨⟨h1, h2, h4⟩, leftWithCleanup_false_of_bare h3⟩)
  obtain ⟨eh, _, _, eo, _⟩ := Shared.forget_eq fo
  have ends := ends.congr eh
  have kp : kept s'.heap := by rw [eh]; exact kp
  have hos : s'.os = s.os := eo.trans os
  have life : s'.heap.life = s.heap.life := (runN_life _ _ _ run).trans al.2.2.2
  refine ⟨vs, s₁, laid, k, _, s', sched, ?_, (fun _ i x hx => by rw [hgens] at hx; simp at hx), kp, by rw [life], Shared.rest_eq hos⟩
  rcases ends with ⟨v, rfl, d1, d2, d3, d4, d5⟩ | ⟨e, ob, cls, rfl, d1, d2, d3, d4, d5⟩
  · exact .inl ⟨v, rfl, d1, d2, d3, fun b o y _ => d4 b o y, d5⟩
  · exact .inr ⟨e, ob, cls, rfl, d1, d2, d3, d4, fun b o y _ => d5 b o y⟩

/-- as the library's WalkO, of clean contexts alone -/
abbrev WalkG (q : Program) (loose : List PySem.Str) (XP : (PySem.Str → Option Value) → Heap → Prop) (YP : World → Heap → Prop) (r : RowW) (d : DefRec) (kwd : List (PySem.Str × Expr)) : Prop :=
  ∀ (w : World) (s₀ s₁ : Shared) (mg mb : PySem.Str → Option Value), Ground q loose r.records XP w s₀ mg mb s₁.heap → YP w s₁.heap → ∀ (a : Addr) (o : Obj) (pm cd doc dV kV : Value), s₁.heap.get? a = some o →
    o.data = .func { docDef d.name d.params d.body d.scope pm cd doc with defaults := dV, kwdefaults := kV } → s₁.heap.CodeRec cd d.name → Dflts mg s₁.heap d.params kwd dV kV → mg d.name = some (.ref a) → s₁.gens = #[] →
    ∀ (args : List WData) (vals : List Value) (as : List Addr), r.claim.pre args = true → WData.layableAll args = true → ReadsAllW r.records (classAt s₀.heap) s₁.heap vals args as → WellAll w.params s₁.heap vals args → (∀ a ∈ as, (a == sysModules) = false) →
      wpG (model r.prog w) callerA (PySem.call (.ref a) vals) (fun v s' => GoodWG r.claim (classAt s₀.heap) (ExcName.means s₀.heap) args s₁ (.ok (.ret v)) s')
        (fun e s' => GoodWG r.claim (classAt s₀.heap) (ExcName.means s₀.heap) args s₁ (.error e) s') s₁

theorem open_G {r : RowW} {q : Program} {loose defs kps : List PySem.Str} {writes : Bool} {Xt : Shared → Bool} {XP : (PySem.Str → Option Value) → Heap → Prop} {α : Type} {Yf : Shared → α} {Ya : World → α} {YP : World → Heap → Prop} {N : Nat} {tree : List Value → Sem Fin}
    (left : LeftO r.prog q loose Xt Yf Ya N) (hY : ∀ w s, Yf s = Ya w → YP w s.heap) (hYk : ∀ w h h', YP w h → (∀ b o, h.get? b = some o → h'.get? b = some o) → YP w h')
    (hX : ∀ s, Xt s = true → XP (s.heap.nsMap mainGlobals) s.heap) (hXk : ∀ mg h h', XP mg h → (∀ b o, h.get? b = some o → h'.get? b = some o) → XP mg h')
    (hRf : ∀ s, Xt s = true → RecFacts r.records s.heap) (hwr : (!writes || r.records.isEmpty) = true) (ok : (chainsOk q && opensWell r.prog && (frees r && r.within.isEmpty)) = true) (hb : r.prog.bare) (hw : r.promised)
    (pin : ∀ w s, s.heap.isNs mainGlobals = true → Ground q loose [] XP w s (s.heap.nsMap mainGlobals) (s.heap.nsMap builtinsNs) s.heap → ∀ n ∈ defs, isTheDefsW r.prog s.heap n)
    (call : ∀ (w : World) (s₀ s₁ : Shared) (mg mb : PySem.Str → Option Value), Ground q loose r.records XP w s₀ mg mb s₁.heap → YP w s₁.heap → ∀ (args : List WData) (vs : List Value) (as : List Addr),
      r.claim.pre args = true → WData.layableAll args = true → Laid r.records w s₀ s₁ args vs as → sysModules < s₀.heap.objs.size →
        wpG (model r.prog w) callerA (tree vs) (fun fin s' => ∃ f, fin = .done f ∧ GoodWG r.claim (classAt s₀.heap) (ExcName.means s₀.heap) args s₁ (.ok f) s')
          (fun e s' => GoodWG r.claim (classAt s₀.heap) (ExcName.means s₀.heap) args s₁ (.error e) s') s₁) : r.claim.HoldsOpenBy (fun vs => ⟨tree vs, .builtin "claim.caller" {}, default, []⟩) defs kps writes := by
  obtain ⟨ok, k5⟩ := Bool.and_eq_true_iff.mp ok
  obtain ⟨hch, o1⟩ := Bool.and_eq_true_iff.mp ok
  obtain ⟨k5, k6⟩ := Bool.and_eq_true_iff.mp k5
  obtain ⟨hsame, hu, ha, hap, hm⟩ := frees_parts k5
  have hi := ident_freeW hu ha hap
  have hwi : r.claim.within = [] := List.isEmpty_iff.mp k6
  refine ⟨⟨hb, o1, by show r.makers.map _ = []; rw [hm]; rfl⟩, hw.witness, fun w => ⟨(left.behind hX hch w).1, fun s' hs' => ?_⟩⟩
  obtain ⟨s₀, hf, hg0, s, hT, hz, hgens, hg, G00, y⟩ := (left.behind (XP := fun mg h => XP mg h ∧ RecFacts r.records h) (fun s hs => ⟨hX s hs, hRf s hs⟩) hch w).2 s' hs'
  have G0 : Ground q loose [] XP w s (s.heap.nsMap mainGlobals) (s.heap.nsMap builtinsNs) s.heap := ⟨G00.T, G00.B, G00.D, G00.TE, G00.TD, G00.W, G00.X.1, G00.cls, G00.has, G00.apart, G00.once, G00.K⟩
  have RF := G00.X.2
  have hT' := hT
  refine ⟨s₀, hf, hg0, s, hT, pin w s hg G0, RF.1, RF.2.1, ?_⟩
  have hgens : s.gens = #[] := Array.eq_empty_of_size_eq_zero (beq_iff_eq.mp hgens)
  have G : Ground q loose r.records XP w s _ _ s.heap := RF.ground G0
  refine callFrom_G (c := r.claim) hz hgens fun args hpre hlay ord hord => ?_
  obtain ⟨⟨vs, s₁⟩, hlaid⟩ := Option.isSome_iff_exists.mp (layAllW_isSome (P := w.params) (ord := ord) G.has args r.args s (pre_splitW hpre).1)
  have keeps := layAllW_keeps _ _ _ hlaid
  have hal := layAllW_rest _ _ _ hlaid
  obtain ⟨as, hrd, hin, hold⟩ := reads_layAllW hord _ _ _ hlaid hlay s₁.heap (fun _ _ e => e)
  have L : Laid r.records w s s₁ args vs as := ⟨⟨ord, hord, hlaid⟩, hrd, hin, hold, keeps, hal.1.trans hgens, hal.2.2.1⟩
  have h := call w s s₁ _ _ (G.keeps hXk keeps) (hYk _ _ _ (hY w s y) keeps) args vs as hpre hlay L G.low
  have fin : ∀ {rr : Result} {s' : Shared}, GoodWG r.claim (classAt s.heap) (ExcName.means s.heap) args s₁ rr s' → r.claim.Ends s args vs s₁ rr s' ∧ s'.os = s.os ∧ AllBare s'.gens ∧
      (writes = true → namesKept r.claim.prog kps s.heap s'.heap ∧ ∀ x ∈ r.claim.records, ∀ a, classAt s.heap x.1 = some a → recordClass s'.heap a x.1 (x.2.map (·.1)) = true) := fun g => by
    have z := g.laid (c := r.claim) hsame hwi hi L
    exact ⟨z.1, z.2.1, z.2.2, fun q => ⟨namesKept_of hT' hg kps keeps g.2.1.old, noTable hwr q⟩⟩
  exact ⟨vs, s₁, hlaid, g_mono h (fun fn s' ⟨f, e, g⟩ => ⟨f, e, fin g⟩) fun e s' g => fin g⟩

theorem holdsG {r : OpenRow} {q : Program} {loose : List PySem.Str} {Xt : Shared → Bool} {XP : (PySem.Str → Option Value) → Heap → Prop} {α : Type} {Yf : Shared → α} {Ya : World → α} {YP : World → Heap → Prop} {d : DefRec} {kwd : List (PySem.Str × Expr)} {N : Nat}
    (left : LeftO r.prog q loose Xt Yf Ya N) (hY : ∀ w s, Yf s = Ya w → YP w s.heap) (hYk : ∀ w h h', YP w h → (∀ b o, h.get? b = some o → h'.get? b = some o) → YP w h')
    (hX : ∀ s, Xt s = true → XP (s.heap.nsMap mainGlobals) s.heap) (hXk : ∀ mg h h', XP mg h → (∀ b o, h.get? b = some o → h'.get? b = some o) → XP mg h')
    (hdef : defOf q r.name = some (d, kwd)) (hp : r.prog.theDef r.name = some (d.params, d.body, d.scope)) (hk : kwWritten? d.params.kwonlyargs d.params.kw_defaults = some kwd) (hRf : ∀ s, Xt s = true → RecFacts r.records s.heap) (hwr : (!r.writes || r.records.isEmpty) = true)
    (k1 : r.wellSaid = true) (ok : (chainsOk q && opensWell r.prog && (frees r.toRowW && r.within.isEmpty)) = true) (hb : r.prog.bare) (hw : r.toRowW.promised)
    (call : WalkG q loose XP YP r.toRowW d kwd) : r.Holds := by
  refine ⟨k1, hw, open_G (r := r.toRowW) (tree := fun vs => do match ← nsGet mainNs r.name with
      | some f => do ret (← PySem.call f vs)
      | none => unsupported "claim.caller:no-such-global") left hY hYk hX hXk hRf hwr ok hb hw (fun w s hg G n hn => ?_) fun w s₀ s₁ mg mb G Y args vs as hpre hlay L low => ?_⟩
  · obtain rfl : n = r.name := by split at hn <;> simp_all
    exact pinned_of_view hg G hdef hp hk
  · obtain ⟨a, o, pm, cd, doc, dV, kV, h1, h2, h3, h4, h5⟩ := G.fn hdef
    refine g_step (wpAny_nsGet G.T.g ?_)
    rw [h1]
    exact g_bind (g_mono (call w s₀ s₁ mg mb G Y a o pm cd doc dV kV h2 h3 h4 h5 (defOf_name hdef ▸ h1) L.gens args vs as hpre hlay L.reads L.well (L.low low)) (fun v s' h => g_pure ⟨_, rfl, h⟩) fun _ _ h => h)
end
end Mine
end
section
open PySem PySem.W PySem.Spec PySem.Calls PyProof.Rows
open PySem.Sem (wp)
set_option Elab.async false
set_option maxRecDepth 100000
set_option linter.unusedVariables false
namespace Mine
namespace BA
open Builtin
theorem slot_init : Slot "bytearray" "__init__" "bytearray.__init__" :=
  .of (owner := "bytearray") (n := "__init__") (by rw [typeLookup_type, builtinLookup_eq_fast]; kernel_rfl) (by decide +kernel) (by decide +kernel) (by decide +kernel)
    (by first | exact .inl (by decide +kernel) | exact .inr (by decide +kernel)) (by rw [isSubtype_type]; kernel_rfl)
theorem slot_setitem : Slot "bytearray" "__setitem__" "bytearray.__setitem__" :=
  .of (owner := "bytearray") (n := "__setitem__") (by rw [typeLookup_type, builtinLookup_eq_fast]; kernel_rfl) (by decide +kernel) (by decide +kernel) (by decide +kernel)
    (by first | exact .inl (by decide +kernel) | exact .inr (by decide +kernel)) (by rw [isSubtype_type]; kernel_rfl)
theorem mro : mroOf (.type "bytearray") = pure [.type "bytearray", .type "object"] := by rw [mroOf_type]; kernel_rfl
theorem lookup_new : typeLookup (.type "bytearray") "__new__" = pure (some (.builtin "bytearray.__new__")) := by rw [typeLookup_type, builtinLookup_eq_fast]; kernel_rfl
theorem called : TypeCalled "bytearray" "bytearray.__new__" "bytearray.__init__" :=
  ⟨by decide +kernel, by decide +kernel, ⟨_, _, mro⟩, madeBy_type mro lookup_new (by decide +kernel), by decide +kernel, by rw [isSubtype_type]; kernel_rfl, slot_init⟩
theorem typeCall (a : Value) : checkTypeCall "bytearray" ⟨[a], []⟩ = pure () := by kernel_rfl
theorem newCall (a : Value) : checkBuiltinCall "bytearray.__new__" ⟨[.type "bytearray", a], []⟩ = pure () := by kernel_rfl
theorem entry_new : entryFor table "bytearray.__new__" = some Builtin.«list.__new__» := entryFor_alias (id' := "list.__new__") (by kernel_rfl) rfl (by decide +kernel) (by kernel_rfl)
theorem plain_new : plainId "bytearray.__new__" = true := by decide +kernel
theorem plain_init : plainId "bytearray.__init__" = true := by decide +kernel
theorem entry_init : entryFor table "bytearray.__init__" = some Builtin.«bytearray.__init__» := entryFor_of_tree (by kernel_rfl)
theorem entry_setitem : entryFor table "bytearray.__setitem__" = some Builtin.«bytearray.__setitem__» := entryFor_of_tree (by kernel_rfl)
theorem args_init (a b : Value) : argsOk "bytearray.__init__" ⟨[a, b], []⟩ := by unfold argsOk; kernel_rfl
theorem args_setitem (a b c : Value) : argsOk "bytearray.__setitem__" ⟨[a, b, c], []⟩ := by unfold argsOk; kernel_rfl
set_option maxRecDepth 1000000 in
set_option maxHeartbeats 4000000 in
theorem owner_new : ("bytearray.__new__".splitOn ".__new__").headD "" = "bytearray" := by simp +decide [String.splitOn, String.splitOnAux]
theorem sub_self : isSubtype (.type "bytearray") (.type "bytearray") = pure true := by rw [isSubtype_type]; kernel_rfl
theorem bind_init (v : Value) : Bytes.bindOptional "bytearray.__init__" "bytearray" ["source", "encoding", "errors"] [v] [] = pure [some v, none, none] := by kernel_rfl
theorem release_look : typeLookup (.type "bytearray") "__release_buffer__" = pure (some (.builtin "bytearray.__release_buffer__")) := by rw [typeLookup_type, builtinLookup_eq_fast]; kernel_rfl
theorem buffer_look : typeLookup (.type "bytearray") "__buffer__" = pure (some (.builtin "bytearray.__buffer__")) := by rw [typeLookup_type, builtinLookup_eq_fast]; kernel_rfl
theorem look_bytes : typeLookup (.type "bytearray") "__bytes__" = pure none := by rw [typeLookup_type, builtinLookup_eq_fast]; kernel_rfl
theorem look_index : typeLookup (.type "bytearray") "__index__" = pure none := by rw [typeLookup_type, builtinLookup_eq_fast]; kernel_rfl
end BA

section
variable {prog : Program} {w : World} {A : Around} {E : Value → Shared → Prop} {s : Shared}
theorem ba_new (a : Value) {Q₁ : Value → Shared → Prop}
    (h : Q₁ (.ref s.heap.objs.size) { s with heap := s.heap.push { cls := .type "bytearray", data := .bytearray #[] } }) :
    codeAny (model prog w) A (.call (.builtin "bytearray.__new__") ⟨[.type "bytearray", a], []⟩) (wants Q₁ E) s := by
  refine codeAny_of_tree ?_
  show wpAny _ A.in1 (do checkBuiltinCall "bytearray.__new__" ⟨[.type "bytearray", a], []⟩; again (.builtin "bytearray.__new__" ⟨[.type "bytearray", a], []⟩)) _ _ s
  refine wpAny_bind (wpAny_of_eq (BA.newCall a) (wpAny_pure ⟨plainId_quiet BA.plain_new _, codeAny_builtin_stack BA.entry_new rfl fun p st => ?_⟩))
  rw [Around.under_plainId BA.plain_new _]
  have hsub := BA.sub_self
  have hown := BA.owner_new
  obtain ⟨hp, g, d, tk, os⟩ := s
  simp only [hown]
  wp_walk
  exact h
end
end Mine
end
section
open PySem PySem.W PySem.Spec PySem.Calls PyProof.Rows
open PySem.Sem (wp)
set_option Elab.async false
set_option maxRecDepth 100000
set_option linter.unusedVariables false
namespace Mine
open Builtin (Bytes.exported Bytes.exportsOf)

theorem okC_dec {id : String} {args : Args} (h : okC (.builtin id args) = true) : (Builtin.Bytes.decodersThatHold.contains id) = false := by
  have h' : dirtyIds.contains id = false := by simpa [okC] using h
  cases q : Builtin.Bytes.decodersThatHold.contains id with
  | false => rfl
  | true =>
    have : dirtyIds.contains id = true := by
      unfold dirtyIds
      rw [List.contains_iff_mem] at q ⊢
      exact List.mem_append_right _ q
    rw [h'] at this; cases this
theorem okC_1 {args : Args} (h : okC (.builtin "bytearray.__contains__" args) = true) : False := absurd (show (!dirtyIds.contains "bytearray.__contains__") = true from h) (by decide +kernel)
theorem okC_2 {args : Args} (h : okC (.builtin "bytearray.__mod__" args) = true) : False := absurd (show (!dirtyIds.contains "bytearray.__mod__") = true from h) (by decide +kernel)
theorem okC_3 {args : Args} (h : okC (.builtin "bytearray.__rmod__" args) = true) : False := absurd (show (!dirtyIds.contains "bytearray.__rmod__") = true from h) (by decide +kernel)
theorem okC_4 {args : Args} (h : okC (.builtin "_struct.pack_into.held" args) = true) : False := absurd (show (!dirtyIds.contains "_struct.pack_into.held") = true from h) (by decide +kernel)
theorem okC_5 {args : Args} (h : okC (.builtin "bytearray.find.held" args) = true) : False := absurd (show (!dirtyIds.contains "bytearray.find.held") = true from h) (by decide +kernel)

section
variable {M : Model} {prog : Program} {w : World} {A : Around} {E : Value → Shared → Prop} {s : Shared}
theorem g_exported {self : Value} {Q : Bool → Shared → Prop} (h : Q false s) : wpG M A (Builtin.Bytes.exported self) Q E s := fun Γ p hΓ hC => by
  unfold Builtin.Bytes.exported
  show Q (((Γ.code, p) :: Γ.below).any _) s
  rw [List.any_eq_false.mpr]
  · exact h
  · rintro ⟨c, pp⟩ hx
    have hx' : okC c = true := by
      rcases List.mem_cons.mp hx with e | hx
      · cases e; exact hC.1
      · exact hC.2 _ hx
    rw [Bool.not_eq_true]
    cases c with
    | builtin id args =>
      have n1 : id ≠ "bytearray.__contains__" := fun e => by subst e; exact okC_1 hx'
      have n2 : id ≠ "bytearray.__mod__" := fun e => by subst e; exact okC_2 hx'
      have n3 : id ≠ "bytearray.__rmod__" := fun e => by subst e; exact okC_3 hx'
      have n4 : id ≠ "_struct.pack_into.held" := fun e => by subst e; exact okC_4 hx'
      have n5 : id ≠ "bytearray.find.held" := fun e => by subst e; exact okC_5 hx'
      obtain ⟨pos, kw⟩ := args
      cases pos with
      | nil =>
        delta Builtin.Bytes.exported.match_1
        change dite (id = "bytearray.__contains__") _ _ = false
        rw [dif_neg n1, dif_neg n2, dif_neg n3, dif_neg n4, dif_neg n5]
      | cons v vs =>
        delta Builtin.Bytes.exported.match_1
        change dite (id = "bytearray.__contains__") _ _ = false
        rw [dif_neg n1, dif_neg n2, dif_neg n3, dif_neg n4, dif_neg n5]
        show (Builtin.Bytes.sameRef v self && Builtin.Bytes.decodersThatHold.contains id) = false
        rw [okC_dec hx', Bool.and_false]
    | _ => rfl
abbrev baObj (b : Array UInt8) : Obj := { cls := .type "bytearray", data := .bytearray b }
theorem ba_write {a : Addr} {f : Array UInt8 → Array UInt8} {b : Array UInt8} {Q : Unit → Shared → Prop} (ho : s.heap.get? a = some (baObj b)) (hz : (f b).size ≤ sizeLine)
    (h : ∀ h', h'.get? a = some (baObj (f b)) → Heap.SameBut a s.heap h' → Q () { s with heap := h' }) : wpAny M A (Builtin.Bytes.write (.ref a) f) Q E s := by
  show wpAny M A (updateBytearray a f) Q E s
  unfold updateBytearray
  refine wpAny_bind (wpAny_load ho ?_)
  show wpAny M A (update a (Obj.mapBytearray f) >>= fun _ => lookBehind a) Q E s
  refine wpAny_bind (wpAny_update ho ?_)
  have ho' : (s.heap.update a (Obj.mapBytearray f)).get? a = some (baObj (f b)) := Heap.get?_update_self (Obj.mapBytearray f) ho rfl
  refine wpAny_lookBehind ho' ?_ (h _ ho' (Heap.SameBut.update ..))
  show (if (f b).size > sizeLine then some "bytearray:memory" else none) = none
  rw [if_neg (Nat.not_lt.mpr hz)]

theorem ba_typeIs {a : Addr} {b : Array UInt8} (ho : s.heap.get? a = some (baObj b)) : s.TypeIs (.ref a) "bytearray" := ⟨_, ho, rfl⟩
theorem ba_payload {a : Addr} {b : Array UInt8} {Q : Array UInt8 → Shared → Prop} (ho : s.heap.get? a = some (baObj b)) (h : Q b s) : wpAny M A (Builtin.Bytes.payload (.ref a)) Q E s := by
  unfold Builtin.Bytes.payload Builtin.Bytes.payload?
  exact wpAny_bind (wpAny_bind (wpAny_load ho (wpAny_pure (wpAny_pure h))))
theorem ba_exportsOf {a : Addr} {b : Array UInt8} {Q : Nat → Shared → Prop} (ho : s.heap.get? a = some (baObj b)) (h : Q 0 s) : wpAny M A (Builtin.Bytes.exportsOf (.ref a)) Q E s := by
  show wpAny M A (load a >>= _) Q E s
  exact wpAny_bind (wpAny_load ho (wpAny_pure h))
theorem ba_slotOwn {a : Addr} {b : Array UInt8} {Q : Bool → Shared → Prop} {nm id : String} (ho : s.heap.get? a = some (baObj b)) (hl : typeLookup (.type "bytearray") (PySem.Str.ofString nm) = pure (some (.builtin id)))
    (he : id.endsWith ("." ++ nm) = true) (hd : id.dropRight (nm.length + 1) = "bytearray") (h : Q true s) : wpAny M A (Builtin.Bytes.slotIsOwn (.ref a) nm) Q E s := by
  unfold Builtin.Bytes.slotIsOwn
  refine wpAny_bind (wpAny_specialOf (ba_typeIs ho) hl ?_)
  show wpAny M A (if (!(id.endsWith ("." ++ nm))) = true then _ else _) Q E s
  rw [he, if_neg (by decide), hd]
  exact wpAny_isInstance (ba_typeIs ho) BA.sub_self h
theorem ba_ownRelease {a : Addr} {b : Array UInt8} {Q : Bool → Shared → Prop} (ho : s.heap.get? a = some (baObj b)) (h : Q false s) : wpAny M A (Builtin.Bytes.ownRelease (.ref a)) Q E s := by
  unfold Builtin.Bytes.ownRelease
  exact wpAny_bind (ba_slotOwn (nm := "__release_buffer__") ho BA.release_look (by decide +kernel) (by decide +kernel) (wpAny_pure h))

theorem ba_setItem {a : Addr} {b : Array UInt8} {k v : Int} {t u : Tok} {Q : Unit → Shared → Prop} (ho : s.heap.get? a = some (baObj b)) (h0 : 0 ≤ k) (h1 : k < b.size) (hz : b.size ≤ sizeLine) (v0 : 0 ≤ v) (v1 : v < 256)
    (h : ∀ h', h'.get? a = some (baObj (b.setIfInBounds k.toNat v.toNat.toUInt8)) → Heap.SameBut a s.heap h' → Q () { s with heap := h' }) : wpAny (model prog w) A (setItem (.ref a) (.int k t) (.int v u)) Q E s := by
  unfold setItem
  try with_reducible refine wpAny_holding ?_
  first | refine wpAny_bind (wpAny_pure ?_) | skip
  have hlim : sizeLine = 16777216 := by decide
  have hfit : Builtin.Bytes.fitsIndex k = true := by
    simp only [Builtin.Bytes.fitsIndex, Bool.and_eq_true, decide_eq_true_eq]; omega
  have hidx : seqIndex? k b.size = some k.toNat := by
    have hn : ¬ k < 0 := by omega
    simp [seqIndex?, hn, h0, h1]
  refine wpAny_bind (wpAny_sequenceKey (ba_typeIs ho) (by decide) ?_)
  refine wpAny_bind (wpAny_callSpecial?_slot (name := PySem.Str.ofString "__setitem__") (ba_typeIs ho) BA.slot_setitem
    (wpAny_call_entry BA.slot_setitem (ba_typeIs ho) BA.entry_setitem ?_ (BA.args_setitem _ _ _)))
  show wpAny _ _ (Builtin.Bytes.subscript? (.int k t) >>= _) _ _ s
  refine wpAny_bind ?_
  unfold Builtin.Bytes.subscript?
  refine wpAny_bind (wpAny_specialOf (typeIs_int s k t) F.slot_int_index.lookup ?_)
  show wpAny _ _ (if (!Builtin.Bytes.fitsIndex k) = true then _ else pure (some k)) _ E s
  rw [hfit]
  refine wpAny_pure ?_
  show wpAny _ _ (Builtin.Bytes.byteValue (.int v u) >>= _) _ _ s
  refine wpAny_bind ?_
  unfold Builtin.Bytes.byteValue
  refine wpAny_bind (wpAny_of_eq (rfl : asIndex (.int v u) = pure v) ?_)
  refine bm_if_false (by simp only [Bool.or_eq_false_iff, decide_eq_false_iff_not]; omega) ?_
  refine wpAny_pure ?_
  refine wpAny_bind (ba_payload ho ?_)
  rw [hidx]
  refine wpAny_bind (ba_write ho (by rw [Array.size_setIfInBounds]; exact hz) fun h' e hs => ?_)
  exact wpAny_pure ⟨_, rfl, wpAny_pure (h h' e hs)⟩

theorem bytes_of_ba {a : Addr} {b : Array UInt8} {Q : Value → Shared → Prop} (ho : s.heap.get? a = some (baObj b)) (hz : b.size ≤ sizeLine) (h : ∀ t k, Q (.bytes b t) { s with toks := k }) : wpAny (model prog w) A (call (.type "bytes") [.ref a]) Q E s := by
  have hT := ba_typeIs ho
  refine callType_codes (Q₁ := fun obj s₁ => s₁.TypeIs obj "bytes" ∧ Q obj s₁) F.bm_called (F.bm_typeCall _) F.entry_object_init ?_ fun obj s₁ h₁ => ?_
  · refine codeAny_of_tree ?_
    show wpAny _ A.in1.in1 (do checkBuiltinCall "bytes.__new__" ⟨[.type "bytes", .ref a], []⟩; again (.builtin "bytes.__new__" ⟨[.type "bytes", .ref a], []⟩)) _ _ s
    refine wpAny_bind (wpAny_of_eq (F.bm_newCall _) (wpAny_pure ⟨plainId_quiet F.bm_plain _, codeAny_builtin F.bm_entry ?_⟩))
    rw [Around.under_plainId F.bm_plain _]
    unfold Builtin.«bytes.__new__»
    refine wpAny_bind (wpAny_of_eq (a := true) rfl ?_)
    refine bm_if_false rfl ?_
    refine wpAny_bind (wpAny_of_eq F.bm_sub ?_)
    refine bm_if_false rfl ?_
    refine wpAny_bind (wpAny_of_eq (F.bm_bind _) ?_)
    refine wpAny_bind (wpAny_of_eq (a := ()) rfl ?_)
    refine wpAny_bind (wpAny_of_eq (a := ()) rfl ?_)
    refine bm_if_false rfl ?_
    refine wpAny_bind (wpAny_specialOf hT BA.look_bytes ?_)
    refine wpAny_bind (wpAny_bind ?_)
    show wpAny _ _ (load a >>= _) _ _ _
    refine wpAny_bind (wpAny_load ho ?_)
    refine wpAny_pure (wpAny_pure ?_)
    refine bm_if_false rfl ?_
    refine wpAny_bind (wpAny_specialOf hT BA.look_index ?_)
    refine bm_if_true rfl ?_
    first
      | show wpAny _ _ (Builtin.Bytes.buffer? "bytes.__new__" (.ref a) true >>= _) _ _ _
      | (refine wpAny_bind ?_; show wpAny _ _ (Builtin.Bytes.buffer? "bytes.__new__" (.ref a) true >>= _) _ _ _)
    refine wpAny_bind ?_
    unfold Builtin.Bytes.buffer?
    refine wpAny_bind (wpAny_specialOf hT BA.buffer_look ?_)
    dsimp only
    refine wpAny_bind (ba_slotOwn (nm := "__buffer__") ho BA.buffer_look (by decide +kernel) (by decide +kernel) ?_)
    refine bm_if_false rfl ?_
    refine wpAny_bind (wpAny_specialOf hT BA.buffer_look ?_)
    refine wpAny_bind (ba_ownRelease ho ?_)
    refine bm_if_false rfl ?_
    refine wpAny_bind (ba_payload ho (wpAny_pure ?_))
    refine wpAny_bind (wpAny_rule ?_)
    refine wpAny_bind (wpAny_mkBytes ?_ hz)
    show wpAny _ _ (if (Value.type "bytes" == Value.type "bytes") = true then _ else _) _ _ _
    refine bm_if_true (by decide) ?_
    first
      | exact wpAny_pure ⟨typeIs_bytes _ _ _, h _ _⟩
      | exact wpAny_bind (wpAny_pure (wpAny_pure ⟨typeIs_bytes _ _ _, h _ _⟩))
  · exact ⟨h₁.1, F.args_object_init_2 obj _, object_init_meets F.bm_called.init.lookup F.bm_called.made (by decide) prog w A.in1 _ s₁ ⟨h₁.1, rfl, h₁.2⟩⟩
end
end Mine
end
section
open PySem PySem.W PySem.Spec PySem.Calls PyProof.Rows
open PySem.Sem (wp)
set_option Elab.async false
set_option maxRecDepth 100000
set_option linter.unusedVariables false
namespace Mine
section
variable {prog : Program} {w : World} {A : Around} {E : Value → Shared → Prop} {s : Shared}
theorem codeG_builtin {id : String} {args : Args} {b : Builtin} {R : Result → Shared → Prop} (ok : okC (.builtin id args) = true) (hb : entryFor table id = some b)
    (h : wpG (model prog w) (A.under (.builtin id args)) (b args)
      (fun fin s' => match fin with | .done f => R (.ok f) s' | .again c' => c'.quiet = true ∧ codeG (model prog w) A c' R s') (fun e s' => R (.error e) s') s) : codeG (model prog w) A (.builtin id args) R s := by
  refine codeG_of_tree ok ?_
  show wpG _ _ (match entryFor table id with | some b => b args | none => unsupported ((withoutEnding? id "#data").getD id)) _ _ s
  rw [hb]; exact h
theorem g_call_entry {T : String} {name : PySem.Str} {id : String} {b : Builtin} {self : Value} {rest : List Value} {Q : Value → Shared → Prop} (h : Slot T name id) (hT : s.TypeIs self T) (hb : entryFor table id = some b)
    (ok : ∀ args, okC (.builtin id args) = true) (hc : wpG (model prog w) A.in1 (b ⟨self :: rest, []⟩) (fun fin s' => ∃ v, fin = .done (.ret v) ∧ Q v s') E s) (ha : argsOk id ⟨self :: rest, []⟩) :
    wpG (model prog w) A (call (.builtin id) (self :: rest)) Q E s := by
  refine g_call (codeG_of_tree rfl ?_)
  show wpG _ A.in1 (do checkBuiltinCall id ⟨self :: rest, []⟩; again (.builtin id ⟨self :: rest, []⟩)) _ _ s
  refine g_step (h.check _ _ _ _ _ _ _ _ hT ha (g_pure ⟨plainId_quiet h.plain _, codeG_builtin (ok _) hb ?_⟩))
  rw [Around.under_plainId h.plain _]
  refine g_mono hc (fun fin s' h' => ?_) fun _ _ h' => h'
  obtain ⟨v, rfl, hv⟩ := h'; exact hv
theorem g_typeCall {T newId initId : String} {Bi : Builtin} {args : List Value} {Q Q₁ : Value → Shared → Prop} (ft : TypeCalled T newId initId)
    (hct : checkTypeCall T ⟨args, []⟩ = pure ()) (entryI : entryFor table initId = some Bi) (ok : ∀ args, okC (.builtin initId args) = true)
    (hnew : codeAny (model prog w) A.in1 (.call (.builtin newId) ⟨.type T :: args, []⟩) (wants Q₁ E) s)
    (hnext : ∀ obj s₁, Q₁ obj s₁ → s₁.TypeIs obj T ∧ argsOk initId ⟨obj :: args, []⟩ ∧
      wpG (model prog w) A.in1.in1 (Bi ⟨obj :: args, []⟩) (fun fin s' => fin = .done (.ret .none) ∧ Q obj s') E s₁) :
    wpG (model prog w) A (call (.type T) args) Q E s := by
  obtain ⟨c, tl, hmro⟩ := ft.mro
  have hmade := ft.made
  have hsub := ft.sub
  refine g_call (codeG_of_tree rfl ?_)
  show wpG _ _ (callAny (.type T) _) _ _ _
  refine g_pure ⟨Code.quiet_builtin _ (by decide +kernel), codeG_builtin (show (!dirtyIds.contains "type.__call__") = true by decide +kernel) F.entry_type_call ?_⟩
  rw [Around.under_plain (weight_type_call_type T args []) rfl]
  have h1 := ft.notType
  have h2 := ft.canCreate
  unfold Builtin.«type.__call__»
  dsimp only
  rw [h1]
  rw [if_neg (by decide), if_neg (by rw [h2]; decide)]
  refine g_step (wpAny_of_eq hct ?_)
  refine g_step (wpAny_of_eq hmro ?_)
  rw [if_neg (by simp)]
  refine g_step (wpAny_of_eq hmade ?_)
  dsimp only
  refine g_step (wpAny_pure ?_)
  refine g_step (wpAny_holding (wpAny_call (codeAny_mono hnew fun r s₁ hr => ?_)))
  cases r with
  | error e => exact hr
  | ok fl =>
    cases fl with
    | ret obj =>
      obtain ⟨hT, hok, hsi⟩ := hnext _ _ hr
      refine g_step (wpAny_isInstance hT hsub ?_)
      rw [if_neg (by decide)]
      refine g_bind (g_holding ?_)
      simp only [callSpecial?]
      refine g_step (wpAny_specialOf hT ft.init.lookup ?_)
      simp only [ft.init.bind]
      refine g_holding (g_step (wpAny_pure ?_))
      refine g_bind (g_mono (g_call_entry (Q := fun v s' => v = .none ∧ Q obj s') ft.init hT entryI ok (g_mono hsi (fun fin s' h' => ⟨_, h'.1, rfl, h'.2⟩) fun _ _ h' => h') hok) (fun v s' h' => g_pure ?_) fun _ _ h' => h')
      obtain ⟨rfl, hq⟩ := h'
      exact g_any (wpAny_pure hq)
    | _ => exact hr.elim

theorem g_if_false {α : Type} {M : Model} {c : Bool} {a b : Sem α} {Q : α → Shared → Prop} (hc : c = false) (h : wpG M A b Q E s) : wpG M A (if c = true then a else b) Q E s := by
  subst hc
  exact h
theorem g_if_true {α : Type} {M : Model} {c : Bool} {a b : Sem α} {Q : α → Shared → Prop} (hc : c = true) (h : wpG M A a Q E s) : wpG M A (if c = true then a else b) Q E s := by
  subst hc
  exact h
theorem g_init {a : Addr} {n : Int} {t : Tok} {Q : Shared → Prop} (ho : s.heap.get? a = some (baObj #[])) (h0 : 0 ≤ n) (h1 : n ≤ 16777216)
    (h : ∀ h', h'.get? a = some (baObj (Array.replicate n.toNat 0)) → Heap.SameBut a s.heap h' → Q { s with heap := h' }) :
    wpG (model prog w) A (Builtin.«bytearray.__init__» ⟨[.ref a, .int n t], []⟩) (fun fin s' => fin = .done (.ret .none) ∧ Q s') E s := by
  have hlim : sizeLine = 16777216 := by decide
  unfold Builtin.«bytearray.__init__»
  refine g_step (ba_ownRelease ho ?_)
  refine g_if_false rfl ?_
  refine g_step (wpAny_of_eq (BA.bind_init _) ?_)
  refine g_step (wpAny_of_eq (a := ()) rfl ?_)
  refine g_step (wpAny_of_eq (a := ()) rfl ?_)
  refine g_bind ?_
  unfold orM
  refine g_bind (g_exported ?_)
  refine g_any ?_
  show wpAny _ _ (Builtin.Bytes.exportsOf (.ref a) >>= _) _ _ _
  refine wpAny_bind (ba_exportsOf ho (wpAny_pure ?_))
  refine g_if_false (by decide) ?_
  refine g_step (ba_write ho (Nat.zero_le _) fun h₁ e₁ s₁ => ?_)
  refine g_step (wpAny_of_eq (a := none) rfl ?_)
  refine g_if_false rfl ?_
  refine g_step (wpAny_of_eq (a := ()) rfl ?_)
  refine g_step (wpAny_specialOf (typeIs_int _ n t) F.slot_int_index.lookup ?_)
  refine g_if_true rfl ?_
  refine g_step (wpAny_attempt (wpAny_of_eq (rfl : asIndex (.int n t) = pure n) ?_))
  dsimp only
  refine g_if_false (by simp only [Builtin.Bytes.fitsIndex, Bool.not_eq_false', Bool.and_eq_true, decide_eq_true_eq]; omega) ?_
  rw [if_neg (by omega)]
  refine g_if_false (by simp only [beq_eq_false_iff_ne, ne_eq]; omega) ?_
  refine g_if_false (by unfold Builtin.Bytes.tooLong; rw [hlim]; simp only [decide_eq_false_iff_not]; omega) ?_
  refine g_step (wpAny_rule ?_)
  by_cases hn : n > 0
  · rw [if_pos hn]
    refine g_step (ba_write e₁ (by rw [Array.size_replicate, hlim]; omega) fun h₂ e₂ s₂ => ?_)
    exact g_any (wpAny_pure ⟨rfl, h _ e₂ (s₁.trans s₂)⟩)
  · rw [if_neg hn]
    have : n = 0 := by omega
    subst this
    exact g_any (wpAny_pure ⟨rfl, h _ (by simpa using e₁) s₁⟩)

theorem okC_init (args : Args) : okC (.builtin "bytearray.__init__" args) = true := show (!dirtyIds.contains "bytearray.__init__") = true by decide +kernel
theorem g_bytearray {n : Int} {t : Tok} {Q : Value → Shared → Prop} (h0 : 0 ≤ n) (h1 : n ≤ 16777216)
    (h : ∀ h', h'.get? s.heap.objs.size = some (baObj (Array.replicate n.toNat 0)) → Heap.SameBut s.heap.objs.size (s.heap.push (baObj #[])) h' → Q (.ref s.heap.objs.size) { s with heap := h' }) :
    wpG (model prog w) A (call (.type "bytearray") [.int n t]) Q E s := by
  refine g_typeCall (Q₁ := fun obj s₁ => obj = .ref s.heap.objs.size ∧ s₁ = { s with heap := s.heap.push (baObj #[]) }) BA.called (BA.typeCall _) BA.entry_init okC_init (ba_new _ ⟨rfl, rfl⟩) ?_
  rintro obj s₁ ⟨rfl, rfl⟩
  have ho : (s.heap.push (baObj #[])).get? s.heap.objs.size = some (baObj #[]) := Heap.get?_push_size _ rfl
  exact ⟨ba_typeIs (s := { s with heap := s.heap.push (baObj #[]) }) ho, BA.args_init _ _, g_init ho h0 h1 fun h' e hs => h h' e hs⟩
end
end Mine
end
section
open PySem PySem.W PyProof.Rows
set_option Elab.async false
set_option maxRecDepth 100000
set_option maxHeartbeats 8000000
theorem Mine.PySem.W.holds_open {r : OpenRow} {q : Program} {loose : List PySem.Str} {Xt : Shared → Bool} {XP : (PySem.Str → Option Value) → Heap → Prop} {α : Type} {Yf : Shared → α} {Ya : World → α} {YP : World → Heap → Prop} {d : DefRec} {kwd : List (PySem.Str × Expr)} {N : Nat}
    (left : LeftO r.prog q loose Xt Yf Ya N) (hY : ∀ w s, Yf s = Ya w → YP w s.heap) (hYk : ∀ w h h', YP w h → (∀ b o, h.get? b = some o → h'.get? b = some o) → YP w h')
    (hX : ∀ s, Xt s = true → XP (s.heap.nsMap mainGlobals) s.heap) (hXk : ∀ mg h h', XP mg h → (∀ b o, h.get? b = some o → h'.get? b = some o) → XP mg h')
    (hdef : defOf q r.name = some (d, kwd)) (hp : r.prog.theDef r.name = some (d.params, d.body, d.scope)) (hk : kwWritten? d.params.kwonlyargs d.params.kw_defaults = some kwd) (hRf : ∀ s, Xt s = true → RecFacts r.records s.heap) (hwr : (!r.writes || r.records.isEmpty) = true)
    (k1 : r.wellSaid = true) (ok : (chainsOk q && opensWell r.prog && (frees r.toRowW && r.within.isEmpty)) = true) (hb : r.prog.bare) (hw : r.toRowW.promised)
    (call : WalkG q loose XP YP r.toRowW d kwd) : r.Holds := holdsG left hY hYk hX hXk hdef hp hk hRf hwr k1 ok hb hw call
namespace Mine
open_top hd for PySem.Challenge.rw_no0055_01
theorem top_off : True := by
  w_top off
  trivial
end Mine
end
section
open PySem PySem.W PySem.Spec PySem.Calls PyProof.Rows
open PySem.Sem (wp)
open PyProof.V
set_option Elab.async false
set_option maxRecDepth 100000
set_option linter.unusedVariables false
namespace Mine
abbrev Led := List (Addr × Obj)

/-- a contract of the def at f: for these arguments and this ledger, it ends with a value and a ledger that Post tells -/
def Ctr (d : Nat) (w : World) (f : Addr) (vs : List Value) (news : Led) (Post : Value → Led → Prop) : Prop :=
  ∀ (mean : ExcName → Option Value) (mg mb : PySem.Str → Option Value) (dp un : Nat) (gd : Option (List Code)) (cn : PySem.Str) (cs : Scope) (a : Addr) (ccd : Value) (cl : List (PySem.Str × Addr)) (outer : List Env) (A₀ : Around) (base h₀ : Heap) (L : Addr) (m : PySem.Str → Option Value) (s : Shared) (Q E : Value → Shared → Prop),
    Below A₀ base outer h₀ → Fr h₀ L s.heap m → (hd.heap_39 w.params).In h₀ → News h₀ L s.heap news → Top hd.view_39 (looseW hd.view_39 [Str.ofString "MODULUS"]) mean mg mb h₀ → cs.kind = .function →
    dp + d < recursionLimit → un + 8 * d < cLine →
    (∀ (v : Value) (nw : Led) (h' : Heap) (tk' : Nat), Fr h₀ L h' m → News h₀ L h' nw → Post v nw → Q v { s with heap := h', toks := tk' }) →
    wpAny (model PySem.Challenge.rw_no0055_01.row.prog w) (ktrTop dp un gd cn cs L a ccd cl outer) (call (.ref f) vs) Q E s
/-- the same over clean contexts -/
def CtrG (d : Nat) (w : World) (f : Addr) (vs : List Value) (news : Led) (Post : Value → Led → Prop) : Prop :=
  ∀ (mean : ExcName → Option Value) (mg mb : PySem.Str → Option Value) (dp un : Nat) (gd : Option (List Code)) (cn : PySem.Str) (cs : Scope) (a : Addr) (ccd : Value) (cl : List (PySem.Str × Addr)) (outer : List Env) (A₀ : Around) (base h₀ : Heap) (L : Addr) (m : PySem.Str → Option Value) (s : Shared) (Q E : Value → Shared → Prop),
    Below A₀ base outer h₀ → Fr h₀ L s.heap m → (hd.heap_39 w.params).In h₀ → News h₀ L s.heap news → Top hd.view_39 (looseW hd.view_39 [Str.ofString "MODULUS"]) mean mg mb h₀ → cs.kind = .function →
    dp + d < recursionLimit → un + 8 * d < cLine →
    (∀ (v : Value) (nw : Led) (h' : Heap) (tk' : Nat), Fr h₀ L h' m → News h₀ L h' nw → Post v nw → Q v { s with heap := h', toks := tk' }) →
    wpG (model PySem.Challenge.rw_no0055_01.row.prog w) (ktrTop dp un gd cn cs L a ccd cl outer) (call (.ref f) vs) Q E s

section
variable {prog : Program} {w : World} {A : Around} {E : Value → Shared → Prop} {s : Shared} {env : Env} {h₀ : Heap} {x : PySem.Str} {body : List Stmt} {Q : Flow → Shared → Prop}
  {m₀ : PySem.Str → Option Value} {news : Led}
/-- a loop over bytes: J of the number of turns, the frame, the ledger -/
theorem loop_bytes {b : Array UInt8} {tb : Tok} {ks : List Int} (J : Nat → (PySem.Str → Option Value) → Led → Prop) (hb : KBw.bInts b = ks) (hh : A.handled = none) (F : Fr h₀ env.locals s.heap m₀) (N : News h₀ env.locals s.heap news) (hj : J 0 m₀ news)
    (turn : ∀ i k t m₁ nx h tk own, ks[i]? = some k → 0 ≤ k → k < 256 → OwnOff own (news.map (·.1)) → J i m₁ nx → Fr h₀ env.locals h (fun y => if y = x then some (.int k t) else m₁ y) → News h₀ env.locals h (nx ++ own) →
      wpAny (model prog w) A (execs body env) (InvPostN h₀ env.locals (J (i + 1)) own (news.map (·.1)) { s with heap := h, toks := tk } Q) E { s with heap := h, toks := tk })
    (done : ∀ m₁ nx h tk, J ks.length m₁ nx → Fr h₀ env.locals h m₁ → News h₀ env.locals h nx → Q .next { s with heap := h, toks := tk }) :
    wpAny (model prog w) A (pyIter (.bytes b tb)) (fun it s₂ => LoopAtV prog w A h₀ env x body Q E it s₂) E s := by
  subst hb
  refine KBw.pyIter_bytes ?_
  have W := KBw.walks (prog := prog) (w := w) hh s.heap.objs.size b tb
  refine loop_invN J W ?_ ?_ ?_ ?_ ⟨_, Heap.get?_push_size _ rfl, rfl, rfl⟩ (F.push _) (fun p hp => ⟨Heap.get?_push_of_some _ (N p hp).1, (N p hp).2⟩) hj ?_ ?_
  · intro hm
    exact absurd F.ns.lt ((List.mem_singleton.mp hm) ▸ Nat.lt_irrefl _)
  · intro b' hb
    rw [List.mem_singleton.mp hb]
    exact next_is_new F
  · intro p hp hI
    exact absurd (Heap.lt_size (N p hp).1) ((List.mem_singleton.mp hI) ▸ Nat.lt_irrefl _)
  · intro p hp hI
    exact absurd (Heap.lt_size (N p hp).1) ((List.mem_singleton.mp hI) ▸ Nat.lt_irrefl _)
  · rintro i v m₁ nx h tk own hi ⟨n, u, hn, rfl⟩ _ hoff hJ F₁ N₁
    have hn' := KBw.ints_get hn
    have hb := KBw.ints_in (List.mem_of_getElem? hn')
    exact turn i _ u m₁ nx h tk own hn' hb.1 hb.2 hoff hJ F₁ N₁
  · rintro m₁ nx h tk hJ F₁ N₁
    rw [← KBw.ints_length b] at hJ
    exact done m₁ nx h tk hJ F₁ N₁
/-- a loop over range(n - 1, -1, -1) -/
theorem loop_down {r : Addr} {a₀ b₀ : Int} {t₀ u₀ v₀ : Tok} {n : Nat} (J : Nat → (PySem.Str → Option Value) → Led → Prop)
    (hh : A.handled = none) (hr : IsRange s.heap r a₀ b₀ (-1) t₀ u₀ v₀) (hsmall : Builtin.Range.small a₀ b₀ (-1) = true) (hn : Builtin.Range.rangeSize a₀ b₀ (-1) = (n : Int)) (F : Fr h₀ env.locals s.heap m₀) (N : News h₀ env.locals s.heap news) (hj : J 0 m₀ news)
    (turn : ∀ i t m₁ nx h tk own, i < n → OwnOff own (news.map (·.1)) → J i m₁ nx → Fr h₀ env.locals h (fun y => if y = x then some (.int (a₀ - (i : Int)) t) else m₁ y) → News h₀ env.locals h (nx ++ own) →
      wpAny (model prog w) A (execs body env) (InvPostN h₀ env.locals (J (i + 1)) own (news.map (·.1)) { s with heap := h, toks := tk } Q) E { s with heap := h, toks := tk })
    (done : ∀ m₁ nx h tk, J n m₁ nx → Fr h₀ env.locals h m₁ → News h₀ env.locals h nx → Q .next { s with heap := h, toks := tk }) :
    wpAny (model prog w) A (pyIter (.ref r)) (fun it s₂ => LoopAtV prog w A h₀ env x body Q E it s₂) E s := by
  refine wpAny_pyIter_range hr hsmall ?_
  have W : Walks prog w A s.heap.objs.size [s.heap.objs.size] [s.heap.objs.size] n (fun i v => i < n ∧ ∃ t, v = .int (a₀ + i * (-1)) t)
      (fun i h => IsRangeIter h s.heap.objs.size (a₀ + (i : Nat) * (-1)) ((n : Int) - (i : Nat)) (-1)) := (Walks.range hh _ a₀ (-1) n).bound
  refine loop_invN J W ?_ ?_ ?_ ?_ (by show IsRangeIter _ _ _ _ _; rw [hn]; simpa using Heap.get?_push_size _ rfl) (F.push _) (fun p hp => ⟨Heap.get?_push_of_some _ (N p hp).1, (N p hp).2⟩) hj ?_ ?_
  · intro hm
    exact absurd F.ns.lt ((List.mem_singleton.mp hm) ▸ Nat.lt_irrefl _)
  · intro b hb
    rw [List.mem_singleton.mp hb]
    exact next_is_new F
  · intro p hp hI
    exact absurd (Heap.lt_size (N p hp).1) ((List.mem_singleton.mp hI) ▸ Nat.lt_irrefl _)
  · intro p hp hI
    exact absurd (Heap.lt_size (N p hp).1) ((List.mem_singleton.mp hI) ▸ Nat.lt_irrefl _)
  · rintro i v m₁ nx h tk own hi ⟨_, t, rfl⟩ _ hoff hJ F₁ N₁
    have e1 : a₀ + (i : Int) * (-1) = a₀ - (i : Int) := by omega
    rw [e1] at F₁
    exact turn i t m₁ nx h tk own hi hoff hJ F₁ N₁
  · rintro m₁ nx h tk hJ F₁ N₁
    exact done m₁ nx h tk hJ F₁ N₁
end
theorem fr_name {h₀ h : Heap} {L : Addr} {m : PySem.Str → Option Value} (F : Fr h₀ L h m) : ∃ m0, m0 = m ∧ Fr h₀ L h m0 := ⟨m, rfl, F⟩
def Stop (P : Prop) : Prop := P
theorem stop_mk {P : Prop} (h : Stop P) : P := h
section
variable {M : Model} {A : Around} {E : Value → Shared → Prop} {s : Shared} {env : Env}
theorem g_exec_any {st : Stmt} {Q : Flow → Shared → Prop} (h : wpAny M A (exec st env) Q E s) : wpG M A (exec st env) Q E s := g_any h
theorem g_eval_any {e : Expr} {Q : Value → Shared → Prop} (h : wpAny M A (eval e env) Q E s) : wpG M A (eval e env) Q E s := g_any h
theorem g_isTrue_any {e : Expr} {whole : Sem Value} {Q : Bool → Shared → Prop} (h : wpAny M A (isTrue e env whole) Q E s) : wpG M A (isTrue e env whole) Q E s := g_any h
theorem g_spliced_any {es : List (Bool × Sem Value)} {Q : List Value → Shared → Prop} (h : wpAny M A (spliced es) Q E s) : wpG M A (spliced es) Q E s := g_any h
end
-- bytearrays on the ledger
section
variable {prog : Program} {w : World} {A : Around} {E : Value → Shared → Prop} {s : Shared} {h₀ : Heap} {L d : Addr} {m : PySem.Str → Option Value} {news news' : Led}
theorem g_bytearray_K {n : Int} {t : Tok} {Q : Value → Shared → Prop} (F : Fr h₀ L s.heap m) (N : News h₀ L s.heap news) (h0 : 0 ≤ n) (h1 : n ≤ 16777216)
    (h : ∀ d h', Fr h₀ L h' m → News h₀ L h' ((d, baObj (Array.replicate n.toNat 0)) :: news) → (∀ p ∈ news, p.1 < d) → Q (.ref d) { s with heap := h' }) : wpG (model prog w) A (call (.type "bytearray") [.int n t]) Q E s := by
  refine g_bytearray h0 h1 fun h' e hs => ?_
  have N1 := N.push F (baObj #[])
  have D := N1 _ (.head _)
  exact h _ h' ((F.push _).change hs D.2.1 D.2.2) (News.setIn (own := []) N1 (fun _ hp => nomatch hp) (fun p hp => Nat.ne_of_lt (Heap.lt_size (N p hp).1)) hs e) fun p hp => Heap.lt_size (N p hp).1
theorem ba_setItem_K {b : Array UInt8} {k v : Int} {t u : Tok} {Q : Unit → Shared → Prop} (F : Fr h₀ L s.heap m) (N : News h₀ L s.heap news) (U : Upd d (baObj b) (baObj (b.setIfInBounds k.toNat v.toNat.toUInt8)) news news')
    (h0 : 0 ≤ k) (h1 : k < b.size) (hz : b.size ≤ 16777216) (v0 : 0 ≤ v) (v1 : v < 256) (h : ∀ h', Fr h₀ L h' m → News h₀ L h' news' → Q () { s with heap := h' }) : wpAny (model prog w) A (setItem (.ref d) (.int k t) (.int v u)) Q E s := by
  obtain ⟨pre, post, rfl, rfl, a, c⟩ := U.split
  have D := N (d, baObj b) (List.mem_append_right _ (.head _))
  exact ba_setItem D.1 h0 h1 (by rw [show sizeLine = 16777216 by decide]; exact hz) v0 v1 fun h' e hs => h h' (F.change hs D.2.1 D.2.2) (N.setIn a c hs e)
theorem bytes_of_ba_K {b : Array UInt8} {Q : Value → Shared → Prop} (N : News h₀ L s.heap news) (hm : (d, baObj b) ∈ news) (hz : b.size ≤ 16777216) (h : ∀ t k, Q (.bytes b t) { s with toks := k }) :
    wpAny (model prog w) A (call (.type "bytes") [.ref d]) Q E s := bytes_of_ba (N _ hm).1 (by rw [show sizeLine = 16777216 by decide]; exact hz) h
theorem g_callWith_K {K : Frag} {h₁ : Heap} {env : Env} {pos : Pos} {f : Value} {e : Expr} {rest : List Expr} {Q : Value → Shared → Prop} (_X : K.In h₁) (hk : keepIn K f = true)
    (h : wpAny (model prog w) A (spliced (backTo pos (starEach (e :: rest) env))) (fun vs s₁ => K.In s₁.heap ∧ wpG (model prog w) A (call f vs) Q E s₁) E s)
    (he : starEach (e :: rest) env = (false, eval e env) :: starEach rest env := by rfl) (hplain : (backTo pos (starEach rest env)).any (·.1) = false := by rfl) :
    wpG (model prog w) A (callWith pos f [] (backTo pos (starEach (e :: rest) env)) []) Q E s := by
  rw [he] at h ⊢
  exact g_callWith (by show (false || (backTo pos (starEach rest env)).any (·.1)) = false; rw [hplain]; rfl) (keeps_K hk) (g_any (evalArgs_plain h))
theorem g_callWith_KG {K : Frag} {h₁ : Heap} {env : Env} {pos : Pos} {f : Value} {e : Expr} {rest : List Expr} {Q : Value → Shared → Prop} (_X : K.In h₁) (hk : keepIn K f = true)
    (h : wpG (model prog w) A (spliced (backTo pos (starEach (e :: rest) env))) (fun vs s₁ => K.In s₁.heap ∧ wpG (model prog w) A (call f vs) Q E s₁) E s)
    (he : starEach (e :: rest) env = (false, eval e env) :: starEach rest env := by rfl) (hplain : (backTo pos (starEach rest env)).any (·.1) = false := by rfl) :
    wpG (model prog w) A (callWith pos f [] (backTo pos (starEach (e :: rest) env)) []) Q E s := by
  rw [he] at h ⊢
  exact g_callWith (by show (false || (backTo pos (starEach rest env)).any (·.1)) = false; rw [hplain]; rfl) (keeps_K hk) (g_evalArgs h)
theorem g_callWith_type {K : Frag} {h₁ : Heap} {env : Env} {pos : Pos} {T : String} {e : Expr} {rest : List Expr} {Q : Value → Shared → Prop} (_X : K.In h₁)
    (h : wpAny (model prog w) A (spliced (backTo pos (starEach (e :: rest) env))) (fun vs s₁ => K.In s₁.heap ∧ wpG (model prog w) A (call (.type T) vs) Q E s₁) E s)
    (he : starEach (e :: rest) env = (false, eval e env) :: starEach rest env := by rfl) (hplain : (backTo pos (starEach rest env)).any (·.1) = false := by rfl) :
    wpG (model prog w) A (callWith pos (.type T) [] (backTo pos (starEach (e :: rest) env)) []) Q E s := by
  rw [he] at h ⊢
  exact g_callWith (by show (false || (backTo pos (starEach rest env)).any (·.1)) = false; rw [hplain]; rfl) (fun _ _ => ⟨.machine, .inr (.inl rfl), Looks.of_pure rfl⟩) (g_any (evalArgs_plain h))
end
end Mine
end
section
open PySem PySem.W PySem.Spec PySem.Calls PyProof.Rows
open PySem.Sem (wp)
open PyProof.V
set_option Elab.async false
set_option maxRecDepth 100000
set_option maxHeartbeats 8000000
set_option linter.unusedVariables false
namespace Mine

noncomputable def beL (n : Int) : Nat → List Int
  | 0 => []
  | i + 1 => (n / 256 ^ i % 256) :: beL n i
theorem beL_length (n : Int) : ∀ k, (beL n k).length = k
  | 0 => rfl
  | k + 1 => by simp [beL, beL_length n k]

def CPut (w : World) : Prop := ∀ (n : Int) (tn : Tok) (sz : Int) (ts : Tok) (news : Led), (sz = 4 ∨ sz = 16) → 0 ≤ n → n < 256 ^ sz.toNat →
  CtrG 1 w 41 [.int n tn, .int sz ts] news (fun v nw => nw = news ∧ ∃ b t, v = .bytes b t ∧ KBw.bInts b = beL n sz.toNat)

theorem fdiv_zero {n : Int} {k : Nat} (h0 : 0 ≤ n) (h1 : n < 2 ^ k) : n.fdiv (2 ^ k) = 0 := by
  rw [Int.fdiv_eq_ediv_of_nonneg _ (Int.le_of_lt (Int.pow_pos (by decide)))]
  exact Int.ediv_eq_zero_of_lt h0 h1

def putInv (n : Int) (sz : Nat) (d : Addr) (news : Led) (m₀ : PySem.Str → Option Value) (i : Nat) (m : PySem.Str → Option Value) (nx : Led) : Prop :=
  ∃ b t, nx = (d, baObj b) :: news ∧ KBw.bInts b = List.replicate (sz - i) 0 ++ beL n i ∧ m (Str.ofString "n") = some (.int (n / 256 ^ i) t) ∧ ∀ z, z ≠ Str.ofString "place" → z ≠ Str.ofString "n" → m z = m₀ z

theorem bInts_replicate (k : Nat) : KBw.bInts (Array.replicate k 0) = List.replicate k 0 := by
  simp [KBw.bInts]
theorem bInts_set (b : Array UInt8) (k : Nat) (v : Int) (h0 : 0 ≤ v) (h1 : v < 256) : KBw.bInts (b.setIfInBounds k v.toNat.toUInt8) = (KBw.bInts b).set k v := by
  have e : ((v.toNat.toUInt8).toNat : Int) = v := by
    have : (v.toNat.toUInt8).toNat = v.toNat := by show (UInt8.ofNat v.toNat).toNat = v.toNat; rw [UInt8.toNat_ofNat']; omega
    rw [this]; omega
  have e' : ∀ l : List UInt8, (l.set k v.toNat.toUInt8).map (fun c => ((c.toNat : Nat) : Int)) = (l.map fun c => ((c.toNat : Nat) : Int)).set k v := fun l => by rw [List.map_set, e]
  unfold KBw.bInts
  rw [Array.toList_setIfInBounds]
  exact e' _
theorem put_step (n : Int) (sz i : Nat) (hi : i < sz) : (List.replicate (sz - i) 0 ++ beL n i).set (sz - 1 - i) (n / 256 ^ i % 256) = List.replicate (sz - (i + 1)) 0 ++ beL n (i + 1) := by
  have e : sz - i = (sz - (i + 1)) + 1 := by omega
  have e2 : sz - 1 - i = sz - (i + 1) := by omega
  rw [e, e2, List.replicate_succ', List.append_assoc, List.set_append_right _ _ (by simp)]
  simp [beL]

section
local macro_rules | `(tactic| walk_at "wpG") => `(tactic| (k_here; with_reducible refine g_exec_any ?_))
local macro_rules | `(tactic| walk_at "wpG") => `(tactic| (k_here; first | with_reducible refine g_execs_cons ?_ | with_reducible refine g_execs_nil ?_))
local macro_rules | `(tactic| walk_at "wpG") => `(tactic| (k_here; (with_reducible refine g_Assign (g_Call_Name ?_) ?_); rotate_left; with_unfolding_all rfl))
local macro_rules | `(tactic| walk_at "wpG") => `(tactic| (k_here; k_dflt (refine' g_callWith_type ?k1 ?_ ?k2 ?k3; (case k1 => k_asm); (case k2 => exact rfl); (case k3 => exact rfl); k_whole)))
local macro_rules | `(tactic| walk_at "exec Raise some none") => `(tactic| (exfalso; first | contradiction | omega))
local macro_rules | `(tactic| walk_at "pyIter ref") => `(tactic| (k_here; refine stop_mk ?_))
local macro_rules | `(tactic| walk_at "setItem ref int int") => `(tactic| (k_here; refine stop_mk ?_))
local macro_rules | `(tactic| walk_at "InvEndN") => `(tactic| (refine stop_mk ?_))
local macro_rules | `(tactic| walk_at "call type:bytes ref") => `(tactic| (k_here; refine stop_mk ?_))
local macro_rules | `(tactic| walk_at "call type:bytes") => `(tactic| (k_here; refine stop_mk ?_))
theorem c_put (w : World) : CPut w := by
  unfold CPut CtrG
  k_fill
  intro n tn sz ts news hsz h0 h1 mean mg mb dp un gd cn cs a ccd cl outer A₀ base h₀ L m s Q E B F X N T hk hdp hun hret
  have hq : n.fdiv (2 ^ (8 * sz).toNat) = 0 := by
    refine fdiv_zero h0 ?_
    rcases hsz with rfl | rfl <;> simpa using h1
  refine g_call ?_
  k_dflt (refine' clean_def ?k1 ?k2 ?k3 ?k4 ?k5 ?kA ?kF ?kK ?k6 ?k7 ?k8 ?k9 ?kB ?_ ?c2 ?c3 ?c4 ?c5; (case kA => exact rfl); (case kF => exact rfl); (case kK => assumption); (case k1 => k_asm); (case k2 => k_asm); (case k3 => k_asm); (case k4 => k_asm); (case k5 => k_asm); (case k6 => k_is); (case k7 => k_is); (case k8 => ktr_room); (case k9 => exact BindsTo.of_eq rfl); (case c5 => decide); (case kB => exact locs rfl); (case c2 => exact rfl); (case c3 => exact rfl); (case c4 => exact rfl); k_whole; intro g' L' h' FG' F' N' B' X' T'; (try dsimp only); (try k_lift B'); (try k_fold))
  k_steps
  refine g_bytearray_K (by k_asm) (by k_asm) (by omega) (by omega) ?_
  intro d h2 F2 N2 l2
  k_steps
  unfold Stop
  rename Fr _ _ _ _ => lF
  rename News _ _ _ _ => lN
  rename IsRange _ _ _ _ _ _ _ _ => rg
  have hs : Builtin.Range.small (sz - 1) (-1) (-1) = true := small_down (by omega) (by omega) (by omega) (by omega)
  have hr : Builtin.Range.rangeSize (sz - 1) (-1) (-1) = (sz.toNat : Int) := by rw [rangeSize_downNat]; omega
  obtain ⟨m0, hm0, lF⟩ := fr_name lF
  refine' loop_down (n := sz.toNat) (putInv n sz.toNat d news m0) rfl rg hs hr lF lN ?hj ?_ ?_
  case hj =>
    subst hm0
    refine ⟨Array.replicate sz.toNat 0, tn, rfl, by rw [bInts_replicate]; simp [beL], ?_, fun _ _ _ => rfl⟩
    rw [Int.pow_zero, Int.ediv_one]
    with_unfolding_all rfl
  · clear lF lN
    subst hm0
    rintro i t m₁ nx h tk own hi hoff ⟨b, tb, rfl, hb, hn, hm⟩ F3 N3
    rw [map_one hn hm] at F3
    have hsz2 : b.size = sz.toNat := by
      have := congrArg List.length hb
      rw [KBw.ints_length] at this
      simp [beL_length] at this
      omega
    have hnn : 0 ≤ n / 256 ^ i := Int.ediv_nonneg h0 (Int.le_of_lt (Int.pow_pos (by decide)))
    have hsub : (sz - 1 - (i : Int)).toNat = sz.toNat - 1 - i := by omega
    simp only [List.cons_append] at N3
    k_steps
    unfold Stop
    refine ba_setItem_K (by k_asm) (by k_asm) (Upd.head ?_) (by omega) (by omega) (by omega) (fmod_lo _ (by decide)) (fmod_hi _ (by decide)) ?_
    · intro p hp
      rcases List.mem_append.mp hp with hp | hp
      · exact Nat.ne_of_lt (l2 p hp)
      · exact hoff p hp d (by simp)
    intro h4 F4 N4
    k_steps
    unfold Stop
    have hdiv : (n / 256 ^ i).fdiv 256 = n / 256 ^ (i + 1) := by
      rw [Int.fdiv_eq_ediv_of_nonneg _ (by decide), Int.pow_succ, Int.ediv_ediv_of_nonneg (Int.le_of_lt (Int.pow_pos (by decide)))]
    refine' InvEndN.intro (nx := (d, baObj (b.setIfInBounds (sz - 1 - (i : Int)).toNat ((n / 256 ^ i).fmod 256).toNat.toUInt8)) :: news) (by k_asm) (by k_asm) ⟨_, ?tok, rfl, ?_, ?_, ?_⟩ rfl ?_ ?_
    rotate_left
    · rw [hsub, bInts_set _ _ _ (fmod_lo _ (by decide)) (fmod_hi _ (by decide)), hb, Int.fmod_eq_emod_of_nonneg _ (by decide)]
      exact put_step n sz.toNat i hi
    · rw [← hdiv]
      exact if_pos rfl
    · intro z z1 z2
      rw [if_neg z2, if_neg z1, if_neg z2]
    · intro p hp
      rcases List.mem_cons.mp hp with rfl | hp
      · exact .head _
      · exact .tail _ (List.mem_append_left _ hp)
    · intro p hp
      exact .tail _ (List.mem_append_right _ hp)
  · clear lF lN
    subst hm0
    rintro m₁ nx h tk ⟨b, tb, rfl, hb, hn, hm⟩ F3 N3
    rw [← done_one hn hm] at F3
    k_steps
    unfold Stop
    refine bytes_of_ba_K (by k_asm) (.head _) ?_ ?_
    · have := congrArg List.length hb
      rw [KBw.ints_length] at this
      simp [beL_length] at this
      omega
    intro t1 k1
    k_steps
    exact hret _ _ _ _ (by k_asm) (KStb.news_of (by k_asm) fun p hp => .tail _ hp) ⟨rfl, b, t1, rfl, by rw [hb]; simp⟩
end
end Mine
end
section
open PySem PySem.W PySem.Spec PySem.Calls PyProof.Rows
open PySem.Sem (wp)
open PyProof.V
set_option Elab.async false
set_option maxRecDepth 100000
set_option maxHeartbeats 8000000
set_option linter.unusedVariables false
namespace Mine

theorem Ctr.use {d : Nat} {w : World} {f : Addr} {vs : List Value} {news : Led} {Post : Value → Led → Prop} {mean : ExcName → Option Value} {mg mb : PySem.Str → Option Value} {dp un : Nat} {gd : Option (List Code)} {cn : PySem.Str} {cs : Scope} {a : Addr} {ccd : Value} {cl : List (PySem.Str × Addr)} {outer : List Env} {A₀ : Around} {base h₀ : Heap} {L : Addr} {m : PySem.Str → Option Value} {s : Shared} {Q E : Value → Shared → Prop}
    (C : Ctr d w f vs news Post) (B : Below A₀ base outer h₀) (F : Fr h₀ L s.heap m) (X : (hd.heap_39 w.params).In h₀) (N : News h₀ L s.heap news) (T : Top hd.view_39 (looseW hd.view_39 [Str.ofString "MODULUS"]) mean mg mb h₀) (hk : cs.kind = .function)
    (hd : dp + d < recursionLimit) (hu : un + 8 * d < cLine)
    (ret : ∀ (v : Value) (nw : Led) (h' : Heap) (tk' : Nat), Fr h₀ L h' m → News h₀ L h' nw → Post v nw → Q v { s with heap := h', toks := tk' }) :
    wpAny (model PySem.Challenge.rw_no0055_01.row.prog w) (ktrTop dp un gd cn cs L a ccd cl outer) (call (.ref f) vs) Q E s := C _ _ _ _ _ _ _ _ _ _ _ _ _ _ _ _ _ _ _ _ B F X N T hk hd hu ret
theorem CtrG.use {d : Nat} {w : World} {f : Addr} {vs : List Value} {news : Led} {Post : Value → Led → Prop} {mean : ExcName → Option Value} {mg mb : PySem.Str → Option Value} {dp un : Nat} {gd : Option (List Code)} {cn : PySem.Str} {cs : Scope} {a : Addr} {ccd : Value} {cl : List (PySem.Str × Addr)} {outer : List Env} {A₀ : Around} {base h₀ : Heap} {L : Addr} {m : PySem.Str → Option Value} {s : Shared} {Q E : Value → Shared → Prop}
    (C : CtrG d w f vs news Post) (B : Below A₀ base outer h₀) (F : Fr h₀ L s.heap m) (X : (hd.heap_39 w.params).In h₀) (N : News h₀ L s.heap news) (T : Top hd.view_39 (looseW hd.view_39 [Str.ofString "MODULUS"]) mean mg mb h₀) (hk : cs.kind = .function)
    (hd : dp + d < recursionLimit) (hu : un + 8 * d < cLine)
    (ret : ∀ (v : Value) (nw : Led) (h' : Heap) (tk' : Nat), Fr h₀ L h' m → News h₀ L h' nw → Post v nw → Q v { s with heap := h', toks := tk' }) :
    wpG (model PySem.Challenge.rw_no0055_01.row.prog w) (ktrTop dp un gd cn cs L a ccd cl outer) (call (.ref f) vs) Q E s := C _ _ _ _ _ _ _ _ _ _ _ _ _ _ _ _ _ _ _ _ B F X N T hk hd hu ret

theorem Ctr.useI {R : Tok → Value} {d : Nat} {w : World} {f : Addr} {vs : List Value} {news : Led} {mean : ExcName → Option Value} {mg mb : PySem.Str → Option Value} {dp un : Nat} {gd : Option (List Code)} {cn : PySem.Str} {cs : Scope} {a : Addr} {ccd : Value} {cl : List (PySem.Str × Addr)} {outer : List Env} {A₀ : Around} {base h₀ : Heap} {L : Addr} {m : PySem.Str → Option Value} {s : Shared} {Q E : Value → Shared → Prop}
    (C : Ctr d w f vs news (fun v nw => nw = news ∧ ∃ t, v = R t)) (B : Below A₀ base outer h₀) (F : Fr h₀ L s.heap m) (X : (hd.heap_39 w.params).In h₀) (N : News h₀ L s.heap news) (T : Top hd.view_39 (looseW hd.view_39 [Str.ofString "MODULUS"]) mean mg mb h₀) (hk : cs.kind = .function)
    (hd : dp + d < recursionLimit) (hu : un + 8 * d < cLine)
    (ret : ∀ (t : Tok) (h' : Heap) (tk' : Nat), Fr h₀ L h' m → News h₀ L h' news → Q (R t) { s with heap := h', toks := tk' }) :
    wpAny (model PySem.Challenge.rw_no0055_01.row.prog w) (ktrTop dp un gd cn cs L a ccd cl outer) (call (.ref f) vs) Q E s :=
  C.use B F X N T hk hd hu fun v nw h' tk' F' N' p => by obtain ⟨rfl, t, rfl⟩ := p; exact ret t h' tk' F' N'
theorem Ctr.useB {P : Array UInt8 → Prop} {d : Nat} {w : World} {f : Addr} {vs : List Value} {news : Led} {mean : ExcName → Option Value} {mg mb : PySem.Str → Option Value} {dp un : Nat} {gd : Option (List Code)} {cn : PySem.Str} {cs : Scope} {a : Addr} {ccd : Value} {cl : List (PySem.Str × Addr)} {outer : List Env} {A₀ : Around} {base h₀ : Heap} {L : Addr} {m : PySem.Str → Option Value} {s : Shared} {Q E : Value → Shared → Prop}
    (C : Ctr d w f vs news (fun v nw => nw = news ∧ ∃ b t, v = .bytes b t ∧ P b)) (B : Below A₀ base outer h₀) (F : Fr h₀ L s.heap m) (X : (hd.heap_39 w.params).In h₀) (N : News h₀ L s.heap news) (T : Top hd.view_39 (looseW hd.view_39 [Str.ofString "MODULUS"]) mean mg mb h₀) (hk : cs.kind = .function)
    (hd : dp + d < recursionLimit) (hu : un + 8 * d < cLine)
    (ret : ∀ (b : Array UInt8) (t : Tok) (h' : Heap) (tk' : Nat), P b → Fr h₀ L h' m → News h₀ L h' news → Q (.bytes b t) { s with heap := h', toks := tk' }) :
    wpAny (model PySem.Challenge.rw_no0055_01.row.prog w) (ktrTop dp un gd cn cs L a ccd cl outer) (call (.ref f) vs) Q E s :=
  C.use B F X N T hk hd hu fun v nw h' tk' F' N' p => by obtain ⟨rfl, b, t, rfl, hb⟩ := p; exact ret b t h' tk' hb F' N'
theorem CtrG.useB {P : Array UInt8 → Prop} {d : Nat} {w : World} {f : Addr} {vs : List Value} {news : Led} {mean : ExcName → Option Value} {mg mb : PySem.Str → Option Value} {dp un : Nat} {gd : Option (List Code)} {cn : PySem.Str} {cs : Scope} {a : Addr} {ccd : Value} {cl : List (PySem.Str × Addr)} {outer : List Env} {A₀ : Around} {base h₀ : Heap} {L : Addr} {m : PySem.Str → Option Value} {s : Shared} {Q E : Value → Shared → Prop}
    (C : CtrG d w f vs news (fun v nw => nw = news ∧ ∃ b t, v = .bytes b t ∧ P b)) (B : Below A₀ base outer h₀) (F : Fr h₀ L s.heap m) (X : (hd.heap_39 w.params).In h₀) (N : News h₀ L s.heap news) (T : Top hd.view_39 (looseW hd.view_39 [Str.ofString "MODULUS"]) mean mg mb h₀) (hk : cs.kind = .function)
    (hd : dp + d < recursionLimit) (hu : un + 8 * d < cLine)
    (ret : ∀ (b : Array UInt8) (t : Tok) (h' : Heap) (tk' : Nat), P b → Fr h₀ L h' m → News h₀ L h' news → Q (.bytes b t) { s with heap := h', toks := tk' }) :
    wpG (model PySem.Challenge.rw_no0055_01.row.prog w) (ktrTop dp un gd cn cs L a ccd cl outer) (call (.ref f) vs) Q E s :=
  C.use B F X N T hk hd hu fun v nw h' tk' F' N' p => by obtain ⟨rfl, b, t, rfl, hb⟩ := p; exact ret b t h' tk' hb F' N'

def mixStep (a k : Int) : Int := (a * 6364136223846793005 + k + 1) % 170141183460469231731687303715884105727
def mixL (start : Int) (ks : List Int) : Int := ks.foldl mixStep (start % 170141183460469231731687303715884105727)
theorem mixStep_bd (a k : Int) : 0 ≤ mixStep a k ∧ mixStep a k < 170141183460469231731687303715884105727 := by unfold mixStep; omega
theorem mixFold_bd (ks : List Int) : ∀ a : Int, 0 ≤ a ∧ a < 170141183460469231731687303715884105727 → 0 ≤ ks.foldl mixStep a ∧ ks.foldl mixStep a < 170141183460469231731687303715884105727 := by
  induction ks with
  | nil => intro a h; exact h
  | cons k r ih => intro a h; exact ih _ (mixStep_bd a k)
theorem mixL_bd (start : Int) (ks : List Int) : 0 ≤ mixL start ks ∧ mixL start ks < 170141183460469231731687303715884105727 := mixFold_bd ks _ (by omega)
theorem mixL_take {start : Int} {ks : List Int} {i : Nat} {k : Int} (h : ks[i]? = some k) : mixL start (ks.take (i + 1)) = mixStep (mixL start (ks.take i)) k := by
  unfold mixL
  rw [List.take_add_one, h, Option.toList_some, List.foldl_append]; rfl

def CMixed (w : World) : Prop := ∀ (start : Int) (ts : Tok) (data : Array UInt8) (td : Tok) (ks : List Int) (news : Led), KBw.bInts data = ks → Ctr 1 w 48 [.int start ts, .bytes data td] news (fun v nw => nw = news ∧ ∃ t, v = .int (mixL start ks) t)

def mixInv (start : Int) (ks : List Int) (news : Led) (m₀ : PySem.Str → Option Value) (i : Nat) (m : PySem.Str → Option Value) (nx : Led) : Prop :=
  nx = news ∧ (∃ v t, m (Str.ofString "found") = some (.int v t) ∧ v = mixL start (ks.take i)) ∧ ∀ z, z ≠ Str.ofString "octet" → z ≠ Str.ofString "found" → m z = m₀ z

section
local macro_rules | `(tactic| walk_at "pyIter bytes") => `(tactic| (k_here; refine stop_mk ?_))
local macro_rules | `(tactic| walk_at "InvEndN") => `(tactic| (refine stop_mk ?_))
theorem c_mixed (w : World) : CMixed w := by
  unfold CMixed Ctr
  k_fill
  intro start ts data td ks news hks mean mg mb dp un gd cn cs a ccd cl outer A₀ base h₀ L m s Q E B F X N T hk hdp hun hret
  refine wpAny_call ?_
  k_dflt cell_enter
  k_steps
  unfold Stop
  rename Fr _ _ _ _ => lF
  rename News _ _ _ _ => lN
  obtain ⟨m0, hm0, lF⟩ := fr_name lF
  refine' loop_bytes (mixInv start ks news m0) hks rfl lF lN ?hj ?_ ?_
  case hj =>
    subst hm0
    exact ⟨rfl, ⟨_, _, if_pos rfl, Int.fmod_eq_emod_of_nonneg _ (by decide)⟩, fun _ _ _ => rfl⟩
  · clear lF lN
    subst hm0
    rintro i k t m₁ nx h tk own hi hk0 hk1 hoff ⟨rfl, ⟨_, tb, hn, rfl⟩, hm⟩ F3 N3
    rw [map_one hn hm] at F3
    have hbd := mixL_bd start (ks.take i)
    k_steps
    unfold Stop
    refine' InvEndN.intro (nx := nx) (by k_asm) (by k_asm) ⟨rfl, ⟨_, _, if_pos rfl, ?val⟩, ?same⟩ rfl (fun p hp => List.mem_append_left _ hp) (fun p hp => List.mem_append_right _ hp)
    case val =>
      rw [mixL_take hi]
      exact Int.fmod_eq_emod_of_nonneg _ (by decide)
    case same =>
      intro z z1 z2
      rw [if_neg z2, if_neg z1, if_neg z2]
  · clear lF lN
    subst hm0
    rintro m₁ nx h tk ⟨rfl, ⟨_, tb, hn, rfl⟩, hm⟩ F3 N3
    rw [← done_one hn hm] at F3
    rw [List.take_length] at F3
    k_steps
    exact hret _ _ _ _ (by k_asm) (by k_asm) ⟨rfl, _, rfl⟩
end
end Mine
end
section
open PySem PyProof.Rows
set_option Elab.async false
set_option linter.unusedVariables false
namespace Mine
theorem nat_xor_and : ∀ (n x y : Nat), x < 2 ^ n → y < 2 ^ n → x + y = (x ^^^ y) + 2 * (x &&& y) := by
  intro n
  induction n with
  | zero =>
    intro x y hx hy
    have hx0 : x = 0 := by omega
    have hy0 : y = 0 := by omega
    subst hx0; subst hy0; rfl
  | succ n ih =>
    intro x y hx hy
    have h2 := ih (x / 2) (y / 2) (by rw [Nat.pow_succ] at hx; omega) (by rw [Nat.pow_succ] at hy; omega)
    have e1 : (x ^^^ y) / 2 = x / 2 ^^^ y / 2 := Nat.xor_div_two
    have e2 : (x &&& y) / 2 = x / 2 &&& y / 2 := Nat.and_div_two
    have m1 : (x ^^^ y) % 2 = (x % 2) ^^^ (y % 2) := by have := Nat.xor_mod_two_pow (a := x) (b := y) (n := 1); simpa using this
    have m2 : (x &&& y) % 2 = (x % 2) &&& (y % 2) := by have := Nat.and_mod_two_pow (a := x) (b := y) (n := 1); simpa using this
    generalize x / 2 ^^^ y / 2 = p at e1 h2
    generalize x / 2 &&& y / 2 = q at e2 h2
    generalize x ^^^ y = u at e1 m1 ⊢
    generalize x &&& y = v at e2 m2 ⊢
    have k0 : (0 ^^^ 0 : Nat) = 0 := rfl
    have k1 : (0 ^^^ 1 : Nat) = 1 := rfl
    have k2 : (1 ^^^ 0 : Nat) = 1 := rfl
    have k3 : (1 ^^^ 1 : Nat) = 0 := rfl
    have k4 : (0 &&& 0 : Nat) = 0 := rfl
    have k5 : (0 &&& 1 : Nat) = 0 := rfl
    have k6 : (1 &&& 0 : Nat) = 0 := rfl
    have k7 : (1 &&& 1 : Nat) = 1 := rfl
    have hx2 : x % 2 = 0 ∨ x % 2 = 1 := by omega
    have hy2 : y % 2 = 0 ∨ y % 2 = 1 := by omega
    rcases hx2 with a | a <;> rcases hy2 with b | b <;> rw [a, b] at m1 m2 <;> simp only [k0, k1, k2, k3, k4, k5, k6, k7] at m1 m2 <;> omega
theorem bitXor_nat (x y : Nat) : Builtin.bitXor (x : Int) (y : Int) = ((x ^^^ y : Nat) : Int) := by
  rw [bitXor_and, bitAnd_pp (by omega) (by omega)]
  obtain ⟨n, hn⟩ : ∃ n, x < 2 ^ n ∧ y < 2 ^ n := ⟨x + y, Nat.lt_of_le_of_lt (Nat.le_add_right x y) Nat.lt_two_pow_self, Nat.lt_of_le_of_lt (Nat.le_add_left y x) Nat.lt_two_pow_self⟩
  have := nat_xor_and n x y hn.1 hn.2
  simp only [Int.toNat_natCast]
  omega
theorem bitXor_toNat {a b : Int} (ha : 0 ≤ a) (hb : 0 ≤ b) : Builtin.bitXor a b = ((a.toNat ^^^ b.toNat : Nat) : Int) := by
  have := bitXor_nat a.toNat b.toNat
  rwa [Int.toNat_of_nonneg ha, Int.toNat_of_nonneg hb] at this
theorem xor_byte {a b : Int} (ha : 0 ≤ a ∧ a < 256) (hb : 0 ≤ b ∧ b < 256) : 0 ≤ Builtin.bitXor a b ∧ Builtin.bitXor a b < 256 := by
  rw [bitXor_toNat ha.1 hb.1]
  have : a.toNat ^^^ b.toNat < 2 ^ 8 := Nat.xor_lt_two_pow (by omega) (by omega)
  omega
theorem xor_xor {a b : Int} (ha : 0 ≤ a) (hb : 0 ≤ b) : Builtin.bitXor (Builtin.bitXor a b) b = a := by
  rw [bitXor_toNat ha hb, bitXor_toNat (by omega) hb, Int.toNat_natCast, Nat.xor_assoc, Nat.xor_self, Nat.xor_zero]
  omega
end Mine
end
section
open PySem PySem.W PySem.Spec PySem.Calls PyProof.Rows
open PySem.Sem (wp)
open PyProof.V
set_option Elab.async false
set_option maxRecDepth 100000
set_option maxHeartbeats 8000000
set_option linter.unusedVariables false
namespace Mine

def lcg (st : Int) : Int := (st * 6364136223846793005 + 1442695040888963407) % 170141183460469231731687303715884105727
noncomputable def lcgN (st : Int) : Nat → Int
  | 0 => st
  | i + 1 => lcg (lcgN st i)
noncomputable def turnO (st : Int) (i : Nat) (k : Int) : Int := Builtin.bitXor k (lcgN st (i + 1) / 65536 % 256)
noncomputable def turnL (st : Int) (ks : List Int) : List Int := ks.zipIdx.map fun p => turnO st p.2 p.1
def body4 : List Int := [98, 111, 100, 121]
def keySt (n : Int) (kk : List Int) : Int := mixL (mixL (n + 1) kk) body4

theorem lcg_bd (a : Int) : 0 ≤ lcg a ∧ lcg a < 170141183460469231731687303715884105727 := by unfold lcg; omega
theorem lcgN_bd {st : Int} (h : 0 ≤ st ∧ st < 170141183460469231731687303715884105727) : ∀ i, 0 ≤ lcgN st i ∧ lcgN st i < 170141183460469231731687303715884105727
  | 0 => h
  | i + 1 => lcg_bd _
theorem turnL_length (st : Int) (ks : List Int) : (turnL st ks).length = ks.length := by simp [turnL]
theorem turnL_take {st : Int} {ks : List Int} {i : Nat} {k : Int} (h : ks[i]? = some k) : turnL st (ks.take (i + 1)) = turnL st (ks.take i) ++ [turnO st i k] := by
  have hi : i < ks.length := (List.getElem?_eq_some_iff.mp h).1
  unfold turnL
  rw [List.take_add_one, h, Option.toList_some, List.zipIdx_append, List.map_append]
  simp [List.length_take, Nat.min_eq_left (Nat.le_of_lt hi)]
theorem turnO_bd (st : Int) (i : Nat) {k : Int} (h : 0 ≤ k ∧ k < 256) : 0 ≤ turnO st i k ∧ turnO st i k < 256 := xor_byte h (by omega)
theorem turnL_in {st : Int} {ks : List Int} (h : KBa.In ks) : KBa.In (turnL st ks) := by
  intro v hv
  obtain ⟨⟨k, i⟩, hp, rfl⟩ := List.mem_map.mp hv
  exact turnO_bd st i (h k (List.fst_mem_of_mem_zipIdx hp))
theorem bInts_in {b : Array UInt8} {ks : List Int} (h : KBw.bInts b = ks) : KBa.In ks := by
  subst h
  intro k hk
  exact KBw.ints_in hk
def turnInv (st0 : Int) (ks : List Int) (d : Addr) (news : Led) (m₀ : PySem.Str → Option Value) (i : Nat) (m : PySem.Str → Option Value) (nx : Led) : Prop :=
  (∃ vs n, nx = (d, PySem.W.listOf vs.toArray n) :: news ∧ IntsAre vs (turnL st0 (ks.take i))) ∧ (∃ v t, m (Str.ofString "state") = some (.int v t) ∧ v = lcgN st0 i) ∧ ∀ z, z ≠ Str.ofString "octet" → z ≠ Str.ofString "state" → m z = m₀ z
theorem push_led {h₀ h : Heap} {L d : Addr} {vs : List Value} {x : Value} {c : Nat} {r : Led} (N : News h₀ L h ((d, PySem.W.listOf (vs.toArray.push x) c) :: r)) : News h₀ L h ((d, PySem.W.listOf (vs ++ [x]).toArray c) :: r) := by
  rwa [List.push_toArray] at N
theorem end_led {h₀ : Heap} {L : Addr} {J : (PySem.Str → Option Value) → Led → Prop} {m' : PySem.Str → Option Value} {own news : Led} {d : Addr} {o : Obj} {adr : List Addr} {s₁ : Shared} {h' : Heap} {tk : Nat} (F : Fr h₀ L h' m') (N : News h₀ L h' ((d, o) :: (news ++ own))) (hj : J m' ((d, o) :: news)) (ha : d :: news.map (·.1) = adr) :
    InvEndN h₀ L J own adr s₁ { s₁ with heap := h', toks := tk } :=
  InvEndN.intro (nx := (d, o) :: news) F N hj ha (fun p hp => by
    rcases List.mem_cons.mp hp with rfl | hp
    · exact .head _
    · exact .tail _ (List.mem_append_left _ hp)) fun p hp => .tail _ (List.mem_append_right _ hp)
theorem news_second {h₀ h : Heap} {L : Addr} {p : Addr × Obj} {d : Addr} {o : Obj} {news : Led} (N : News h₀ L h (p :: (d, o) :: news)) : ∃ d', d' = d ∧ News h₀ L h ((d', o) :: news) := ⟨d, rfl, fun q hq => N q (.tail _ hq)⟩

def CTurned (w : World) : Prop := ∀ (key : Array UInt8) (tk : Tok) (n : Int) (tn : Tok) (data : Array UInt8) (td : Tok) (kk ks : List Int) (news : Led), KBw.bInts key = kk → KBw.bInts data = ks → ks.length ≤ 1000 →
  Ctr 2 w 55 [.bytes key tk, .int n tn, .bytes data td] news (fun v nw => nw = news ∧ ∃ b t, v = .bytes b t ∧ KBw.bInts b = turnL (keySt n kk) ks)

section
local macro_rules | `(tactic| walk_at "pyIter bytes") => `(tactic| (k_here; refine stop_mk ?_))
local macro_rules | `(tactic| walk_at "InvEndN") => `(tactic| (refine stop_mk ?_))
local macro_rules | `(tactic| walk_at "call builtin:list.append") => `(tactic| (k_here; refine stop_mk ?_))
local macro_rules | `(tactic| walk_at "call ref") => `(tactic| (k_here; k_dflt (refine' Ctr.useI (c_mixed _ _ _ _ _ _ _ ?kb) ?k1 ?k2 ?k3 ?k4 ?k5 ?kK ?kd ?ku ?_); (case kb => first | assumption | k_dflt (exact rfl)); (case k1 => k_asm); (case k2 => k_asm); (case k3 => k_asm); (case k4 => k_asm); (case k5 => k_asm); (case kK => first | exact rfl | assumption); (case kd => ktr_room); (case ku => ktr_units); intro t9 h9 tk9 F9 N9; (try dsimp only); (try k_fold)))
theorem c_turned (w : World) : CTurned w := by
  unfold CTurned Ctr
  k_fill
  intro key tk n tn data td kk ks news hkk hks hlen mean mg mb dp un gd cn cs a ccd cl outer A₀ base h₀ L m s Q E B F X N T hk hdp hun hret
  refine wpAny_call ?_
  k_dflt cell_enter
  k_steps
  unfold Stop
  rename Fr _ _ _ _ => lF
  rename News _ _ _ _ => lN
  rename ∀ p ∈ news, p.1 < _ => l1
  have hst : mixL (mixL (n + 1) kk) (KBw.bInts #[98, 111, 100, 121]) = keySt n kk := rfl
  rw [hst] at lF
  have hsb := mixL_bd (mixL (n + 1) kk) body4
  obtain ⟨d, hd, lN2⟩ := news_second lN
  clear lN
  subst hd
  obtain ⟨m0, hm0, lF⟩ := fr_name lF
  refine' loop_bytes (turnInv (keySt n kk) ks d news m0) hks rfl lF lN2 ?hj ?_ ?_
  case hj =>
    subst hm0
    exact ⟨⟨[], 0, rfl, .nil⟩, ⟨_, _, if_pos rfl, rfl⟩, fun _ _ _ => rfl⟩
  · clear lF lN2
    subst hm0
    rintro i k t m₁ nx h tk own hi hk0 hk1 hoff ⟨⟨vs, c, rfl, hvs⟩, ⟨_, tb, hn, rfl⟩, hm⟩ F3 N3
    rw [map_one hn hm] at F3
    have hbd := lcgN_bd hsb i
    have hne : ∀ p ∈ news ++ own, p.1 ≠ d := fun p hp => by
      rcases List.mem_append.mp hp with hp | hp
      · exact Nat.ne_of_lt (l1 p hp)
      · exact hoff p hp d (by simp)
    have hlv : vs.length ≤ 1000 := by
      rw [hvs.length, turnL_length, List.length_take]; omega
    have hbk : 0 ≤ k ∧ k < 256 := ⟨hk0, hk1⟩
    simp only [List.cons_append] at N3
    k_steps
    unfold Stop
    refine append_K (hsz := ?hz) (by k_asm) (by k_asm) (Upd.head hne) ?hk
    case hz => rw [show sizeLine = 16777216 by decide, List.size_toArray]; omega
    intro h4 F4 N4
    k_steps
    unfold Stop
    have N5 := push_led N4
    have hv : Builtin.bitXor k ((((lcgN (keySt n kk) i * 6364136223846793005 + 1442695040888963407).fmod 170141183460469231731687303715884105727).fdiv 65536).fmod 256) = turnO (keySt n kk) i k := by
      rw [Int.fmod_eq_emod_of_nonneg _ (by decide), Int.fdiv_eq_ediv_of_nonneg _ (by decide), Int.fmod_eq_emod_of_nonneg _ (by decide)]; rfl
    refine' end_led F4 N5 ⟨⟨_, _, rfl, ?hints⟩, ⟨_, _, if_pos rfl, ?val⟩, ?same⟩ rfl
    case hints =>
      rw [turnL_take hi, ← hv]
      exact hvs.append (.cons _ _ .nil)
    case val => exact Int.fmod_eq_emod_of_nonneg _ (by decide)
    case same =>
      intro z z1 z2
      dsimp only
      rw [if_neg z2, if_neg z1, if_neg z2]
  · clear lF lN2
    subst hm0
    rintro m₁ nx h tk ⟨⟨vs, c, rfl, hvs⟩, ⟨_, tb, hn, rfl⟩, hm⟩ F3 N3
    rw [← done_one hn hm] at F3
    rw [List.take_length] at hvs
    have hin : KBa.In (turnL (keySt n kk) ks) := turnL_in (bInts_in hks)
    have hlL := turnL_length (keySt n kk) ks
    k_steps
    exact hret _ _ _ _ (by k_asm) (KStb.news_of (by k_asm) fun p hp => .tail _ hp) ⟨rfl, _, _, rfl, KBa.ints_make hin⟩
end
end Mine
end
section
open PySem PySem.W PySem.Spec PySem.Calls PyProof.Rows
open PySem.Sem (wp)
open PyProof.V
set_option Elab.async false
set_option maxRecDepth 100000
set_option maxHeartbeats 8000000
set_option linter.unusedVariables false
namespace Mine

section
variable {M : Model} {A : Around} {E : Value → Shared → Prop} {s : Shared} {env : Env}
theorem g_spliced_star {pos : Pos} {e : Expr} {rest : List Expr} {Q : List Value → Shared → Prop} (h : wpG M A (eval e env) (fun v s₁ => wpG M A (spliced (backTo pos (starEach rest env))) (fun vs s₂ => Q (v :: vs) s₂) E s₁) E s)
    (he : starEach (e :: rest) env = (false, eval e env) :: starEach rest env) : wpG M A (spliced (backTo pos (starEach (e :: rest) env))) Q E s := by
  rw [he]
  exact g_spliced_cons h
theorem g_spliced_end {pos : Pos} {Q : List Value → Shared → Prop} (h : Q [] s) : wpG M A (spliced (backTo pos (starEach [] env))) Q E s := g_any (spliced_nil h)
end

theorem g_callWith_any {M : Model} {A : Around} {E : Value → Shared → Prop} {s : Shared} {pos : Pos} {f : Value} {first : List Value} {args : List (Bool × Sem Value)} {kws : List (Option PySem.Str × Sem Value)} {Q : Value → Shared → Prop} (h : wpAny M A (callWith pos f first args kws) Q E s) : wpG M A (callWith pos f first args kws) Q E s := g_any h
theorem beL_len {b : Array UInt8} {n : Int} {k : Nat} (_h : KBw.bInts b = beL n k) : (beL n k).length = k := beL_length n k
noncomputable def tagL (n : Int) (kk hh bb : List Int) : List Int := beL (mixL (mixL (n + 1) kk) (beL (hh.length : Int) 4 ++ hh ++ bb)) 16
theorem tagL_length (n : Int) (kk hh bb : List Int) : (tagL n kk hh bb).length = 16 := beL_length _ _
def CTag (w : World) : Prop := ∀ (key : Array UInt8) (tk : Tok) (n : Int) (tn : Tok) (head : Array UInt8) (th : Tok) (body : Array UInt8) (tb : Tok) (kk hh bb : List Int) (news : Led), KBw.bInts key = kk → KBw.bInts head = hh → KBw.bInts body = bb → hh.length ≤ 1000 → bb.length ≤ 1000 →
  CtrG 3 w 62 [.bytes key tk, .int n tn, .bytes head th, .bytes body tb] news (fun v nw => nw = news ∧ ∃ b t, v = .bytes b t ∧ KBw.bInts b = tagL n kk hh bb)

def NoFall : Prop := True
theorem g_call_any {M : Model} {A : Around} {E : Value → Shared → Prop} {s : Shared} {f : Value} {vs : List Value} {kw : List (PySem.Str × Value)} {Q : Value → Shared → Prop} (h : wpAny M A (call f vs kw) Q E s) : wpG M A (call f vs kw) Q E s := g_any h
local macro_rules | `(tactic| walk_at "u5") => `(tactic| ((any_goals ((with_reducible show Below _ _ _ _); k_asm)); (any_goals ((with_reducible show Fr _ _ _ _); k_asm)); (any_goals ((with_reducible show Frag.In _ _); k_asm)); (any_goals ((with_reducible show News _ _ _ _); k_asm)); (any_goals ((with_reducible show Top _ _ _ _ _ _); k_asm))))
local macro_rules | `(tactic| walk_at "u1") => `(tactic| (walk_at "u5"; walk_at "u2"))
local macro_rules | `(tactic| walk_at "u2") => `(tactic| ((first | exact rfl | assumption); ktr_room; ktr_units))
local macro_rules | `(tactic| walk_at "u3") => `(tactic| first | exact .here | exact .skip .here | exact .skip (.skip .here) | exact .skip (.skip (.skip .here)) | exact .skip (.skip (.skip (.skip .here))) | exact .skip (.skip (.skip (.skip (.skip .here)))))
local macro_rules | `(tactic| walk_at "u4") => `(tactic| repeat (first | assumption | exact True.intro | (refine And.intro ⟨by first | k_ne | omega, by first | k_ne | omega⟩ ?_)))
local macro_rules | `(tactic| walk_at "wpG") => `(tactic| (k_here; (fail_if_success (have h : NoFall := by with_reducible assumption)); with_reducible refine g_call_any ?_))
local macro_rules | `(tactic| walk_at "wpG") => `(tactic| (k_here; with_reducible refine g_callWith_any ?_))
local macro_rules | `(tactic| walk_at "wpG") => `(tactic| (k_here; with_reducible refine g_exec_any ?_))
local macro_rules | `(tactic| walk_at "wpG") => `(tactic| (k_here; with_reducible refine g_eval_any ?_))
local macro_rules | `(tactic| walk_at "wpG") => `(tactic| (k_here; with_reducible refine g_isTrue_any ?_))
local macro_rules | `(tactic| walk_at "wpG") => `(tactic| (k_here; first | with_reducible refine g_execs_cons ?_ | with_reducible refine g_execs_nil ?_))
local macro_rules | `(tactic| walk_at "wpG") => `(tactic| (k_here; first | with_reducible refine g_Return ?_ | with_reducible refine g_If ?_))
local macro_rules | `(tactic| walk_at "wpG") => `(tactic| (k_here; (with_reducible refine g_Assign ?_ ?_); rotate_left; (with_unfolding_all rfl)))
local macro_rules | `(tactic| walk_at "wpG") => `(tactic| (k_here; first | with_reducible refine g_BinOp ?_ | with_reducible refine g_Call_Name ?_ | with_reducible refine g_isTrue_not ?_ | with_reducible refine g_isTrue_or ?_))
local macro_rules | `(tactic| walk_at "wpG") => `(tactic| (k_here; (first | with_reducible refine g_Compare ?_ ?_ | with_reducible refine g_isTrue_Compare ?_ ?_); rotate_left; (with_unfolding_all rfl)))
local macro_rules | `(tactic| walk_at "wpG") => `(tactic| (k_here; k_dflt (refine' g_callWith_KG ?k1 ?k4 ?_ ?k2 ?k3; (case k1 => k_asm); (case k4 => k_is); (case k2 => exact rfl); (case k3 => exact rfl); k_whole)))
local macro_rules | `(tactic| walk_at "wpG") => `(tactic| (k_here; first | with_reducible refine g_spliced_end ?_ | ((with_reducible refine g_spliced_star ?_ ?_); rotate_left; (with_unfolding_all rfl))))
-- calls
local macro_rules | `(tactic| walk_at "call ref") => `(tactic| (k_here; k_dflt (refine' Ctr.useI (c_mixed _ _ _ _ _ _ _ ?kb) ?_ ?_ ?_ ?_ ?_ ?_ ?_ ?_ ?_); (case kb => first | assumption | k_dflt (exact rfl) | kba_ints2); walk_at "u1"; intro t9 h9 tk9 F9 N9; (try dsimp only); (try k_fold)))
local macro_rules | `(tactic| walk_at "wpG") => `(tactic| (k_here; (with_reducible show wpG _ _ (PySem.call (Value.ref 48) _) _ _ _); refine g_any ?_))
local macro_rules | `(tactic| walk_at "wpG") => `(tactic| (k_here; k_dflt (refine' CtrG.useB (c_put _ _ _ _ _ _ ?kz ?kl ?kh) ?_ ?_ ?_ ?_ ?_ ?_ ?_ ?_ ?_); (case kz => first | exact .inl rfl | exact .inr rfl); (case kl => first | exact (mixL_bd _ _).1 | omega | assumption); (case kh => first | exact Int.lt_of_lt_of_le (mixL_bd _ _).2 (by decide) | assumption | (show _ < (4294967296 : Int); omega) | (show _ < (340282366920938463463374607431768211456 : Int); omega)); walk_at "u1"; intro b9 t9 h9 tk9 hb9 F9 N9; have hz9 := beL_len hb9; (try dsimp only); (try k_fold)))

theorem c_tag (w : World) : CTag w := by
  have nofall : NoFall := True.intro
  unfold CTag CtrG
  k_fill
  intro key tk n tn head th body tb kk hh bb news hkk hhh hbb hl1 hl2 mean mg mb dp un gd cn cs a ccd cl outer A₀ base h₀ L m s Q E B F X N T hk hdp hun hret
  refine g_call ?_
  k_dflt (refine' clean_def ?k1 ?k2 ?k3 ?k4 ?k5 ?kA ?kF ?kK ?k6 ?k7 ?k8 ?k9 ?kB ?_ ?c2 ?c3 ?c4 ?c5; (case kA => exact rfl); (case kF => exact rfl); (case kK => assumption); (case k1 => k_asm); (case k2 => k_asm); (case k3 => k_asm); (case k4 => k_asm); (case k5 => k_asm); (case k6 => k_is); (case k7 => k_is); (case k8 => ktr_room); (case k9 => exact BindsTo.of_eq rfl); (case c5 => decide); (case kB => exact locs rfl); (case c2 => exact rfl); (case c3 => exact rfl); (case c4 => exact rfl); k_whole; intro g' L' h' FG' F' N' B' X' T'; (try dsimp only); (try k_lift B'); (try k_fold))
  k_steps
  exact hret _ _ _ _ (by k_asm) (by k_asm) ⟨rfl, _, _, rfl, by assumption⟩
open PySem PySem.W PySem.Spec PySem.Calls PyProof.Rows
open PySem.Sem (wp)
open PyProof.V
set_option Elab.async false
set_option maxRecDepth 100000
set_option maxHeartbeats 8000000
set_option linter.unusedVariables false

theorem turnL_len {b : Array UInt8} {st : Int} {ks : List Int} (_h : KBw.bInts b = turnL st ks) : (turnL st ks).length = ks.length := turnL_length st ks
theorem tagL_len {b : Array UInt8} {n : Int} {kk hh bb : List Int} (_h : KBw.bInts b = tagL n kk hh bb) : (tagL n kk hh bb).length = 16 := tagL_length n kk hh bb
theorem bInts_inj {b c : Array UInt8} (h : KBw.bInts b = KBw.bInts c) : b.toList = c.toList := by
  unfold KBw.bInts at h
  have inj : ∀ l r : List UInt8, (l.map fun c => ((c.toNat : Nat) : Int)) = (r.map fun c => ((c.toNat : Nat) : Int)) → l = r := by
    intro l
    induction l with
    | nil => intro r h; cases r with
      | nil => rfl
      | cons _ _ => cases h
    | cons x l ih => intro r h; cases r with
      | nil => cases h
      | cons y r =>
        simp only [List.map_cons, List.cons.injEq] at h
        have hxy : x.toNat = y.toNat := by omega
        rw [UInt8.toNat_inj.mp hxy, ih r h.2]
  exact inj _ _ h
noncomputable def sealL (n : Int) (kk hh pp : List Int) : List Int := turnL (keySt n kk) pp ++ tagL n kk hh (turnL (keySt n kk) pp)
noncomputable def openR (n : Int) (kk hh ss : List Int) : Option (List Int) :=
  if ss.length < 16 then none else if tagL n kk hh (ss.take (ss.length - 16)) = ss.drop (ss.length - 16) then some (turnL (keySt n kk) (ss.take (ss.length - 16))) else none

theorem clip16 {n : Nat} (h : ¬ (n : Int) < 16) : clipAt n ((n : Int) - 16) = n - 16 := by
  unfold clipAt
  omega
theorem open_none1 {n : Int} {kk hh ss : List Int} (h : (ss.length : Int) < 16) : openR n kk hh ss = none := by
  unfold openR
  rw [if_pos (by omega)]
theorem open_none2 {n : Int} {kk hh ss : List Int} {b c : Array UInt8} (h : ¬ (ss.length : Int) < 16) (hb : KBw.bInts b = tagL n kk hh (List.take (clipAt ss.length ((ss.length : Int) - 16)) ss))
    (hc : KBw.bInts c = List.take (ss.length - clipAt ss.length ((ss.length : Int) - 16)) (List.drop (clipAt ss.length ((ss.length : Int) - 16)) ss)) (hne : (b.toList != c.toList) = true) : openR n kk hh ss = none := by
  rw [clip16 h] at hb hc
  unfold openR
  rw [if_neg (by omega), if_neg]
  intro he
  have : KBw.bInts b = KBw.bInts c := by
    rw [hb, hc, he, List.take_of_length_le]
    rw [List.length_drop]; omega
  rw [bInts_inj this] at hne
  simp at hne
theorem open_some {n : Int} {kk hh ss : List Int} {b c b2 : Array UInt8} (h : ¬ (ss.length : Int) < 16) (hb : KBw.bInts b = tagL n kk hh (List.take (clipAt ss.length ((ss.length : Int) - 16)) ss))
    (hc : KBw.bInts c = List.take (ss.length - clipAt ss.length ((ss.length : Int) - 16)) (List.drop (clipAt ss.length ((ss.length : Int) - 16)) ss)) (he : (b.toList != c.toList) = false)
    (hb2 : KBw.bInts b2 = turnL (keySt n kk) (List.take (clipAt ss.length ((ss.length : Int) - 16)) ss)) : openR n kk hh ss = some (KBw.bInts b2) := by
  rw [clip16 h] at hb hc hb2
  have e : b = c := Array.toList_inj.mp (by simpa using he)
  unfold openR
  rw [if_neg (by omega), if_pos, hb2]
  rw [← hb, e, hc, List.take_of_length_le]
  rw [List.length_drop]; omega

-- calls

local macro_rules | `(tactic| walk_at "call ref") => `(tactic| (k_here; k_dflt (refine' Ctr.useB (c_turned _ _ _ _ _ _ _ _ _ _ ?ka ?kb ?kc) ?_ ?_ ?_ ?_ ?_ ?_ ?_ ?_ ?_); (case ka => first | assumption | kba_ints2); (case kb => first | assumption | kba_ints2); (case kc => kba_size); walk_at "u1"; intro b9 t9 h9 tk9 hb9 F9 N9; have hz9 := turnL_len hb9; (try dsimp only); (try k_fold)))
local macro_rules | `(tactic| walk_at "wpG") => `(tactic| (k_here; k_dflt (refine' CtrG.useB (c_tag _ _ _ _ _ _ _ _ _ _ _ _ _ ?ka ?kb ?kc ?ke ?kf) ?_ ?_ ?_ ?_ ?_ ?_ ?_ ?_ ?_); (case ka => first | assumption | kba_ints2); (case kb => first | assumption | kba_ints2); (case kc => first | assumption | kba_ints2); (case ke => kba_size); (case kf => kba_size); walk_at "u1"; intro b9 t9 h9 tk9 hb9 F9 N9; have hz9 := tagL_len hb9; (try dsimp only); (try k_fold)))


def CSeal (w : World) : Prop := ∀ (key : Array UInt8) (tk : Tok) (n : Int) (tn : Tok) (head : Array UInt8) (th : Tok) (pay : Array UInt8) (tp : Tok) (kk hh pp : List Int) (news : Led), KBw.bInts key = kk → KBw.bInts head = hh → KBw.bInts pay = pp → hh.length ≤ 1000 → pp.length ≤ 1000 →
  CtrG 4 w 69 [.bytes key tk, .int n tn, .bytes head th, .bytes pay tp] news (fun v nw => nw = news ∧ ∃ b t, v = .bytes b t ∧ KBw.bInts b = sealL n kk hh pp)
theorem c_seal (w : World) : CSeal w := by
  unfold CSeal CtrG
  k_fill
  intro key tk n tn head th pay tp kk hh pp news hkk hhh hpp hl1 hl2 mean mg mb dp un gd cn cs a ccd cl outer A₀ base h₀ L m s Q E B F X N T hk hdp hun hret
  refine g_call ?_
  k_dflt (refine' clean_def ?k1 ?k2 ?k3 ?k4 ?k5 ?kA ?kF ?kK ?k6 ?k7 ?k8 ?k9 ?kB ?_ ?c2 ?c3 ?c4 ?c5; (case kA => exact rfl); (case kF => exact rfl); (case kK => assumption); (case k1 => k_asm); (case k2 => k_asm); (case k3 => k_asm); (case k4 => k_asm); (case k5 => k_asm); (case k6 => k_is); (case k7 => k_is); (case k8 => ktr_room); (case k9 => exact BindsTo.of_eq rfl); (case c5 => decide); (case kB => exact locs rfl); (case c2 => exact rfl); (case c3 => exact rfl); (case c4 => exact rfl); k_whole; intro g' L' h' FG' F' N' B' X' T'; (try dsimp only); (try k_lift B'); (try k_fold))
  k_steps
  exact hret _ _ _ _ (by k_asm) (by k_asm) ⟨rfl, _, _, rfl, by assumption⟩

def COpen (w : World) : Prop := ∀ (key : Array UInt8) (tk : Tok) (n : Int) (tn : Tok) (head : Array UInt8) (th : Tok) (sd : Array UInt8) (tp : Tok) (kk hh ss : List Int) (news : Led), KBw.bInts key = kk → KBw.bInts head = hh → KBw.bInts sd = ss → hh.length ≤ 1000 → ss.length ≤ 1000 →
  CtrG 4 w 76 [.bytes key tk, .int n tn, .bytes head th, .bytes sd tp] news (fun v nw => nw = news ∧ ((openR n kk hh ss = none ∧ v = .none) ∨ ∃ b t, v = .bytes b t ∧ openR n kk hh ss = some (KBw.bInts b)))
theorem c_open (w : World) : COpen w := by
  unfold COpen CtrG
  k_fill
  intro key tk n tn head th sd tp kk hh ss news hkk hhh hss hl1 hl2 mean mg mb dp un gd cn cs a ccd cl outer A₀ base h₀ L m s Q E B F X N T hk hdp hun hret
  refine g_call ?_
  k_dflt (refine' clean_def ?k1 ?k2 ?k3 ?k4 ?k5 ?kA ?kF ?kK ?k6 ?k7 ?k8 ?k9 ?kB ?_ ?c2 ?c3 ?c4 ?c5; (case kA => exact rfl); (case kF => exact rfl); (case kK => assumption); (case k1 => k_asm); (case k2 => k_asm); (case k3 => k_asm); (case k4 => k_asm); (case k5 => k_asm); (case k6 => k_is); (case k7 => k_is); (case k8 => ktr_room); (case k9 => exact BindsTo.of_eq rfl); (case c5 => decide); (case kB => exact locs rfl); (case c2 => exact rfl); (case c3 => exact rfl); (case c4 => exact rfl); k_whole; intro g' L' h' FG' F' N' B' X' T'; (try dsimp only); (try k_lift B'); (try k_fold))
  k_steps
  · exact hret _ _ _ _ (by k_asm) (by k_asm) ⟨rfl, .inl ⟨open_none1 (by assumption), rfl⟩⟩
  · exact hret _ _ _ _ (by k_asm) (by k_asm) ⟨rfl, .inl ⟨open_none2 (by assumption) (by assumption) (by assumption) (by assumption), rfl⟩⟩
  · exact hret _ _ _ _ (by k_asm) (by k_asm) ⟨rfl, .inr ⟨_, _, rfl, open_some (by assumption) (by assumption) (by assumption) (by assumption) (by assumption)⟩⟩
section
open PySem PySem.W PySem.Spec PySem.Calls PyProof.Rows
open PySem.Sem (wp)
open PyProof.V
set_option Elab.async false
set_option maxRecDepth 100000
set_option maxHeartbeats 8000000
set_option linter.unusedVariables false


theorem g_Subscript {M : Model} {A : Around} {E : Value → Shared → Prop} {s : Shared} {env : Env} {value slice pos} {Q : Value → Shared → Prop}
    (h : wpG M A (eval value env) (fun o s₁ => wpAny M A (eval slice env) (fun i s₂ => wpAny M A (subscriptTail value slice o i) Q E s₂) E s₁) E s) : wpG M A (eval (.Subscript value slice pos) env) Q E s := by
  rw [eval_Subscript]
  exact g_bind (g_mono h (fun o s₁ h₁ => g_any (wpAny_bind (wpAny_holding (wpAny_mono h₁ (fun i s₂ h₂ => wpAny_bind (wpAny_standAt h₂)) fun _ _ x => x)))) fun _ _ x => x)
-- calls




noncomputable def maskL (kk ss : List Int) : List Int := (beL (mixL (mixL 7 kk) ss) 16).drop 11
theorem mask_end {b : Array UInt8} {x : Int} (hb : KBw.bInts b = beL x (Int.toNat 16)) : KBw.bInts (KBy.picked b (some (16 - 5)) none) = (beL x 16).drop 11 := by
  rw [KBc.ints_picked hb]
  have hl : (beL x (Int.toNat 16)).length = 16 := beL_length _ _
  rw [hl]
  show List.take (16 - 11) (List.drop 11 (beL x 16)) = _
  rw [List.take_of_length_le]
  rw [List.length_drop, beL_length]; omega
theorem maskL_length (kk ss : List Int) : (maskL kk ss).length = 5 := by unfold maskL; rw [List.length_drop, beL_length]
def CMask (w : World) : Prop := ∀ (key : Array UInt8) (tk : Tok) (sm : Array UInt8) (ts : Tok) (kk ss : List Int) (news : Led), KBw.bInts key = kk → KBw.bInts sm = ss →
  CtrG 3 w 83 [.bytes key tk, .bytes sm ts] news (fun v nw => nw = news ∧ ∃ b t, v = .bytes b t ∧ KBw.bInts b = maskL kk ss)
section
local macro_rules | `(tactic| walk_at "wpG") => `(tactic| (k_here; with_reducible refine g_Subscript ?_))
theorem c_mask (w : World) : CMask w := by
  unfold CMask CtrG
  k_fill
  intro key tk sm ts kk ss news hkk hss mean mg mb dp un gd cn cs a ccd cl outer A₀ base h₀ L m s Q E B F X N T hk hdp hun hret
  refine g_call ?_
  k_dflt (refine' clean_def ?k1 ?k2 ?k3 ?k4 ?k5 ?kA ?kF ?kK ?k6 ?k7 ?k8 ?k9 ?kB ?_ ?c2 ?c3 ?c4 ?c5; (case kA => exact rfl); (case kF => exact rfl); (case kK => assumption); (case k1 => k_asm); (case k2 => k_asm); (case k3 => k_asm); (case k4 => k_asm); (case k5 => k_asm); (case k6 => k_is); (case k7 => k_is); (case k8 => ktr_room); (case k9 => exact BindsTo.of_eq rfl); (case c5 => decide); (case kB => exact locs rfl); (case c2 => exact rfl); (case c3 => exact rfl); (case c4 => exact rfl); k_whole; intro g' L' h' FG' F' N' B' X' T'; (try dsimp only); (try k_lift B'); (try k_fold))
  k_steps
  refine hret _ _ _ _ (by k_asm) (by k_asm) ⟨rfl, _, _, rfl, ?_⟩
  show _ = (beL (mixL (mixL 7 kk) ss) 16).drop 11
  exact mask_end (by assumption)
end

def tfirst (f m0 : Int) : Int := Builtin.bitXor f (Builtin.bitAnd m0 (if f ≥ 128 then 15 else 31))
def CFirst (w : World) : Prop := ∀ (f : Int) (tf : Tok) (mk : Array UInt8) (tm : Tok) (ms : List Int) (news : Led), KBw.bInts mk = ms → 1 ≤ ms.length → ms.length ≤ 1000 →
  Ctr 1 w 90 [.int f tf, .bytes mk tm] news (fun v nw => nw = news ∧ ∃ t, v = .int (tfirst f (ms.getD 0 0)) t)
theorem c_first (w : World) : CFirst w := by
  unfold CFirst Ctr
  k_fill
  intro f tf mk tm ms news hms hl1 hl2 mean mg mb dp un gd cn cs a ccd cl outer A₀ base h₀ L m s Q E B F X N T hk hdp hun hret
  refine wpAny_call ?_
  k_dflt cell_enter
  k_steps
  · have e : tfirst f (ms.getD 0 0) = Builtin.bitXor f (Builtin.bitAnd (ms.getD (Int.toNat 0) 0) 15) := by
      unfold tfirst; rw [if_pos (by assumption)]; rfl
    exact hret _ _ _ _ (by k_asm) (by k_asm) ⟨rfl, _, by rw [e]⟩
  · have e : tfirst f (ms.getD 0 0) = Builtin.bitXor f (Builtin.bitAnd (ms.getD (Int.toNat 0) 0) 31) := by
      unfold tfirst; rw [if_neg (by assumption)]; rfl
    exact hret _ _ _ _ (by k_asm) (by k_asm) ⟨rfl, _, by rw [e]⟩

theorem sample_end {b : Array UInt8} {ds : List Int} {k : Int} (hb : KBw.bInts b = ds) (hl : ds.length = 24) (h0 : 0 ≤ k) (h1 : k < 5) : KBw.bInts (KBy.picked b (some (k + 4)) (some (k + 4 + 16))) = (ds.drop (k.toNat + 4)).take 16 := by
  rw [KBc.ints_picked hb, hl]
  have e1 : clipAt 24 (k + 4) = k.toNat + 4 := by unfold clipAt; omega
  have e2 : clipAt 24 (k + 4 + 16) = k.toNat + 20 := by unfold clipAt; omega
  show List.take (clipAt 24 (k + 4 + 16) - clipAt 24 (k + 4)) (List.drop (clipAt 24 (k + 4)) ds) = _
  rw [e1, e2]
  congr 1
  omega
def CSample (w : World) : Prop := ∀ (d : Array UInt8) (td : Tok) (at' : Int) (ta te : Tok) (ds : List Int) (news : Led), KBw.bInts d = ds → ds.length = 24 → 0 ≤ at' → at' < 8 →
  Ctr 1 w 102 [.bytes d td, .int at' ta, .int 24 te] news (fun v nw => nw = news ∧ ((at' ≥ 5 ∧ v = .none) ∨ (at' < 5 ∧ ∃ b t, v = .bytes b t ∧ KBw.bInts b = (ds.drop (at'.toNat + 4)).take 16)))
theorem c_sample (w : World) : CSample w := by
  unfold CSample Ctr
  k_fill
  intro d td at' ta te ds news hds hl h0 h1 mean mg mb dp un gd cn cs a ccd cl outer A₀ base h₀ L m s Q E B F X N T hk hdp hun hret
  refine wpAny_call ?_
  k_dflt cell_enter
  k_steps
  · exact hret _ _ _ _ (by k_asm) (by k_asm) ⟨rfl, .inl ⟨by omega, rfl⟩⟩
  · exact hret _ _ _ _ (by k_asm) (by k_asm) ⟨rfl, .inr ⟨by omega, _, _, rfl, sample_end hds hl h0 (by omega)⟩⟩
end
section
open PySem PySem.W PySem.Spec PySem.Calls PyProof.Rows
open PySem.Sem (wp)
open PyProof.V
set_option Elab.async false
set_option maxRecDepth 100000
set_option maxHeartbeats 8000000
set_option linter.unusedVariables false



section
variable {prog : Program} {w : World} {A : Around} {E : Value → Shared → Prop} {s : Shared}
theorem bi_look_bytes : typeLookup (.type "int") "__bytes__" = pure none := by rw [typeLookup_type, builtinLookup_eq_fast]; kernel_rfl
theorem bytes_of_int {n : Int} {tn : Tok} {Q : Value → Shared → Prop} (h0 : 0 ≤ n) (h1 : n ≤ 16777216) (h : ∀ t k, Q (.bytes (Array.replicate n.toNat 0) t) { s with toks := k }) : wpAny (model prog w) A (call (.type "bytes") [.int n tn]) Q E s := by
  have hlim : sizeLine = 16777216 := by decide
  have hT := typeIs_int s n tn
  refine callType_codes (Q₁ := fun obj s₁ => s₁.TypeIs obj "bytes" ∧ Q obj s₁) F.bm_called (F.bm_typeCall _) F.entry_object_init ?_ fun obj s₁ h₁ => ?_
  · refine codeAny_of_tree ?_
    show wpAny _ A.in1.in1 (do checkBuiltinCall "bytes.__new__" ⟨[.type "bytes", .int n tn], []⟩; again (.builtin "bytes.__new__" ⟨[.type "bytes", .int n tn], []⟩)) _ _ s
    refine wpAny_bind (wpAny_of_eq (F.bm_newCall _) (wpAny_pure ⟨plainId_quiet F.bm_plain _, codeAny_builtin F.bm_entry ?_⟩))
    rw [Around.under_plainId F.bm_plain _]
    unfold Builtin.«bytes.__new__»
    refine wpAny_bind (wpAny_of_eq (a := true) rfl ?_)
    refine bm_if_false rfl ?_
    refine wpAny_bind (wpAny_of_eq F.bm_sub ?_)
    refine bm_if_false rfl ?_
    refine wpAny_bind (wpAny_of_eq (F.bm_bind _) ?_)
    refine wpAny_bind (wpAny_of_eq (a := ()) rfl ?_)
    refine wpAny_bind (wpAny_of_eq (a := ()) rfl ?_)
    refine bm_if_false rfl ?_
    refine wpAny_bind (wpAny_specialOf hT bi_look_bytes ?_)
    refine wpAny_bind (wpAny_of_eq (a := false) rfl ?_)
    refine bm_if_false rfl ?_
    refine wpAny_bind (wpAny_specialOf hT F.slot_int_index.lookup ?_)
    refine bm_if_false rfl ?_
    refine wpAny_bind (wpAny_attempt (wpAny_of_eq (rfl : asIndex (.int n tn) = pure n) ?_))
    dsimp only
    refine bm_if_false (by simp only [Builtin.Bytes.fitsIndex, Bool.not_eq_false', Bool.and_eq_true, decide_eq_true_eq]; omega) ?_
    rw [if_neg (by omega)]
    rw [if_neg (by omega)]
    refine bm_if_false (by unfold Builtin.Bytes.tooLong; rw [hlim]; simp only [decide_eq_false_iff_not]; omega) ?_
    refine wpAny_bind (wpAny_rule ?_)
    refine wpAny_bind (wpAny_mkBytes ?_ (by rw [Array.size_replicate, hlim]; omega))
    show wpAny _ _ (if (Value.type "bytes" == Value.type "bytes") = true then _ else _) _ _ _
    refine bm_if_true (by decide) ?_
    first
      | exact wpAny_pure ⟨typeIs_bytes _ _ _, h _ _⟩
      | exact wpAny_bind (wpAny_pure (wpAny_pure ⟨typeIs_bytes _ _ _, h _ _⟩))
  · exact ⟨h₁.1, F.args_object_init_2 obj _, object_init_meets F.bm_called.init.lookup F.bm_called.made (by decide) prog w A.in1 _ s₁ ⟨h₁.1, rfl, h₁.2⟩⟩
end
theorem bInts_zeros (n : Nat) : KBw.bInts (Array.replicate n (0 : UInt8)) = List.replicate n 0 := by
  unfold KBw.bInts; simp
theorem bytes_of_int' {prog : Program} {w : World} {A : Around} {E : Value → Shared → Prop} {s : Shared} {n : Int} {tn : Tok} {Q : Value → Shared → Prop} (h0 : 0 ≤ n) (h1 : n ≤ 16777216) (h : ∀ z t k, KBw.bInts z = List.replicate n.toNat 0 → (List.replicate n.toNat (0:Int)).length = n.toNat → Q (.bytes z t) { s with toks := k }) : wpAny (model prog w) A (call (.type "bytes") [.int n tn]) Q E s :=
  bytes_of_int h0 h1 fun t k => h _ t k (bInts_zeros _) (by simp)
def CPad (w : World) : Prop := ∀ (b : Array UInt8) (tb : Tok) (z : Int) (tz : Tok) (bs : List Int) (news : Led), KBw.bInts b = bs → bs.length ≤ 1000 → 1 ≤ z → z ≤ 4 →
  Ctr 1 w 109 [.bytes b tb, .int z tz] news (fun v nw => nw = news ∧ ∃ b t, v = .bytes b t ∧ KBw.bInts b = bs ++ List.replicate (4 - z - bs.length).toNat 0)
section
local macro_rules | `(tactic| walk_at "call type:bytes") => `(tactic| ((refine bytes_of_int' (by omega) (by omega) ?_); intro b9 t9 k9 hb9 hz9; (try dsimp only)))
theorem c_pad (w : World) : CPad w := by
  unfold CPad Ctr
  k_fill
  intro b tb z tz bs news hbs hl h0 h1 mean mg mb dp un gd cn cs a ccd cl outer A₀ base h₀ L m s Q E B F X N T hk hdp hun hret
  refine wpAny_call ?_
  k_dflt cell_enter
  k_steps
  · exact hret _ _ _ _ (by k_asm) (by k_asm) ⟨rfl, _, _, rfl, by first | assumption | kba_ints2⟩
  · refine hret _ _ _ _ (by k_asm) (by k_asm) ⟨rfl, _, _, rfl, ?_⟩
    rw [show (4 - z - (bs.length : Int)).toNat = 0 by omega, List.replicate_zero, List.append_nil]; assumption
end
end
section
open PySem PySem.W PySem.Spec PySem.Calls PyProof.Rows
open PySem.Sem (wp)
open PyProof.V
set_option Elab.async false
set_option maxRecDepth 100000
set_option maxHeartbeats 8000000
set_option linter.unusedVariables false

def IsDraws (R : Addr) (oD oR : Obj) : Prop := ∃ (seed : Int) (ts : Tok) (n0 n1 : Nat) (vs : List Value) (ns : List Int), oD = PySem.W.listOf [Value.ref R, .int seed ts].toArray n0 ∧ oR = PySem.W.listOf vs.toArray n1 ∧ IntsAre vs ns ∧ vs.length ≤ 100 ∧ 0 ≤ seed ∧ seed < 2147483647

section
variable {prog : Program} {w : World} {A : Around} {E : Value → Shared → Prop} {s : Shared} {h₀ : Heap} {L d : Addr} {m : PySem.Str → Option Value} {news news' : Led}
theorem ne_made_nil {l R : Addr} {n : Nat} {pre : Led} {p1 : Addr × Obj} {Q : Value → Shared → Prop} (N : News h₀ L s.heap ((l, W.listOf #[] 0) :: p1 :: (R, W.listOf #[] n) :: pre)) (hu : A.units + 64 < cLine) (h : Q (.bool false) s) :
    wpAny (model prog w) A (compareOp .NotEq (.ref R) (.ref l)) Q E s := by
  refine ne_intsK (vs := []) (us := []) (PySem.IsL.isList (n := n) (N _ (.tail _ (.tail _ (.head _)))).1) IntsAre.nil (PySem.IsL.isList (n := 0) (N _ (.head _)).1) IntsAre.nil hu ?_
  simpa using h
theorem ne_made_cons {l R : Addr} {n : Nat} {pre : Led} {p1 : Addr × Obj} {i : Int} {t : Tok} {vs : List Value} {ns : List Int} {Q : Value → Shared → Prop} (N : News h₀ L s.heap ((l, W.listOf #[] 0) :: p1 :: (R, W.listOf (.int i t :: vs).toArray n) :: pre)) (hi : IntsAre vs ns) (hu : A.units + 64 < cLine) (h : Q (.bool true) s) :
    wpAny (model prog w) A (compareOp .NotEq (.ref R) (.ref l)) Q E s := by
  refine ne_intsK (us := []) (PySem.IsL.isList (n := n) (N _ (.tail _ (.tail _ (.head _)))).1) (IntsAre.cons i t hi) (PySem.IsL.isList (n := 0) (N _ (.head _)).1) IntsAre.nil hu ?_
  simpa using h
theorem set1_made {l D : Addr} {o : Obj} {a b v : Value} {n : Nat} {pre : Led} {t : Tok} {Q : Unit → Shared → Prop} (F : Fr h₀ L s.heap m) (N : News h₀ L s.heap ((l, o) :: (D, W.listOf [a, b].toArray n) :: pre)) (hl : l ≠ D) (hr : ∀ p ∈ pre, p.1 ≠ D)
    (h : ∀ h', Fr h₀ L h' m → News h₀ L h' ((D, W.listOf [a, v].toArray n) :: pre) → Q () { s with heap := h' }) : wpAny (model prog w) A (setItem (.ref D) (.int 1 t) v) Q E s := by
  have z := N _ (.tail _ (.head _))
  have N' : News h₀ L s.heap ([] ++ (D, W.listOf [a, b].toArray n) :: pre) := fun p hp => N p (.tail _ hp)
  refine ki_setAt z.1 (by decide) (by decide) (by show (1 : Int) < 2; decide) (h _ (F.change (Heap.SameBut.update ..) z.2.1 z.2.2) (ki_turn _ N' (fun _ h => nomatch h) hr rfl ?_))
  simp
theorem popR_made {l D R : Addr} {o o' : Obj} {i : Int} {t u : Tok} {vs : List Value} {n : Nat} {pre : Led} {Q : Value → Shared → Prop} (F : Fr h₀ L s.heap m) (N : News h₀ L s.heap ((l, o) :: (D, o') :: (R, W.listOf (.int i t :: vs).toArray n) :: pre)) (hD : D ≠ R) (hr : ∀ p ∈ pre, p.1 ≠ R) (hz : vs.length ≤ 99)
    (h : ∀ h', Fr h₀ L h' m → News h₀ L h' ((D, o') :: (R, W.listOf vs.toArray (n + 1)) :: pre) → Q (.int i t) { s with heap := h' }) : wpAny (model prog w) A (call (.builtin "list.pop") [.ref R, .int 0 u]) Q E s := by
  have N' : News h₀ L s.heap ((D, o') :: (R, W.listOf (.int i t :: vs).toArray n) :: pre) := fun p hp => N p (.tail _ hp)
  refine kl_popAt (k := 0) (p := []) (q := vs) (y := .int i t) F N' rfl ?_ rfl (.tail hD (.head hr)) ?_ h
  · unfold seqIndex?
    simp
  · show vs.length + 1 ≤ sizeLine
    rw [show sizeLine = 16777216 by decide]; omega
end
def CTake (w : World) : Prop := ∀ (D R : Addr) (oD oR : Obj) (rest : Led) (many : Int) (tm : Tok), IsDraws R oD oR → D ≠ R → (∀ p ∈ rest, p.1 ≠ D ∧ p.1 ≠ R) → 1 ≤ many →
  Ctr 9 w 121 [.ref D, .int many tm] ((D, oD) :: (R, oR) :: rest) (fun v nw => ∃ x t oD' oR', v = .int x t ∧ 0 ≤ x ∧ x < many ∧ nw = (D, oD') :: (R, oR') :: rest ∧ IsDraws R oD' oR')
section
local macro_rules | `(tactic| walk_at "compareOp NotEq ref ref") => `(tactic| first | (refine' ne_made_nil ?k1 ?k2 ?_; (case k1 => k_asm); (case k2 => ktr_units)) | (refine' ne_made_cons ?k1 ?k3 ?k2 ?_; (case k1 => k_asm); (case k3 => assumption); (case k2 => ktr_units)))
local macro_rules | `(tactic| walk_at "call builtin:list.pop") => `(tactic| refine stop_mk ?_)
local macro_rules | `(tactic| walk_at "setItem ref int") => `(tactic| refine stop_mk ?_)
theorem c_take (w : World) : CTake w := by
  unfold CTake Ctr
  k_fill
  intro D R oD oR rest many tm hdr hDR hrest hmany mean mg mb dp un gd cn cs a ccd cl outer A₀ base h₀ L m s Q E B F X N T hk hdp hun hret
  obtain ⟨seed, ts, n0, n1, vs, ns, rfl, rfl, hvs, hvl, hs0, hs1⟩ := hdr
  refine wpAny_call ?_
  k_dflt cell_enter
  cases hvs with
  | nil =>
    k_steps
    unfold Stop
    rename News _ _ _ _ => lN
    rename D < _ ∧ R < _ ∧ _ => lt
    refine set1_made (by k_asm) lN (Nat.ne_of_gt lt.1) (fun p hp => by rcases List.mem_cons.mp hp with rfl | hp; exact Ne.symm hDR; exact (hrest p hp).1) ?_
    intro h' F' N'
    k_steps
    have q0 : (0:Int) ≤ (((seed * 48271 + 23).fmod 2147483647).fdiv 16).fmod many := Int.fmod_nonneg_of_pos _ (by omega)
    have q1 := Int.fmod_lt_of_pos (((seed * 48271 + 23).fmod 2147483647).fdiv 16) (show 0 < many by omega)
    exact hret _ _ _ _ (by k_asm) (by k_asm) ⟨_, _, _, _, rfl, q0, q1, rfl, _, _, n0, n1, [], [], rfl, rfl, .nil, by simp, Int.fmod_nonneg_of_pos _ (by decide), Int.fmod_lt_of_pos _ (by decide)⟩
  | cons i t hvs =>
    k_steps
    unfold Stop
    rename News _ _ _ _ => lN
    refine popR_made (by k_asm) lN hDR (fun p hp => (hrest p hp).2) (by simpa using hvl) ?_
    intro h' F' N'
    k_steps
    have q0 : (0:Int) ≤ i.fmod many := Int.fmod_nonneg_of_pos _ (by omega)
    have q1 := Int.fmod_lt_of_pos i (show 0 < many by omega)
    exact hret _ _ _ _ (by k_asm) (by k_asm) ⟨_, _, _, _, rfl, q0, q1, rfl, seed, ts, n0, n1 + 1, _, _, rfl, rfl, hvs, by have := hvl; simp only [List.length_cons] at this; omega, hs0, hs1⟩
end
end
open PySem PySem.W PySem.Spec PySem.Calls PyProof.Rows
open PySem.Sem (wp)
open PyProof.V
set_option Elab.async false
set_option maxRecDepth 100000
set_option maxHeartbeats 8000000
set_option linter.unusedVariables false



noncomputable def Off2 (D R : Addr) : Led → Prop
  | [] => True
  | p :: r => ((@Ne Nat p.1 D) ∧ (@Ne Nat p.1 R)) ∧ Off2 D R r
theorem Off2.mem {D R : Addr} : ∀ {l : Led}, Off2 D R l → ∀ p ∈ l, p.1 ≠ D ∧ p.1 ≠ R
  | [], _, _, h => nomatch h
  | _ :: _, x, p, h => by
    rcases List.mem_cons.mp h with rfl | h
    · exact x.1
    · exact Off2.mem x.2 p h
inductive Pull2 (D R : Addr) (oD oR : Obj) : Led → Led → Prop
  | here {r} : Pull2 D R oD oR ((D, oD) :: (R, oR) :: r) r
  | skip {p l r} : Pull2 D R oD oR l r → Pull2 D R oD oR (p :: l) (p :: r)
theorem Pull2.sub {D R : Addr} {oD oR : Obj} {l r : Led} (h : Pull2 D R oD oR l r) : ∀ p ∈ (D, oD) :: (R, oR) :: r, p ∈ l := by
  induction h with
  | here => exact fun p hp => hp
  | skip h ih =>
    intro p hp
    rcases List.mem_cons.mp hp with rfl | hp
    · exact .tail _ (ih _ (.head _))
    rcases List.mem_cons.mp hp with rfl | hp
    · exact .tail _ (ih _ (.tail _ (.head _)))
    rcases List.mem_cons.mp hp with rfl | hp
    · exact .head _
    · exact .tail _ (ih _ (.tail _ (.tail _ hp)))
theorem take_use {D R : Addr} {oD oR : Obj} {rest news : Led} {many : Int} {tm : Tok} {w : World} {mean : ExcName → Option Value} {mg mb : PySem.Str → Option Value} {dp un : Nat} {gd : Option (List Code)} {cn : PySem.Str} {cs : Scope} {a : Addr} {ccd : Value} {cl : List (PySem.Str × Addr)} {outer : List Env} {A₀ : Around} {base h₀ : Heap} {L : Addr} {m : PySem.Str → Option Value} {s : Shared} {Q E : Value → Shared → Prop}
    (hdr : IsDraws R oD oR) (hne : D ≠ R) (B : Below A₀ base outer h₀) (F : Fr h₀ L s.heap m) (X : (hd.heap_39 w.params).In h₀) (N : News h₀ L s.heap news) (pull : Pull2 D R oD oR news rest) (off : Off2 D R rest) (hmany : 1 ≤ many)
    (T : Top hd.view_39 (looseW hd.view_39 [Str.ofString "MODULUS"]) mean mg mb h₀) (hk : cs.kind = .function) (hdp : dp + 9 < recursionLimit) (hu : un + 8 * 9 < cLine)
    (ret : ∀ (x : Int) (t : Tok) (oD' oR' : Obj) (h' : Heap) (tk' : Nat), 0 ≤ x → x < many → IsDraws R oD' oR' → Fr h₀ L h' m → News h₀ L h' ((D, oD') :: (R, oR') :: rest) → Q (.int x t) { s with heap := h', toks := tk' }) :
    wpAny (model PySem.Challenge.rw_no0055_01.row.prog w) (ktrTop dp un gd cn cs L a ccd cl outer) (call (.ref 121) [.ref D, .int many tm]) Q E s :=
  (c_take w D R oD oR rest many tm hdr hne off.mem hmany).use B F X (fun p hp => N p (pull.sub p hp)) T hk hdp hu fun v nw h' tk' F' N' p => by
    obtain ⟨x, t, oD', oR', rfl, h0, h1, rfl, hd'⟩ := p
    exact ret x t oD' oR' h' tk' h0 h1 hd' F' N'
local macro_rules | `(tactic| walk_at "call ref") => `(tactic| (k_here; k_dflt (refine' take_use ?ka ?kb ?_ ?_ ?_ ?_ ?kp ?ko ?km ?_ ?_ ?_ ?_ ?_); walk_at "u5"; (case kp => walk_at "u3");  (case ka => assumption); (case kb => assumption); (case ko => walk_at "u4"); (case km => first | omega | decide); walk_at "u2"; intro x9 t9 oD9 oR9 h9 tk9 hx9 hy9 hz9 F9 N9; (try dsimp only); (try k_fold)))
section
theorem comp_ind {prog : Program} {w : World} {A : Around} {h₀ : Heap} {L : Addr} {m : PySem.Str → Option Value} {env : Env} {elt : Expr} {x : PySem.Str} {scope : Scope} {cl : List (PySem.Str × Addr)} {s : Shared} {S : Led → Prop} {P : Nat → Value → Prop} {Fin : List Value → Led → Prop} {n : Nat} {news : Led}
    (J : Nat → List Value → Led → Prop) (h0 : J 0 [] news)
    (step : ∀ i ys news, i < n → J i ys news → ∀ v I oI C oC D m₂ h tk (E' : Value → Shared → Prop), P i v → LCg.NsObj oC m₂ → m₂ x = some v → Fr h₀ L h m → News h₀ L h ((I, oI) :: (C, oC) :: (D, LCg.lst ys) :: news) → LCg.Off3 I C D news → ((@Ne Nat I C) ∧ (@Ne Nat I D) ∧ (@Ne Nat C D)) →
      wpAny (model prog w) A (eval elt (compEnvC scope cl C env)) (LCg.CompEnd h₀ L m { s with heap := h, toks := tk } I oI C oC D (LCg.lst ys) S (fun y news' => J (i + 1) (ys ++ [y]) news')) E' { s with heap := h, toks := tk })
    (fin : ∀ ys news, J n ys news → Fin ys news) : LCg.CompRest prog w A h₀ L m env elt x scope cl s S P Fin n 0 [] news := by
  have key : ∀ k i ys news, i + k = n → J i ys news → LCg.CompRest prog w A h₀ L m env elt x scope cl s S P Fin k i ys news := by
    intro k
    induction k with
    | zero => intro i ys news e hj; obtain rfl : i = n := by omega
              exact .zero (fin _ _ hj)
    | succ k ih =>
      intro i ys news e hj
      refine .succ fun v I oI C oC D m₂ h tk E' hP hO hx F N off ne => ?_
      refine wpAny_mono (step i ys news (by omega) hj v I oI C oC D m₂ h tk E' hP hO hx F N off ne) (fun y s₂ h₂ => ?_) fun _ _ e => e
      obtain ⟨h', tk', nw, a, b, c, d, f, g⟩ := h₂
      exact ⟨h', tk', nw, a, b, c, d, f, ih (i + 1) _ _ (by omega) g⟩
  exact key n 0 [] news (by omega) h0


theorem bytes_ints_K {prog : Program} {w : World} {A : Around} {E : Value → Shared → Prop} {s : Shared} {h₀ : Heap} {L l : Addr} {m : PySem.Str → Option Value} {news : Led} {ys : List Value} {ns : List Int} {Q : Value → Shared → Prop}
    (F : Fr h₀ L s.heap m) (N : News h₀ L s.heap ((l, LCg.lst ys) :: news)) (hi : IntsAre ys ns) (hr : KBa.In ns) (hz : ns.length ≤ 1000) (hh : A.handled = none)
    (h : ∀ b h' t k, KBw.bInts b = ns → Fr h₀ L h' m → News h₀ L h' news → Q (.bytes b t) { s with heap := h', toks := k }) : wpAny (model prog w) A (call (.type "bytes") [.ref l]) Q E s := by
  refine call_bytes_ints (ns := ns) ⟨_, (N _ (.head _)).1, rfl, _, rfl⟩ hi hr (by rw [hi.length, show sizeLine = 16777216 by decide]; omega) hh fun h' t k hk => ?_
  exact h _ h' t k (KBa.ints_make hr) (F.keeps hk) (fun p hp => (N.grown hk) p (.tail _ hp))
theorem in_snoc {ns : List Int} {x : Int} (h : KBa.In ns) (h0 : 0 ≤ x) (h1 : x < 256) : KBa.In (ns ++ [x]) := by
  intro n hn
  rcases List.mem_append.mp hn with hn | hn
  · exact h n hn
  · rw [List.mem_singleton.mp hn]; exact ⟨h0, h1⟩
theorem led_sub {I C Dl D R K : Addr × Obj} {r : Led} : ∀ p ∈ I :: C :: Dl :: D :: R :: K :: r, p ∈ D :: R :: I :: C :: Dl :: K :: r := by
  intro p hp
  simp only [List.mem_cons] at hp ⊢
  rcases hp with h | h | h | h | h | h | h <;> simp [h]
theorem led_sub0 {D R K : Addr × Obj} {r : Led} : ∀ p ∈ D :: R :: r, p ∈ D :: R :: K :: r := by
  intro p hp
  simp only [List.mem_cons] at hp ⊢
  rcases hp with h | h | h <;> simp [h]
theorem off_get {I C Dl D R K : Addr} {oD oR oK : Obj} {r : Led} (h : LCg.Off3 I C Dl ((D, oD) :: (R, oR) :: (K, oK) :: r)) : ((@Ne Nat D I) ∧ (@Ne Nat D C) ∧ (@Ne Nat D Dl)) ∧ ((@Ne Nat R I) ∧ (@Ne Nat R C) ∧ (@Ne Nat R Dl)) := ⟨h.1, h.2.1⟩
/-- the state of a draws comprehension: its list, the ledger -/
def DrawJ (D R K : Addr) (oK : Obj) (rest : Led) (i : Nat) (ys : List Value) (nw : Led) : Prop := ∃ oD oR ns, nw = (D, oD) :: (R, oR) :: (K, oK) :: rest ∧ IsDraws R oD oR ∧ IntsAre ys ns ∧ KBa.In ns ∧ ns.length = i
def CBytes (w : World) : Prop := ∀ (D R : Addr) (oD oR : Obj) (rest : Led) (most : Int) (tm : Tok), IsDraws R oD oR → D ≠ R → Off2 D R rest → 1 ≤ most → most ≤ 100 →
  Ctr 12 w 126 [.ref D, .int most tm] ((D, oD) :: (R, oR) :: rest) (fun v nw => ∃ b t oD' oR', v = .bytes b t ∧ (KBw.bInts b).length ≤ most ∧ nw = (D, oD') :: (R, oR') :: rest ∧ IsDraws R oD' oR')
section
local macro_rules | `(tactic| walk_at "call type:bytes") => `(tactic| ((refine' bytes_ints_K ?k1 ?k2 ?k3 ?k4 ?k5 ?k6 ?_); (case k1 => k_asm); (case k2 => k_asm); (case k3 => assumption); (case k4 => assumption); (case k5 => omega); (case k6 => rfl); intro b9 h9 t9 k9 hb9 F9 N9; (try dsimp only)))
local macro_rules | `(tactic| walk_at "CompSrc") => `(tactic| refine stop_mk ?_)
local macro_rules | `(tactic| walk_at "eval ListComp") => `(tactic| refine stop_mk ?_)
theorem c_octets (w : World) : CBytes w := by
  unfold CBytes Ctr
  k_fill
  intro D R oD oR rest most tm hdr hDR hrest hm1 hm2 mean mg mb dp un gd cn cs a ccd cl outer A₀ base h₀ L m s Q E B F X N T hk hdp hun hret
  refine wpAny_call ?_
  k_dflt (refine' code_defC ?k1 ?k2 ?k3 ?k4 ?k5 ?kA ?kF ?kK ?k6 ?k7 ?k8 ?k9 ?kB ?kD ?_ ?c2 ?c3 ?c4; (case kA => exact rfl); (case kF => exact rfl); (case kK => assumption); (case k1 => k_asm); (case k2 => k_asm); (case k3 => k_asm); (case k4 => k_asm); (case k5 => k_asm); (case k6 => k_is); (case k7 => k_is); (case k8 => ktr_room); (case k9 => exact BindsTo.of_eq rfl); (case kB => exact rfl); (case kD => decide +kernel); (case c2 => exact rfl); (case c3 => exact rfl); (case c4 => exact rfl); k_whole; intro g' L' h' tk' cells' FG' F' N' Y' B' X' T' l1; (try k_lt l1); k_cells Y'; (try simp only [List.cons_append, List.nil_append] at N'); (try dsimp only); (try k_lift B'); (try k_fold))
  k_steps
  unfold Stop
  rename Fr _ _ _ _ => lF
  refine LCg.ListComp_U lF (by with_unfolding_all rfl) (by decide) (by rfl) (by decide) (by rfl) ?_
  k_steps
  unfold Stop
  rename Fr _ _ _ _ => lF2
  rename News _ _ _ _ => lN2
  rename IsDraws _ _ _ => lD2
  rename IsRange _ _ _ _ _ _ _ _ => lR2
  rename Int => cnt
  have hc0 : 0 ≤ cnt := by assumption
  have hc1 : cnt < most + 1 := by assumption
  refine LCg.CompSrc.range (n := cnt.toNat) rfl lF2 lN2 lR2 ?hsm ?hn (by rw [show sizeLine = 16777216 by decide]; omega) fun g => ?_
  case hsm =>
    exact small_one (by omega) (by omega) (by omega) (by omega)
  case hn =>
    rw [PyProof.Rows.rangeSize_nat]; simp
  refine comp_ind (DrawJ D R (L' + 1) _ rest) ⟨_, _, [], rfl, lD2, .nil, (fun _ h => nomatch h), rfl⟩ ?_ ?_
  · clear lF2 lN2 lD2 lF lR2 N'
    rintro i ys nw hi ⟨oD3, oR3, ns, rfl, hD3, hys, hns, hlen⟩ v I oI C oC Dl m₂ h3 tk3 E' ⟨t3, rfl⟩ hNs hx F3 N3 off3 ne3
    have offD := off_get off3
    k_steps
    rename IsDraws _ _ _ => lD4
    rename News _ _ _ _ => lN4
    exact LCg.CompEnd.intro (by k_asm) lN4 ((D, _) :: (R, _) :: (L' + 1, _) :: rest) led_sub off3 trivial ⟨_, _, ns ++ [_], rfl, lD4, IntsAre.append hys (.cons _ _ .nil), in_snoc hns (by assumption) (by assumption), by simp [hlen]⟩
  · rintro ys nw ⟨oD3, oR3, ns, rfl, hD3, hys, hns, hlen⟩
    clear lF2 lN2 lD2 lF lR2 N'
    intro Dl h3 tk3 F3 N3 o3
    have hl3 : ns.length ≤ 1000 := by omega
    k_steps
    exact hret _ _ _ _ (by k_asm) (KStb.news_of (by k_asm) fun p hp => .tail _ (led_sub0 p hp)) ⟨_, _, _, _, rfl, by rw [KBa.ints_make hns]; omega, rfl, hD3⟩
end
end
section
open PySem PySem.W PySem.Spec PySem.Calls PyProof.Rows
open PySem.Sem (wp)
open PyProof.V
set_option Elab.async false
set_option maxRecDepth 100000
set_option maxHeartbeats 8000000
set_option linter.unusedVariables false



def spoilL (i : Nat) (d : Int) (ks : List Int) : List Int := ks.take i ++ [(ks.getD i 0 + 1 + d) % 256] ++ ks.drop (i + 1)
theorem spoil_end {b : Array UInt8} {ks : List Int} {x d : Int} (hb : KBw.bInts b = ks) (h0 : 0 ≤ x) (h1 : x < ks.length) :
    KBw.bInts (KBy.picked b none (some x) ++ #[((ks.getD x.toNat 0 + 1 + d).fmod 256).toNat.toUInt8] ++ KBy.picked b (some (x + 1)) none) = spoilL x.toNat d ks := by
  have hv : KBw.bInts #[((ks.getD x.toNat 0 + 1 + d).fmod 256).toNat.toUInt8] = [(ks.getD x.toNat 0 + 1 + d) % 256] := by
    rw [← Int.fmod_eq_emod_of_nonneg _ (by decide : (0:Int) ≤ 256)]
    refine KBa.ints_make (ns := [(ks.getD x.toNat 0 + 1 + d).fmod 256]) ?_
    intro n hn
    rw [List.mem_singleton.mp hn]
    exact ⟨Int.fmod_nonneg_of_pos _ (by decide), Int.fmod_lt_of_pos _ (by decide)⟩
  refine KBw.ints_app (KBw.ints_app ?_ hv) ?_
  · rw [KBc.ints_picked hb]
    show List.take (clipAt ks.length x - 0) (List.drop 0 ks) = _
    rw [show clipAt ks.length x = x.toNat by unfold clipAt; omega]; simp
  · rw [KBc.ints_picked hb]
    show List.take (ks.length - clipAt ks.length (x + 1)) (List.drop (clipAt ks.length (x + 1)) ks) = _
    rw [show clipAt ks.length (x + 1) = x.toNat + 1 by unfold clipAt; omega, List.take_of_length_le]
    rw [List.length_drop]; omega
def CSpoil (w : World) : Prop := ∀ (D R : Addr) (oD oR : Obj) (rest : Led) (b : Array UInt8) (tb : Tok) (ks : List Int), KBw.bInts b = ks → 1 ≤ ks.length → ks.length ≤ 1000 → IsDraws R oD oR → D ≠ R → Off2 D R rest →
  Ctr 12 w 133 [.ref D, .bytes b tb] ((D, oD) :: (R, oR) :: rest) (fun v nw => ∃ b t oD' oR' i d, v = .bytes b t ∧ i < ks.length ∧ 0 ≤ d ∧ d < 255 ∧ KBw.bInts b = spoilL i d ks ∧ nw = (D, oD') :: (R, oR') :: rest ∧ IsDraws R oD' oR')
section

theorem c_spoil (w : World) : CSpoil w := by
  unfold CSpoil Ctr
  k_fill
  intro D R oD oR rest b tb ks hks hl1 hl2 hdr hDR hrest mean mg mb dp un gd cn cs a ccd cl outer A₀ base h₀ L m s Q E B F X N T hk hdp hun hret
  refine wpAny_call ?_
  k_dflt cell_enter
  k_steps
  refine hret _ _ _ _ (by k_asm) (KStb.news_of (by k_asm) fun p hp => .tail _ hp) ⟨_, _, _, _, _, _, rfl, ?_, ?_, ?_, spoil_end hks ?_ ?_, rfl, by assumption⟩
  all_goals omega
end
end
section
open PySem PySem.W PySem.Spec PySem.Calls PyProof.Rows
open PySem.Sem (wp)
open PyProof.V
set_option Elab.async false
set_option maxRecDepth 100000
set_option maxHeartbeats 8000000
set_option linter.unusedVariables false



def CtrH (H : Heap → Prop) (d : Nat) (w : World) (f : Addr) (vs : List Value) (news : Led) (Post : Value → Led → Prop) : Prop :=
  ∀ (mean : ExcName → Option Value) (mg mb : PySem.Str → Option Value) (dp un : Nat) (gd : Option (List Code)) (cn : PySem.Str) (cs : Scope) (a : Addr) (ccd : Value) (cl : List (PySem.Str × Addr)) (outer : List Env) (A₀ : Around) (base h₀ : Heap) (L : Addr) (m : PySem.Str → Option Value) (s : Shared) (Q E : Value → Shared → Prop),
    H h₀ → Below A₀ base outer h₀ → Fr h₀ L s.heap m → (hd.heap_39 w.params).In h₀ → News h₀ L s.heap news → Top hd.view_39 (looseW hd.view_39 [Str.ofString "MODULUS"]) mean mg mb h₀ → cs.kind = .function →
    dp + d < recursionLimit → un + 8 * d < cLine →
    (∀ (v : Value) (nw : Led) (h' : Heap) (tk' : Nat), Fr h₀ L h' m → News h₀ L h' nw → Post v nw → Q v { s with heap := h', toks := tk' }) →
    wpAny (model PySem.Challenge.rw_no0055_01.row.prog w) (ktrTop dp un gd cn cs L a ccd cl outer) (call (.ref f) vs) Q E s
def CDraws (w : World) : Prop := ∀ (S : Addr) (vs : List Value) (ns : List Int), IntsAre vs ns → ns.length ≤ 63 →
  CtrH (fun h => h.IsList S vs.toArray) 2 w 114 [.ref S] [] (fun v nw => ∃ D R oD oR, v = .ref D ∧ D ≠ R ∧ nw = [(D, oD), (R, oR)] ∧ IsDraws R oD oR)
theorem loop_list {prog : Program} {w : World} {A : Around} {E : Value → Shared → Prop} {s : Shared} {env : Env} {h₀ : Heap} {x : PySem.Str} {body : List Stmt} {Q : Flow → Shared → Prop} {m₀ : PySem.Str → Option Value} {news : Led} {ax : Addr} {items : Array Value}
    (J : Nat → (PySem.Str → Option Value) → Led → Prop) (hh : A.handled = none) (hl : s.heap.IsList ax items) (F : Fr h₀ env.locals s.heap m₀) (N : News h₀ env.locals s.heap news) (hLa : env.locals ≠ ax) (hj : J 0 m₀ news)
    (turn : ∀ i v m₁ nx h tk own, items[i]? = some v → J i m₁ nx → (∀ p ∈ nx, p.1 ∉ [s.heap.objs.size]) → Fr h₀ env.locals h (fun y => if y = x then some v else m₁ y) → News h₀ env.locals h (own ++ nx) →
      wpAny (model prog w) A (execs body env) (LoopStepV h₀ env.locals [s.heap.objs.size] own (J (i + 1)) { s with heap := h, toks := tk } (fun v s' => Q (.ret v) s') fun s' => Q .next s') E { s with heap := h, toks := tk })
    (done : ∀ m₁ nx h tk, J items.size m₁ nx → Fr h₀ env.locals h m₁ → News h₀ env.locals h nx → Q .next { s with heap := h, toks := tk }) :
    wpAny (model prog w) A (pyIter (.ref ax)) (fun it s₂ => LoopAtV prog w A h₀ env x body Q E it s₂) E s := by
  have hlt : ax < s.heap.objs.size := by obtain ⟨_, e, _⟩ := hl; exact Heap.lt_size e
  refine wpAny_pyIter_list hl ?_
  refine ⟨s.heap.objs.size, _, _, items.size, _, _, m₀, news, J, rfl, Walks.list hh _ ax (Nat.ne_of_lt hlt) items, ?_, ?_, ?_, ⟨⟨_, Heap.get?_push_size _ rfl, rfl, rfl⟩, hl.push _⟩, F.push _, (fun p hp => ⟨Heap.get?_push_of_some _ (N p hp).1, (N p hp).2⟩), hj, ?_, ?_⟩
  · intro hm
    rcases List.mem_cons.mp hm with hm | hm
    · exact absurd F.ns.lt (hm ▸ Nat.lt_irrefl _)
    · exact hLa (List.mem_singleton.mp hm)
  · intro b' hb
    rw [List.mem_singleton.mp hb]
    exact next_is_new F
  · intro p hp hI
    exact absurd (Heap.lt_size (N p hp).1) ((List.mem_singleton.mp hI) ▸ Nat.lt_irrefl _)
  · rintro i v m₁ nx s₁ own ⟨h, tk, rfl⟩ hi hP hJ hw _ _ _ _ F₁ N₁
    exact turn i v m₁ nx h tk own hP hJ hw F₁ N₁
  · rintro h' tk m' nx F₁ N₁ _ hJ
    exact done m' nx h' tk hJ F₁ N₁
def drawInv (x y : PySem.Str) (news : Led) (m₀ : PySem.Str → Option Value) (i : Nat) (m : PySem.Str → Option Value) (nx : Led) : Prop :=
  nx = news ∧ (∃ v t, m y = some (.int v t) ∧ 0 ≤ v ∧ v < 2147483647) ∧ ∀ z, z ≠ x → z ≠ y → m z = m₀ z
theorem draws_end {h₀ h : Heap} {L l R : Addr} {sd : Int} {tb : Tok} {ys : List Value} {ns : List Int} {oT oW : Addr × Obj} (N : News h₀ L h [(l, W.listOf #[.ref R, .int sd tb] 0), oT, (R, LCg.lst ys), oW]) (hne : @Ne Nat l R) (hi : IntsAre ys ns) (hl : ys.length ≤ 100) (h0 : 0 ≤ sd) (h1 : sd < 2147483647) :
    ∃ nw, News h₀ L h nw ∧ ∃ D R oD oR, Value.ref l = .ref D ∧ D ≠ R ∧ nw = [(D, oD), (R, oR)] ∧ IsDraws R oD oR := by
  refine ⟨[(l, W.listOf #[.ref R, .int sd tb] 0), (R, LCg.lst ys)], fun p hp => N p ?_, l, R, _, _, rfl, hne, rfl, sd, tb, 0, ys.length, ys, ns, rfl, rfl, hi, hl, h0, h1⟩
  simp only [List.mem_cons, List.not_mem_nil, or_false] at hp
  rcases hp with rfl | rfl
  · exact .head _
  · exact .tail _ (.tail _ (.head _))
theorem news_name {h₀ h : Heap} {L : Addr} {n : Led} (F : News h₀ L h n) : ∃ n0, n0 = n ∧ News h₀ L h n0 := ⟨n, rfl, F⟩
section
local macro_rules | `(tactic| walk_at "LoopStepV") => `(tactic| refine stop_mk ?_)
local macro_rules | `(tactic| walk_at "pyIter ref") => `(tactic| refine stop_mk ?_)
theorem c_draws (w : World) : CDraws w := by
  unfold CDraws CtrH
  k_fill
  intro S vs ns hi hl mean mg mb dp un gd cn cs a ccd cl outer A₀ base h₀ L m s Q E hS B F X N T hk hdp hun hret
  refine wpAny_call ?_
  k_dflt cell_enter
  rename Fr h₀ L _ m => FG
  obtain ⟨oS, eS, rS⟩ := hS
  have hS2 : Heap.IsList _ S vs.toArray := ⟨oS, FG.keep _ _ eS, rS⟩
  k_steps
  unfold Stop
  rename Fr _ _ _ _ => lF
  rename News _ _ _ _ => lN
  obtain ⟨m0, hm0, lF⟩ := fr_name lF
  obtain ⟨nw, hnw, lN'⟩ := news_name lN
  refine loop_list (drawInv (PySem.Str.ofString "one") (PySem.Str.ofString "seed") nw m0) rfl ⟨_, (lN _ (.tail _ (.head _))).1, rfl, _, rfl⟩ lF lN' (Ne.symm (lN _ (.tail _ (.head _))).2.1) ?hj ?_ ?_
  case hj =>
    subst hm0
    exact ⟨rfl, ⟨6151, _, (by first | exact (if_pos rfl) | (dsimp only; rw [if_neg (by decide)]; exact if_pos rfl)), by decide, by decide⟩, fun _ _ _ => rfl⟩
  · clear lF lN lN'
    subst hnw
    subst hm0
    rintro i v m₁ nx h tk own hi ⟨rfl, ⟨_, tb, hn, hv0, hv1⟩, hm⟩ hw F3 N3
    obtain ⟨k, t, rfl, hk⟩ := IntsAre.at (by assumption) i v (by simpa using hi)
    rw [map_one hn hm] at F3
    k_steps
    unfold Stop
    refine' LoopStepV.next (LoopStepU.intro (by k_asm) (by k_asm) hw ⟨rfl, ⟨_, _, if_pos rfl, ?v0, ?v1⟩, ?same⟩)
    case v0 => exact Int.fmod_nonneg_of_pos _ (by decide)
    case v1 => exact Int.fmod_lt_of_pos _ (by decide)
    case same =>
      intro z z1 z2
      rw [if_neg z2, if_neg z1, if_neg z2]
  · clear lF lN lN'
    subst hnw
    subst hm0
    rintro m₁ nx h tk ⟨rfl, ⟨sd, tb, hn, hv0, hv1⟩, hm⟩ F3 N3
    rw [← done_one hn hm] at F3
    k_steps
    rename IntsAre ys _ => hys
    have hyl := hys.length
    rw [List.length_map, List.length_take] at hyl
    rename News h₀ L _ _ => lN5
    obtain ⟨nw, N6, P6⟩ := draws_end lN5 (by first | k_ne | omega) hys (by omega) hv0 hv1
    exact hret _ _ _ _ (by k_asm) N6 P6
end
end
section
open PySem PySem.W PySem.Spec PySem.Calls PyProof.Rows
open PySem.Sem (wp)
open PyProof.V
set_option Elab.async false
set_option maxRecDepth 100000
set_option linter.unusedVariables false
abbrev Bd (a : Int) : Prop := 0 ≤ a ∧ a < 170141183460469231731687303715884105727
theorem mod_inj {M F G c a b k : Int} (hg : F * G = 1 + M * c) (ha : 0 ≤ a ∧ a < M) (hb : 0 ≤ b ∧ b < M) (h : (a * F + k + 1) % M = (b * F + k + 1) % M) : a = b := by
  obtain ⟨u, hu⟩ := Int.dvd_of_emod_eq_zero (Int.emod_eq_emod_iff_emod_sub_eq_zero.mp h)
  have h2 : (a - b) * F = M * u := by rw [← hu, Int.sub_mul]; omega
  have h3 : a - b = M * (u * G - (a - b) * c) := by
    have h4 : (a - b) * F * G = M * u * G := by rw [h2]
    rw [Int.mul_assoc, hg, Int.mul_add, Int.mul_one] at h4
    have e1 : (a - b) * (M * c) = M * ((a - b) * c) := by rw [← Int.mul_assoc, ← Int.mul_assoc, Int.mul_comm (a - b) M]
    have e2 : M * u * G = M * (u * G) := Int.mul_assoc ..
    rw [Int.mul_sub]
    omega
  have h5 : a % M = b % M := by
    rw [show a = b + M * (u * G - (a - b) * c) by omega, Int.add_mul_emod_self_left]
  rwa [Int.emod_eq_of_lt ha.1 ha.2, Int.emod_eq_of_lt hb.1 hb.2] at h5
theorem mod_ne {M x k l : Int} (hk : 0 ≤ k ∧ k < M) (hl : 0 ≤ l ∧ l < M) (h : (x + k + 1) % M = (x + l + 1) % M) : k = l := by
  have h1 : (k + (x + 1)) % M = (l + (x + 1)) % M := by
    rw [show k + (x + 1) = x + k + 1 by omega, show l + (x + 1) = x + l + 1 by omega]; exact h
  rw [Int.emod_add_cancel_right] at h1
  rwa [Int.emod_eq_of_lt hk.1 hk.2, Int.emod_eq_of_lt hl.1 hl.2] at h1
theorem inv_F : (6364136223846793005 : Int) * 111159958757776452325671795171527994789 = 1 + 170141183460469231731687303715884105727 * 4157941691618991872 := by decide
theorem step_inj {a b k : Int} (ha : Bd a) (hb : Bd b) (h : mixStep a k = mixStep b k) : a = b := mod_inj inv_F ha hb h
theorem step_ne {a k l : Int} (hk : 0 ≤ k ∧ k < 256) (hl : 0 ≤ l ∧ l < 256) (h : mixStep a k = mixStep a l) : k = l :=
  mod_ne (M := 170141183460469231731687303715884105727) ⟨hk.1, Int.lt_trans hk.2 (by decide)⟩ ⟨hl.1, Int.lt_trans hl.2 (by decide)⟩ h
theorem fold_inj : ∀ {ks : List Int} {a b : Int}, Bd a → Bd b → ks.foldl mixStep a = ks.foldl mixStep b → a = b
  | [], _, _, _, _, h => h
  | k :: ks, a, b, ha, hb, h => step_inj ha hb (fold_inj (ks := ks) (mixStep_bd a k) (mixStep_bd b k) h)
theorem mixL_app (s : Int) (p q : List Int) : mixL s (p ++ q) = q.foldl mixStep (mixL s p) := by unfold mixL; rw [List.foldl_append]
theorem mixL_start {s t : Int} {ks : List Int} (h : mixL s ks = mixL t ks) : s % 170141183460469231731687303715884105727 = t % 170141183460469231731687303715884105727 := fold_inj ⟨Int.emod_nonneg _ (by decide), Int.emod_lt_of_pos _ (by decide)⟩ ⟨Int.emod_nonneg _ (by decide), Int.emod_lt_of_pos _ (by decide)⟩ h
theorem mixL_startB {s t : Int} {ks : List Int} (hs : Bd s) (ht : Bd t) (h : mixL s ks = mixL t ks) : s = t := by
  have := mixL_start h
  rw [Int.emod_eq_of_lt hs.1 hs.2, Int.emod_eq_of_lt ht.1 ht.2] at this
  exact this
theorem mixL_mid {s k l : Int} {p q : List Int} (hk : 0 ≤ k ∧ k < 256) (hl : 0 ≤ l ∧ l < 256) (h : mixL s (p ++ k :: q) = mixL s (p ++ l :: q)) : k = l := by
  rw [mixL_app, mixL_app] at h
  exact step_ne hk hl (fold_inj (mixStep_bd _ _) (mixStep_bd _ _) h)
theorem emod_split (x P : Int) (hP : 0 < P) : x % (P * 256) = P * (x / P % 256) + x % P := by
  have h1 := Int.mul_ediv_add_emod x P
  have h2 := Int.mul_ediv_add_emod (x / P) 256
  have h3 := Int.emod_nonneg x (Int.ne_of_gt hP)
  have h4 := Int.emod_lt_of_pos x hP
  have h5 : 0 ≤ x / P % 256 := Int.emod_nonneg _ (by decide)
  have h6 : x / P % 256 ≤ 255 := by have := Int.emod_lt_of_pos (x / P) (show (0:Int) < 256 by decide); omega
  have h7 : P * (x / P % 256) ≤ P * 255 := Int.mul_le_mul_of_nonneg_left h6 (Int.le_of_lt hP)
  have h8 : 0 ≤ P * (x / P % 256) := Int.mul_nonneg (Int.le_of_lt hP) h5
  have e : x = (P * (x / P % 256) + x % P) + P * 256 * (x / P / 256) := by
    have e1 : P * (x / P) = P * (256 * (x / P / 256)) + P * (x / P % 256) := by rw [← Int.mul_add, h2]
    rw [Int.mul_assoc]
    omega
  have e2 : x % (P * 256) = ((P * (x / P % 256) + x % P) + P * 256 * (x / P / 256)) % (P * 256) := by rw [← e]
  rw [e2, Int.add_mul_emod_self_left, Int.emod_eq_of_lt (by omega) (by omega)]
theorem beL_mod : ∀ {n : Nat} {x y : Int}, beL x n = beL y n → x % 256 ^ n = y % 256 ^ n
  | 0, x, y, _ => by simp
  | n + 1, x, y, h => by
    have h1 := List.cons.inj h
    have hP : (0 : Int) < 256 ^ n := Int.pow_pos (by decide)
    rw [Int.pow_succ, emod_split x _ hP, emod_split y _ hP, h1.1, beL_mod h1.2]
theorem beL_inj {n : Nat} {x y : Int} (h0 : 0 ≤ x) (h1 : x < 256 ^ n) (h2 : 0 ≤ y) (h3 : y < 256 ^ n) (h : beL x n = beL y n) : x = y := by
  have := beL_mod h
  rwa [Int.emod_eq_of_lt h0 h1, Int.emod_eq_of_lt h2 h3] at this
theorem tag_inj {n n' : Int} {kk kk' hh hh' bb bb' : List Int} (h : tagL n kk hh bb = tagL n' kk' hh' bb') :
    mixL (mixL (n + 1) kk) (beL (hh.length : Int) 4 ++ hh ++ bb) = mixL (mixL (n' + 1) kk') (beL (hh'.length : Int) 4 ++ hh' ++ bb') := by
  unfold tagL at h
  have hM : (170141183460469231731687303715884105727 : Int) < 256 ^ 16 := by decide
  have b1 := mixL_bd (mixL (n + 1) kk) (beL (hh.length : Int) 4 ++ hh ++ bb)
  have b2 := mixL_bd (mixL (n' + 1) kk') (beL (hh'.length : Int) 4 ++ hh' ++ bb')
  exact beL_inj b1.1 (Int.lt_trans b1.2 hM) b2.1 (Int.lt_trans b2.2 hM) h
end
section
open PySem PySem.W PySem.Spec PySem.Calls PyProof.Rows
open PySem.Sem (wp)
open PyProof.V
set_option Elab.async false
set_option maxRecDepth 100000
set_option linter.unusedVariables false
theorem spoil_form {i : Nat} {d : Int} {ks : List Int} (h : i < ks.length) (hin : KBa.In ks) (h0 : 0 ≤ d) (h1 : d < 255) :
    ∃ p k v q, ks = p ++ k :: q ∧ spoilL i d ks = p ++ v :: q ∧ k ≠ v ∧ (0 ≤ k ∧ k < 256) ∧ (0 ≤ v ∧ v < 256) ∧ p.length = i := by
  have hk : 0 ≤ ks.getD i 0 ∧ ks.getD i 0 < 256 := by
    rw [List.getD_eq_getElem?_getD, List.getElem?_eq_getElem h]
    exact hin _ (List.getElem_mem h)
  refine ⟨ks.take i, ks.getD i 0, (ks.getD i 0 + 1 + d) % 256, ks.drop (i + 1), ?_, ?_, by omega, hk, by omega, by rw [List.length_take]; omega⟩
  · rw [List.getD_eq_getElem?_getD, List.getElem?_eq_getElem h]
    show ks = ks.take i ++ ks[i] :: ks.drop (i + 1)
    rw [← List.drop_eq_getElem_cons h, List.take_append_drop]
  · unfold spoilL; rw [List.append_assoc]; rfl
theorem open_app {n : Int} {kk hh b t : List Int} (ht : t.length = 16) : openR n kk hh (b ++ t) = if tagL n kk hh b = t then some (turnL (keySt n kk) b) else none := by
  unfold openR
  have e : (b ++ t).length - 16 = b.length := by rw [List.length_append]; omega
  rw [e, List.take_left', List.drop_left', if_neg (by rw [List.length_append]; omega)]
  · rfl
  · rfl
theorem open_app_none {n : Int} {kk hh b t : List Int} (ht : t.length = 16) (h : tagL n kk hh b ≠ t) : openR n kk hh (b ++ t) = none := by
  rw [open_app ht, if_neg h]
theorem spoil_length {i : Nat} {d : Int} {ks : List Int} (h : i < ks.length) : (spoilL i d ks).length = ks.length := by
  unfold spoilL
  simp only [List.length_append, List.length_take, List.length_drop, List.length_cons, List.length_nil]
  omega
theorem turn_turn {st : Int} (hs : Bd st) {pp : List Int} (hin : KBa.In pp) : turnL st (turnL st pp) = pp := by
  apply List.ext_getElem (by rw [turnL_length, turnL_length])
  intro i h1 h2
  have hk := hin _ (List.getElem_mem h2)
  have hb := lcgN_bd hs (i + 1)
  simp only [turnL, List.getElem_map, List.getElem_zipIdx, Nat.zero_add]
  unfold turnO
  exact xor_xor hk.1 (by omega)
theorem key_bd (n : Int) (kk : List Int) : Bd (keySt n kk) := mixL_bd _ _
section
variable {n d : Int} {kk hh pp : List Int} {i : Nat}
theorem open_seal (hp : KBa.In pp) : openR n kk hh (sealL n kk hh pp) = some pp := by
  unfold sealL
  rw [open_app (tagL_length ..), if_pos rfl, turn_turn (key_bd n kk) hp]
theorem spoil0 (hin : KBa.In hh) (h : i < hh.length) (h0 : 0 ≤ d) (h1 : d < 255) : openR n kk (spoilL i d hh) (sealL n kk hh pp) = none := by
  unfold sealL
  refine open_app_none (tagL_length ..) fun e => ?_
  have e := tag_inj e
  rw [spoil_length h] at e
  obtain ⟨p, k, v, q, e1, e2, hne, hk, hv, _⟩ := spoil_form h hin h0 h1
  rw [e2] at e
  generalize beL (hh.length : Int) 4 = z at e
  rw [e1] at e
  simp only [List.append_assoc, List.cons_append] at e
  rw [← List.append_assoc, ← List.append_assoc] at e
  exact hne (mixL_mid hv hk e).symm
theorem spoil1 (hp : KBa.In (sealL n kk hh pp)) (h : i < (sealL n kk hh pp).length) (h0 : 0 ≤ d) (h1 : d < 255) : openR n kk hh (spoilL i d (sealL n kk hh pp)) = none := by
  obtain ⟨p, k, v, q, e1, e2, hne, hk, hv, hpl⟩ := spoil_form h hp h0 h1
  rw [e2]
  unfold sealL at e1
  generalize turnL (keySt n kk) pp = b at e1
  have ht : (tagL n kk hh b).length = 16 := tagL_length ..
  rcases List.append_eq_append_iff.mp e1 with ⟨r, h2, h3⟩ | ⟨r, h2, h3⟩
  · -- p = b ++ r
    subst h2
    rw [List.append_assoc]
    refine open_app_none ?_ fun e => ?_
    · rw [← ht, h3]; simp
    · rw [h3] at e
      exact hne (List.cons.inj (List.append_cancel_left e)).1
  · cases r with
    | nil =>
      simp only [List.append_nil] at h2
      simp only [List.nil_append] at h3
      subst h2
      refine open_app_none ?_ fun e => ?_
      · rw [← ht, ← h3]; simp
      · rw [← h3] at e
        exact hne (List.cons.inj e).1
    | cons x r =>
      simp only [List.cons_append] at h3
      obtain ⟨h4, h5⟩ := List.cons.inj h3
      subst h4
      subst h5
      subst h2
      rw [show p ++ v :: (r ++ tagL n kk hh (p ++ k :: r)) = (p ++ v :: r) ++ tagL n kk hh (p ++ k :: r) by simp]
      refine open_app_none ht fun e => ?_
      have e := tag_inj e
      rw [← List.append_assoc, ← List.append_assoc] at e
      exact hne (mixL_mid hv hk e).symm
theorem spoil2 (hin : KBa.In kk) (h : i < kk.length) (h0 : 0 ≤ d) (h1 : d < 255) : openR n (spoilL i d kk) hh (sealL n kk hh pp) = none := by
  unfold sealL
  refine open_app_none (tagL_length ..) fun e => ?_
  have e := mixL_startB (mixL_bd _ _) (mixL_bd _ _) (tag_inj e)
  obtain ⟨p, k, v, q, e1, e2, hne, hk, hv, _⟩ := spoil_form h hin h0 h1
  rw [e2] at e
  rw [e1] at e
  exact hne (mixL_mid hv hk e).symm
theorem spoil3 {x : Int} (h0 : 0 ≤ x) (h1 : x < 1048576) : openR (n + 1 + x) kk hh (sealL n kk hh pp) = none := by
  unfold sealL
  refine open_app_none (tagL_length ..) fun e => ?_
  have e := mixL_start (mixL_startB (mixL_bd _ _) (mixL_bd _ _) (tag_inj e))
  have e' : (n + (1 + x) + 1) % 170141183460469231731687303715884105727 = (n + 0 + 1) % 170141183460469231731687303715884105727 := by
    rw [show n + (1 + x) + 1 = n + 1 + x + 1 by omega, Int.add_zero]; exact e
  have := mod_ne ⟨by omega, Int.lt_of_le_of_lt (show 1 + x ≤ 1048576 by omega) (by decide)⟩ ⟨by decide, by decide⟩ e'
  omega
theorem beL_small {m : Nat} (h : m < 256) : beL (m : Int) 4 = [0, 0, 0] ++ [(m : Int)] := by
  simp only [beL]
  have e0 : (m : Int) / 256 ^ 0 % 256 = m := by simp; omega
  have e1 : (m : Int) / 256 ^ 1 % 256 = 0 := by simp; omega
  have e2 : (m : Int) / 256 ^ 2 % 256 = 0 := by simp; omega
  have e3 : (m : Int) / 256 ^ 3 % 256 = 0 := by simp; omega
  rw [e0, e1, e2, e3]; rfl
theorem spoil4 (h : 1 ≤ hh.length) (h2 : hh.length < 256) : openR n kk (hh.take (hh.length - 1)) (hh.drop (hh.length - 1) ++ sealL n kk hh pp) = none := by
  unfold sealL
  rw [← List.append_assoc]
  refine open_app_none (tagL_length ..) fun e => ?_
  have e := tag_inj e
  have e3 : ∀ z b : List Int, z ++ hh.take (hh.length - 1) ++ (hh.drop (hh.length - 1) ++ b) = z ++ hh ++ b := by
    intro z b
    rw [List.append_assoc, ← List.append_assoc (List.take _ _), List.take_append_drop, List.append_assoc]
  rw [e3, List.length_take, Nat.min_eq_left (by omega), beL_small (by omega), beL_small h2] at e
  simp only [List.append_assoc] at e
  have := mixL_mid (p := [0, 0, 0]) ⟨by omega, by omega⟩ ⟨by omega, by omega⟩ e
  omega
theorem spoil5 {ss : List Int} (h : ss.length < 16) : openR n kk hh ss = none := by unfold openR; rw [if_pos h]
theorem seal_length : (sealL n kk hh pp).length = pp.length + 16 := by unfold sealL; rw [List.length_append, turnL_length, tagL_length]
end
end
section
open PySem PySem.W PySem.Spec PySem.Calls PyProof.Rows
open PySem.Sem (wp)
open PyProof.V
set_option Elab.async false
set_option maxRecDepth 100000
set_option maxHeartbeats 8000000
set_option linter.unusedVariables false



theorem spoil_use {D R : Addr} {oD oR : Obj} {rest news : Led} {b : Array UInt8} {tb : Tok} {ks : List Int} {w : World} {mean : ExcName → Option Value} {mg mb : PySem.Str → Option Value} {dp un : Nat} {gd : Option (List Code)} {cn : PySem.Str} {cs : Scope} {a : Addr} {ccd : Value} {cl : List (PySem.Str × Addr)} {outer : List Env} {A₀ : Around} {base h₀ : Heap} {L : Addr} {m : PySem.Str → Option Value} {s : Shared} {Q E : Value → Shared → Prop}
    (hdr : IsDraws R oD oR) (hne : D ≠ R) (B : Below A₀ base outer h₀) (F : Fr h₀ L s.heap m) (X : (hd.heap_39 w.params).In h₀) (N : News h₀ L s.heap news) (pull : Pull2 D R oD oR news rest) (off : Off2 D R rest) (hks : KBw.bInts b = ks) (hl1 : 1 ≤ ks.length) (hl2 : ks.length ≤ 1000)
    (T : Top hd.view_39 (looseW hd.view_39 [Str.ofString "MODULUS"]) mean mg mb h₀) (hk : cs.kind = .function) (hdp : dp + 12 < recursionLimit) (hu : un + 8 * 12 < cLine)
    (ret : ∀ (b' : Array UInt8) (t : Tok) (oD' oR' : Obj) (i : Nat) (d : Int) (h' : Heap) (tk' : Nat), i < ks.length → 0 ≤ d → d < 255 → KBw.bInts b' = spoilL i d ks → (spoilL i d ks).length = ks.length → IsDraws R oD' oR' → Fr h₀ L h' m → News h₀ L h' ((D, oD') :: (R, oR') :: rest) → Q (.bytes b' t) { s with heap := h', toks := tk' }) :
    wpAny (model PySem.Challenge.rw_no0055_01.row.prog w) (ktrTop dp un gd cn cs L a ccd cl outer) (call (.ref 133) [.ref D, .bytes b tb]) Q E s :=
  (c_spoil w D R oD oR rest b tb ks hks hl1 hl2 hdr hne off).use B F X (fun p hp => N p (pull.sub p hp)) T hk hdp hu fun v nw h' tk' F' N' p => by
    obtain ⟨b', t, oD', oR', i, d, rfl, hi, h0, h1, hb, rfl, hd'⟩ := p
    exact ret b' t oD' oR' i d h' tk' hi h0 h1 hb (spoil_length hi) hd' F' N'
theorem octets_use {D R : Addr} {oD oR : Obj} {rest news : Led} {most : Int} {tm : Tok} {w : World} {mean : ExcName → Option Value} {mg mb : PySem.Str → Option Value} {dp un : Nat} {gd : Option (List Code)} {cn : PySem.Str} {cs : Scope} {a : Addr} {ccd : Value} {cl : List (PySem.Str × Addr)} {outer : List Env} {A₀ : Around} {base h₀ : Heap} {L : Addr} {m : PySem.Str → Option Value} {s : Shared} {Q E : Value → Shared → Prop}
    (hdr : IsDraws R oD oR) (hne : D ≠ R) (B : Below A₀ base outer h₀) (F : Fr h₀ L s.heap m) (X : (hd.heap_39 w.params).In h₀) (N : News h₀ L s.heap news) (pull : Pull2 D R oD oR news rest) (off : Off2 D R rest) (hm1 : 1 ≤ most) (hm2 : most ≤ 100)
    (T : Top hd.view_39 (looseW hd.view_39 [Str.ofString "MODULUS"]) mean mg mb h₀) (hk : cs.kind = .function) (hdp : dp + 12 < recursionLimit) (hu : un + 8 * 12 < cLine)
    (ret : ∀ (b' : Array UInt8) (t : Tok) (oD' oR' : Obj) (h' : Heap) (tk' : Nat) (ks : List Int), KBw.bInts b' = ks → (ks.length : Int) ≤ most → IsDraws R oD' oR' → Fr h₀ L h' m → News h₀ L h' ((D, oD') :: (R, oR') :: rest) → Q (.bytes b' t) { s with heap := h', toks := tk' }) :
    wpAny (model PySem.Challenge.rw_no0055_01.row.prog w) (ktrTop dp un gd cn cs L a ccd cl outer) (call (.ref 126) [.ref D, .int most tm]) Q E s :=
  (c_octets w D R oD oR rest most tm hdr hne off hm1 hm2).use B F X (fun p hp => N p (pull.sub p hp)) T hk hdp hu fun v nw h' tk' F' N' p => by
    obtain ⟨b', t, oD', oR', rfl, hl, rfl, hd'⟩ := p
    exact ret b' t oD' oR' h' tk' _ rfl hl hd' F' N'
theorem open_use_none {news : Led} {key : Array UInt8} {tk : Tok} {n : Int} {tn : Tok} {head : Array UInt8} {th : Tok} {sd : Array UInt8} {tp : Tok} {kk hh ss : List Int} {w : World} {mean : ExcName → Option Value} {mg mb : PySem.Str → Option Value} {dp un : Nat} {gd : Option (List Code)} {cn : PySem.Str} {cs : Scope} {a : Addr} {ccd : Value} {cl : List (PySem.Str × Addr)} {outer : List Env} {A₀ : Around} {base h₀ : Heap} {L : Addr} {m : PySem.Str → Option Value} {s : Shared} {Q E : Value → Shared → Prop}
    (hkk : KBw.bInts key = kk) (hhh : KBw.bInts head = hh) (hss : KBw.bInts sd = ss) (hl1 : hh.length ≤ 1000) (hl2 : ss.length ≤ 1000) (ho : openR n kk hh ss = none)
    (B : Below A₀ base outer h₀) (F : Fr h₀ L s.heap m) (X : (hd.heap_39 w.params).In h₀) (N : News h₀ L s.heap news) (T : Top hd.view_39 (looseW hd.view_39 [Str.ofString "MODULUS"]) mean mg mb h₀) (hk : cs.kind = .function) (hdp : dp + 4 < recursionLimit) (hu : un + 8 * 4 < cLine)
    (ret : ∀ (h' : Heap) (tk' : Nat), Fr h₀ L h' m → News h₀ L h' news → Q .none { s with heap := h', toks := tk' }) :
    wpG (model PySem.Challenge.rw_no0055_01.row.prog w) (ktrTop dp un gd cn cs L a ccd cl outer) (call (.ref 76) [.bytes key tk, .int n tn, .bytes head th, .bytes sd tp]) Q E s :=
  (c_open w key tk n tn head th sd tp kk hh ss news hkk hhh hss hl1 hl2).use B F X N T hk hdp hu fun v nw h' tk' F' N' p => by
    obtain ⟨rfl, ⟨_, rfl⟩ | ⟨b, t, _, h⟩⟩ := p
    · exact ret h' tk' F' N'
    · rw [ho] at h; cases h
theorem open_use_some {news : Led} {key : Array UInt8} {tk : Tok} {n : Int} {tn : Tok} {head : Array UInt8} {th : Tok} {sd : Array UInt8} {tp : Tok} {kk hh ss pp : List Int} {w : World} {mean : ExcName → Option Value} {mg mb : PySem.Str → Option Value} {dp un : Nat} {gd : Option (List Code)} {cn : PySem.Str} {cs : Scope} {a : Addr} {ccd : Value} {cl : List (PySem.Str × Addr)} {outer : List Env} {A₀ : Around} {base h₀ : Heap} {L : Addr} {m : PySem.Str → Option Value} {s : Shared} {Q E : Value → Shared → Prop}
    (hkk : KBw.bInts key = kk) (hhh : KBw.bInts head = hh) (hss : KBw.bInts sd = ss) (hl1 : hh.length ≤ 1000) (hl2 : ss.length ≤ 1000) (ho : openR n kk hh ss = some pp)
    (B : Below A₀ base outer h₀) (F : Fr h₀ L s.heap m) (X : (hd.heap_39 w.params).In h₀) (N : News h₀ L s.heap news) (T : Top hd.view_39 (looseW hd.view_39 [Str.ofString "MODULUS"]) mean mg mb h₀) (hk : cs.kind = .function) (hdp : dp + 4 < recursionLimit) (hu : un + 8 * 4 < cLine)
    (ret : ∀ (b : Array UInt8) (t : Tok) (h' : Heap) (tk' : Nat), KBw.bInts b = pp → Fr h₀ L h' m → News h₀ L h' news → Q (.bytes b t) { s with heap := h', toks := tk' }) :
    wpG (model PySem.Challenge.rw_no0055_01.row.prog w) (ktrTop dp un gd cn cs L a ccd cl outer) (call (.ref 76) [.bytes key tk, .int n tn, .bytes head th, .bytes sd tp]) Q E s :=
  (c_open w key tk n tn head th sd tp kk hh ss news hkk hhh hss hl1 hl2).use B F X N T hk hdp hu fun v nw h' tk' F' N' p => by
    obtain ⟨rfl, ⟨h, _⟩ | ⟨b, t, rfl, h⟩⟩ := p
    · rw [ho] at h; cases h
    · rw [ho] at h
      exact ret b t h' tk' (Option.some.inj h).symm F' N'

section
variable {n d : Int} {kk hh pp ss : List Int} {i : Nat}
theorem spoil0' (e : ss = sealL n kk hh pp) (hin : KBa.In hh) (h : i < hh.length) (h0 : 0 ≤ d) (h1 : d < 255) : openR n kk (spoilL i d hh) ss = none := e ▸ spoil0 hin h h0 h1
theorem spoil1' (e : ss = sealL n kk hh pp) (hp : KBa.In ss) (h : i < ss.length) (h0 : 0 ≤ d) (h1 : d < 255) : openR n kk hh (spoilL i d ss) = none := by subst e; exact spoil1 hp h h0 h1
theorem spoil2' (e : ss = sealL n kk hh pp) (hin : KBa.In kk) (h : i < kk.length) (h0 : 0 ≤ d) (h1 : d < 255) : openR n (spoilL i d kk) hh ss = none := e ▸ spoil2 hin h h0 h1
theorem spoil3' {x : Int} (e : ss = sealL n kk hh pp) (h0 : 0 ≤ x) (h1 : x < 2 ^ Int.toNat 20) : openR (n + 1 + x) kk hh ss = none := e ▸ spoil3 h0 (Int.lt_of_lt_of_le h1 (by decide))
theorem spoil4' (e : ss = sealL n kk hh pp) (h : 1 ≤ hh.length) (h2 : hh.length < 256) : openR n kk (hh.take (hh.length - 1)) (hh.drop (hh.length - 1) ++ ss) = none := e ▸ spoil4 h h2
theorem cut_init {b : Array UInt8} (h : KBw.bInts b = hh) : KBw.bInts (KBy.picked b none (some (-1))) = hh.take (hh.length - 1) := by
  rw [KBc.ints_picked h]
  show List.take (clipAt hh.length (-1) - 0) (List.drop 0 hh) = _
  rw [show clipAt hh.length (-1) = hh.length - 1 by unfold clipAt; omega]; rfl
theorem cut_last {b : Array UInt8} (h : KBw.bInts b = hh) : KBw.bInts (KBy.picked b (some (-1)) none) = hh.drop (hh.length - 1) := by
  rw [KBc.ints_picked h]
  show List.take (hh.length - clipAt hh.length (-1)) (List.drop (clipAt hh.length (-1)) hh) = _
  rw [show clipAt hh.length (-1) = hh.length - 1 by unfold clipAt; omega, List.take_of_length_le]
  rw [List.length_drop]; omega
theorem cut_to {b : Array UInt8} {x : Int} (h : KBw.bInts b = hh) (h0 : 0 ≤ x) : KBw.bInts (KBy.picked b none (some x)) = hh.take x.toNat := by
  rw [KBc.ints_picked h]
  show List.take (clipAt hh.length x - 0) (List.drop 0 hh) = _
  rw [List.drop_zero, Nat.sub_zero]
  by_cases hx : x ≤ hh.length
  · rw [show clipAt hh.length x = x.toNat by unfold clipAt; omega]
  · rw [List.take_of_length_le, List.take_of_length_le]
    · omega
    · unfold clipAt; omega
theorem cut_from {b : Array UInt8} {x : Int} (h : KBw.bInts b = hh) (h0 : 0 ≤ x) : KBw.bInts (KBy.picked b (some x) none) = hh.drop x.toNat := by
  rw [KBc.ints_picked h]
  show List.take (hh.length - clipAt hh.length x) (List.drop (clipAt hh.length x) hh) = _
  by_cases hx : x ≤ hh.length
  · rw [show clipAt hh.length x = x.toNat by unfold clipAt; omega, List.take_of_length_le]
    rw [List.length_drop]; omega
  · rw [List.drop_of_length_le, List.drop_of_length_le, List.take_nil]
    · omega
    · unfold clipAt; omega
end
def CSpoilt (w : World) : Prop := ∀ (D R : Addr) (oD oR : Obj) (rest : Led) (key : Array UInt8) (tk : Tok) (n : Int) (tn : Tok) (head : Array UInt8) (th : Tok) (cu : Array UInt8) (tc : Tok) (kk hh pp ss : List Int), KBw.bInts key = kk → KBw.bInts head = hh → KBw.bInts cu = ss → ss = sealL n kk hh pp → 1 ≤ kk.length → kk.length ≤ 10 → 1 ≤ hh.length → hh.length ≤ 10 → 16 ≤ ss.length → ss.length ≤ 30 → IsDraws R oD oR → D ≠ R → Off2 D R rest →
  CtrG 16 w 140 [.ref D, .bytes key tk, .int n tn, .bytes head th, .bytes cu tc] ((D, oD) :: (R, oR) :: rest) (fun v nw => v = .bool true ∧ ∃ oD' oR', nw = (D, oD') :: (R, oR') :: rest ∧ IsDraws R oD' oR')
section
local macro_rules | `(tactic| walk_at "wpG") => `(tactic| (k_here; with_reducible refine g_Subscript ?_))
-- calls




local macro_rules | `(tactic| walk_at "call ref") => `(tactic| (k_here; k_dflt (refine' spoil_use ?ka ?kb ?_ ?_ ?_ ?_ ?kp ?ko ?kc ?km ?kn ?_ ?_ ?_ ?_ ?_); walk_at "u5"; (case kp => walk_at "u3"); (case ka => assumption); (case kb => assumption); (case ko => walk_at "u4"); (case kc => first | assumption | kba_ints2); (case km => first | omega | kba_size); (case kn => kba_size); walk_at "u2"; intro b9 t9 oD9 oR9 i9 d9 h9 tk9 hi9 h09 h19 hb9 hl9 hz9 F9 N9; (try dsimp only); (try k_fold)))
local macro_rules | `(tactic| walk_at "wpG") => `(tactic| (k_here; (with_reducible show wpG _ _ (PySem.call (Value.ref 76) _) _ _ _); refine stop_mk ?_))

theorem c_spoilt (w : World) : CSpoilt w := by
  unfold CSpoilt CtrG
  k_fill
  intro D R oD oR rest key tk n tn head th cu tc kk hh pp ss hkk hhh hcu hss hk1 hk2 hh1 hh2 hs1 hs2 hdr hDR hrest mean mg mb dp un gd cn cs a ccd cl outer A₀ base h₀ L m s Q E B F X N T hk hdp hun hret
  refine g_call ?_
  k_dflt (refine' clean_def ?k1 ?k2 ?k3 ?k4 ?k5 ?kA ?kF ?kK ?k6 ?k7 ?k8 ?k9 ?kB ?_ ?c2 ?c3 ?c4 ?c5; (case kA => exact rfl); (case kF => exact rfl); (case kK => assumption); (case k1 => k_asm); (case k2 => k_asm); (case k3 => k_asm); (case k4 => k_asm); (case k5 => k_asm); (case k6 => k_is); (case k7 => k_is); (case k8 => ktr_room); (case k9 => exact BindsTo.of_eq rfl); (case c5 => decide); (case kB => exact locs rfl); (case c2 => exact rfl); (case c3 => exact rfl); (case c4 => exact rfl); k_whole; intro g' L' h' FG' F' N' B' X' T'; (try dsimp only); (try k_lift B'); (try k_fold))

  k_steps
  · unfold Stop
    refine' open_use_none ?ka ?kb ?kc ?kl ?km ?ho ?k1 ?k2 ?k3 ?k4 ?k5 ?kK ?kd ?ku ?_
    case ka => first | assumption | kba_ints2
    case kb => first | assumption | kba_ints2
    case kc => first | assumption | kba_ints2
    case kl => first | omega | kba_size
    case km => first | omega | kba_size
    case ho => exact spoil0' hss (bInts_in hhh) (by assumption) (by assumption) (by assumption)
    case k1 => k_asm
    case k2 => k_asm
    case k3 => k_asm
    case k4 => k_asm
    case k5 => k_asm
    case kK => first | exact rfl | assumption
    case kd => ktr_room
    case ku => ktr_units
    intro h9 tk9 F9 N9
    try dsimp only
    k_steps
    exact hret _ _ _ _ (by k_asm) (by k_asm) ⟨rfl, _, _, rfl, by assumption⟩
  · unfold Stop
    refine' open_use_none ?ka ?kb ?kc ?kl ?km ?ho ?k1 ?k2 ?k3 ?k4 ?k5 ?kK ?kd ?ku ?_
    case ka => first | assumption | kba_ints2
    case kb => first | assumption | kba_ints2
    case kc => first | assumption | kba_ints2
    case kl => first | omega | kba_size
    case km => first | omega | kba_size
    case ho => exact spoil1' hss (bInts_in hcu) (by assumption) (by assumption) (by assumption)
    case k1 => k_asm
    case k2 => k_asm
    case k3 => k_asm
    case k4 => k_asm
    case k5 => k_asm
    case kK => first | exact rfl | assumption
    case kd => ktr_room
    case ku => ktr_units
    intro h9 tk9 F9 N9
    try dsimp only
    k_steps
    exact hret _ _ _ _ (by k_asm) (by k_asm) ⟨rfl, _, _, rfl, by assumption⟩
  · unfold Stop
    refine' open_use_none ?ka ?kb ?kc ?kl ?km ?ho ?k1 ?k2 ?k3 ?k4 ?k5 ?kK ?kd ?ku ?_
    case ka => first | assumption | kba_ints2
    case kb => first | assumption | kba_ints2
    case kc => first | assumption | kba_ints2
    case kl => first | omega | kba_size
    case km => first | omega | kba_size
    case ho => exact spoil2' hss (bInts_in hkk) (by assumption) (by assumption) (by assumption)
    case k1 => k_asm
    case k2 => k_asm
    case k3 => k_asm
    case k4 => k_asm
    case k5 => k_asm
    case kK => first | exact rfl | assumption
    case kd => ktr_room
    case ku => ktr_units
    intro h9 tk9 F9 N9
    try dsimp only
    k_steps
    exact hret _ _ _ _ (by k_asm) (by k_asm) ⟨rfl, _, _, rfl, by assumption⟩
  · unfold Stop
    refine' open_use_none ?ka ?kb ?kc ?kl ?km ?ho ?k1 ?k2 ?k3 ?k4 ?k5 ?kK ?kd ?ku ?_
    case ka => first | assumption | kba_ints2
    case kb => first | assumption | kba_ints2
    case kc => first | assumption | kba_ints2
    case kl => first | omega | kba_size
    case km => first | omega | kba_size
    case ho => exact spoil3' hss (by assumption) (by assumption)
    case k1 => k_asm
    case k2 => k_asm
    case k3 => k_asm
    case k4 => k_asm
    case k5 => k_asm
    case kK => first | exact rfl | assumption
    case kd => ktr_room
    case ku => ktr_units
    intro h9 tk9 F9 N9
    try dsimp only
    k_steps
    exact hret _ _ _ _ (by k_asm) (by k_asm) ⟨rfl, _, _, rfl, by assumption⟩
  · unfold Stop
    refine' open_use_none ?ka ?kb ?kc ?kl ?km ?ho ?k1 ?k2 ?k3 ?k4 ?k5 ?kK ?kd ?ku ?_
    case ka => first | assumption | kba_ints2
    case kb => exact cut_init hhh
    case kc => exact KBw.ints_app (cut_last hhh) hcu
    case kl => rw [List.length_take]; omega
    case km => rw [List.length_append, List.length_drop]; omega
    case ho => exact spoil4' hss hh1 (by omega)
    case k1 => k_asm
    case k2 => k_asm
    case k3 => k_asm
    case k4 => k_asm
    case k5 => k_asm
    case kK => first | exact rfl | assumption
    case kd => ktr_room
    case ku => ktr_units
    intro h9 tk9 F9 N9
    try dsimp only
    k_steps
    exact hret _ _ _ _ (by k_asm) (by k_asm) ⟨rfl, _, _, rfl, by assumption⟩
  · unfold Stop
    refine' open_use_none ?ka ?kb ?kc ?kl ?km ?ho ?k1 ?k2 ?k3 ?k4 ?k5 ?kK ?kd ?ku ?_
    case ka => first | assumption | kba_ints2
    case kb => first | assumption | kba_ints2
    case kc => exact cut_to hcu (by assumption)
    case kl => first | omega | kba_size
    case km => rw [List.length_take]; omega
    case ho => exact spoil5 (by rw [List.length_take]; omega)
    case k1 => k_asm
    case k2 => k_asm
    case k3 => k_asm
    case k4 => k_asm
    case k5 => k_asm
    case kK => first | exact rfl | assumption
    case kd => ktr_room
    case ku => ktr_units
    intro h9 tk9 F9 N9
    try dsimp only
    k_steps
    exact hret _ _ _ _ (by k_asm) (by k_asm) ⟨rfl, _, _, rfl, by assumption⟩
end
end
section
open PySem PySem.W PySem.Spec PySem.Calls PyProof.Rows
open PySem.Sem (wp)
set_option Elab.async false
set_option maxRecDepth 100000
set_option linter.unusedVariables false
theorem clean_defC {prog : Program} {w : World} {A A₀ : Around} {s : Shared} {R : Result → Shared → Prop} {K : Frag} {L : Addr} {h₀ base : Heap} {m mg mb : PySem.Str → Option Value} {news : List (Addr × Obj)} {p : Program} {loose : List PySem.Str} {mean : ExcName → Option Value}
    {env : Env} {outer : List Env} {name qual : PySem.Str} {params : Arguments} {body : List Stmt} {scope : Scope} {dV kV doc pm cdv ct oc : Value} {an od : Option Addr} {osl : Array (Option Value)} {f : Addr} {args : Args} {binds : List (PySem.Str × Value)}
    (B : Below A₀ base outer h₀) (F : Fr h₀ L s.heap m) (X₀ : K.In h₀) (N : News h₀ L s.heap news) (T : Top p loose mean mg mb h₀) (hA : A.frames = some (env :: outer)) (hf : env.frame = some L) (hke : env.scope.kind = .function)
    (ho : K.lookup f = some ⟨oc, od, .func (fnOf name qual params body scope dV kV doc pm an cdv ct), osl⟩) (hcd : codeIn K cdv qual = true) (hroom : A.depth < recursionLimit)
    (hbind : BindsTo s (fnOf name qual params body scope dV kV doc pm an cdv ct) args binds) (hkind : (binds.all fun y => scope.names.lookup y.1 == some .local || scope.names.lookup y.1 == some .cell) = true)
    (hnd : ((cellsFrom 0 scope.names []).map (·.1)).Nodup)
    (h : ∀ g L' h₁ tk cells, Fr h₀ L g m → Fr g L' h₁ (bindL (envOfC qual scope L' f cdv).kindOf binds fun _ => none) → News g L' h₁ (cells ++ news) →
      CellsAre (bindC (envOfC qual scope L' f cdv).kindOf binds fun _ => none) (cellsFrom (L' + 1) scope.names []) cells → Below A base (env :: outer) g → K.In g → Top p loose mean mg mb g → (∀ p ∈ news, p.1 < L') →
      wpG (model prog w) (A.deeper (envOfC qual scope L' f cdv)) (execs body (envOfC qual scope L' f cdv))
        (fun fl s' => LeaveK h₀ L m g R (match fl with | .ret v => v | _ => .none) s') (fun _ _ => False)
        { s with heap := h₁, toks := tk })
    (hco : scope.isCoroutine = false) (hgen : scope.isGenerator = false) (hk : scope.kind = .function) : codeG (model prog w) A (.call (.ref f) args) R s := by
  obtain ⟨FG, BG, st, lv⟩ := groundX (R := R) B F N hA hf hke
  refine codeG_call_function hroom ((X₀.keeps F.keep) _ _ ho) rfl hco hgen rfl (codeRec_of (X₀.keeps F.keep) hcd) (hbind _ _ _ _ ?_)
  refine wpAny_newFunctionEnv_cells hk (kindsX hkind _) fun env' he s' x => ?_
  subst he
  refine ⟨(T.nolimit.keeps F.keep).keeps x.toInCall.keep, codeG_func ?_⟩
  obtain ⟨h₁, tk, rfl, _⟩ := x.done
  have hk₁ := x.toInCall.keep
  obtain ⟨cells, NC, Y⟩ := Cl.news (h₀ := s.heap) (Nat.le_refl _) fun n c hm => ⟨x.cell n c (lookup_of_mem_nodup (cellsFrom_names scope.names 0 (s.heap.objs.size + 1) [] [] rfl ▸ hnd) hm), x.above n c hm⟩
  refine g_mono (h _ s.heap.objs.size h₁ tk cells FG ⟨x.toInCall.ns, fun b o e => hk₁ b o (of_hideAll _ e), Nat.le_of_eq (hideAll_size _ _)⟩ (fun p hp => ?_) Y BG (X₀.keeps st) (T.keeps st) (fun p hp => Heap.lt_size (N p hp).1)) (fun fl s' hl => lv _ _ hl) fun _ _ y => y
  rcases List.mem_append.mp hp with hp | hp
  · refine ⟨(NC p hp).1, (NC p hp).2.1, ?_⟩
    cases q : (hideAll s.heap (news.map (·.1))).get? p.1 with
    | none => rfl
    | some o => have := of_hideAll _ q; rw [(NC p hp).2.2] at this; cases this
  · exact ⟨hk₁ _ _ (N p hp).1, Nat.ne_of_lt (Heap.lt_size (N p hp).1), hideAll_none _ (List.mem_map_of_mem hp)⟩
def tnL (ms os : List Int) : List Int := os.zipIdx.map fun p => Builtin.bitXor p.1 (ms.getD (1 + p.2) 0)
end
section
open PySem PySem.W PySem.Spec PySem.Calls PyProof.Rows
open PySem.Sem (wp)
set_option Elab.async false
set_option maxRecDepth 100000
set_option maxHeartbeats 2000000
set_option linter.unusedVariables false
abbrev btIter (b : Array UInt8) (t : Tok) : Obj := { cls := .type "bytes_iterator", data := .fields #[.bytes b t, .int 0 0] }
theorem meets_enumB (b : Array UInt8) (t : Tok) :
    Meets (Builtin.«enumerate.__new__» ⟨[.type "enumerate", .bytes b t], []⟩) (fun _ R s =>
      R (.ok (.ret (.ref (s.heap.push (btIter b t)).objs.size)))
        { s with heap := (s.heap.push (btIter b t)).push { cls := .type "enumerate", data := .fields #[.none, .bool false, .ref s.heap.objs.size, rawInt 0, .none, .none] } }) :=
  .of_wp fun prog w A R s h => by
    obtain ⟨hp, g, d, tk, os⟩ := s
    have hsub := sub_enumerate
    wp_walk
    refine wpAny_stack_any fun st => wpAny_pure ?_
    split
    · rename_i c _ _ _ _ _
      cases (c == Value.type "enumerate")
      · wp_walk using KBw.pyIter_bytes
        exact ⟨_, rfl, h⟩
      · wp_walk using KBw.pyIter_bytes
        exact ⟨_, rfl, h⟩
    · wp_walk using KBw.pyIter_bytes
      exact ⟨_, rfl, h⟩
section
variable {prog : Program} {w : World} {A : Around} {E : Value → Shared → Prop} {s : Shared}
theorem call_enumB {b : Array UInt8} {t : Tok} {Q : Value → Shared → Prop}
    (h : ∀ h', IsEnum h' (s.heap.objs.size + 1) s.heap.objs.size 0 .none → KBw.IsBytesIter h' s.heap.objs.size b t 0 → h'.objs.size = s.heap.objs.size + 2 →
      (∀ b o, s.heap.get? b = some o → h'.get? b = some o) → Q (.ref (s.heap.objs.size + 1)) { s with heap := h' }) :
    wpAny (model prog w) A (call (.type "enumerate") [.bytes b t]) Q E s := by
  refine callType_new F.called_enumerate (by decide) (F.typeCall_enumerate_1 _) (F.newCall_enumerate_1 _) (fun obj => F.args_object_init_2 obj _) F.entry_enumerate_new (meets_enumB b t) ?_
  have hz : (s.heap.push (btIter b t)).objs.size = s.heap.objs.size + 1 := Heap.size_push ..
  show _ ∧ _
  rw [hz]
  have he : IsEnum ((s.heap.push (btIter b t)).push { cls := .type "enumerate", data := .fields #[.none, .bool false, .ref s.heap.objs.size, rawInt 0, .none, .none] }) (s.heap.objs.size + 1) s.heap.objs.size 0 .none := by
    have := Heap.get?_push_size (s.heap.push (btIter b t)) (o := { cls := .type "enumerate", data := .fields #[.none, .bool false, .ref s.heap.objs.size, rawInt 0, .none, .none] }) rfl
    rw [hz] at this; exact this
  exact ⟨⟨_, he, rfl⟩, h _ he ⟨_, Heap.get?_push_of_some _ (Heap.get?_push_size _ rfl), rfl, rfl⟩ (by rw [Heap.size_push, hz]) fun b o y => Heap.get?_push_of_some _ (Heap.get?_push_of_some _ y)⟩
theorem nextOf_item {b : Array UInt8} {t : Tok} {it : Addr} {i : Nat} {c : UInt8} {Q : Value → Shared → Prop} (hit : KBw.IsBytesIter s.heap it b t i) (hx : b[i]? = some c)
    (hQ : ∀ h', KBw.IsBytesIter h' it b t (i + 1) → Heap.SameBut it s.heap h' → Q (.int (c.toNat : Int) s.toks) { s with heap := h', toks := s.toks + 1 }) : wpAny (model prog w) A (Builtin.SmallTypes.nextOf (.ref it)) Q E s := by
  obtain ⟨o, ho, hc, hd⟩ := id hit
  unfold Builtin.SmallTypes.nextOf
  refine wpAny_bind (wpAny_callSpecial?_slot (name := PySem.Str.ofString "__next__") (KBw.iter_typeIs hit) KBw.slot_next
    (wpAny_call_entry KBw.slot_next (KBw.iter_typeIs hit) KBw.entry_next ?_ (KBw.args_next _)))
  show wpAny _ _ (field (.ref it) 0 >>= _) _ _ s
  refine wpAny_bind (wpAny_field ho hd (x := .bytes b t) rfl ?_)
  show wpAny _ _ (if (Value.bytes b t == Value.none) = true then _ else _) _ _ s
  rw [if_neg (show ¬ ((Value.bytes b t == Value.none) = true) from Bool.false_ne_true)]
  show wpAny _ _ (field (.ref it) 1 >>= _) _ _ s
  refine wpAny_bind (wpAny_field ho hd (x := .int i 0) rfl ?_)
  refine wpAny_bind (wpAny_of_eq (a := b) rfl ?_)
  simp only [Int.toNat_natCast, hx]
  refine wpAny_bind (wpAny_setField ho hd (by simp) (wpAny_bind (wpAny_mkInt (wpAny_pure ⟨_, rfl, wpAny_pure (hQ _ ?_ (Heap.SameBut.update ..))⟩))))
  exact ⟨_, Heap.get?_update_self _ ho (Obj.isFreed_of_fields (Obj.data_mapFields hd _)), (Obj.cls_mapFields ..).trans hc, by
    rw [Obj.data_mapFields hd]; simp [rawInt]⟩
theorem nextOf_end {b : Array UInt8} {t : Tok} {it : Addr} {i : Nat} {Q : Value → Shared → Prop} (hh : A.handled = none) (hit : KBw.IsBytesIter s.heap it b t i) (hx : b[i]? = none)
    (hE : ∀ h' e, Heap.ExtBut it s.heap h' → (∃ o, h'.get? e = some o ∧ o.cls = .type "StopIteration") → E (.ref e) { s with heap := h' }) : wpAny (model prog w) A (Builtin.SmallTypes.nextOf (.ref it)) Q E s := by
  obtain ⟨o, ho, hc, hd⟩ := id hit
  unfold Builtin.SmallTypes.nextOf
  refine wpAny_bind (wpAny_callSpecial?_slot (name := PySem.Str.ofString "__next__") (KBw.iter_typeIs hit) KBw.slot_next
    (wpAny_call_entry KBw.slot_next (KBw.iter_typeIs hit) KBw.entry_next ?_ (KBw.args_next _)))
  show wpAny _ _ (field (.ref it) 0 >>= _) _ _ s
  refine wpAny_bind (wpAny_field ho hd (x := .bytes b t) rfl ?_)
  show wpAny _ _ (if (Value.bytes b t == Value.none) = true then _ else _) _ _ s
  rw [if_neg (show ¬ ((Value.bytes b t == Value.none) = true) from Bool.false_ne_true)]
  show wpAny _ _ (field (.ref it) 1 >>= _) _ _ s
  refine wpAny_bind (wpAny_field ho hd (x := .int i 0) rfl ?_)
  refine wpAny_bind (wpAny_of_eq (a := b) rfl ?_)
  simp only [Int.toNat_natCast, hx]
  refine wpAny_bind (wpAny_rule (wpAny_bind (wpAny_setField ho hd (by simp) ?_)))
  show wpAny _ _ (newExc (.type "StopIteration") [] >>= _) _ _ _
  refine wpAny_bind ?_
  simp only [newExc, newTuple]
  refine wpAny_bind (wpAny_newObj_type ?_ (by size_fits))
  refine wpAny_bind (m := firstArgMember _ _) (wpAny_of_eq (a := Value.none) (by first | rfl | (simp only [firstArgMember]; rfl)) ?_)
  refine wpAny_newObj_type ?_ (by size_fits)
  simp only [raiseNew]
  refine wpAny_bind (wpAny_handled ?_)
  first | rw [show A.in1.handled = none from hh] | rw [hh]
  refine wpAny_bind (wpAny_pure (wpAny_throw ?_))
  exact hE _ _ (((Heap.SameBut.update ..).extBut.push _).push _) ⟨_, Heap.get?_push_size _ rfl, rfl⟩
theorem bi_ext {h h' : Heap} {it a : Addr} {b : Array UInt8} {t : Tok} {i : Nat} (x : KBw.IsBytesIter h it b t i) (k : Heap.ExtBut a h h') (hne : it ≠ a) : KBw.IsBytesIter h' it b t i := by
  obtain ⟨o, ho, r⟩ := x
  exact ⟨o, k _ o hne ho, r⟩
theorem enumB_next {b : Array UInt8} {t : Tok} {e it : Addr} {i : Nat} {c : UInt8} {old : Value} {Q : Value → Shared → Prop}
    (he : IsEnum s.heap e it i old) (hit : KBw.IsBytesIter s.heap it b t i) (hx : b[i]? = some c) (hne : e ≠ it)
    (hQ : ∀ h' tk', IsEnumOut h' e it ((i : Int) + 1) (.int (c.toNat : Int) s.toks) s.heap.objs.size → KBw.IsBytesIter h' it b t (i + 1) →
      h'.get? s.heap.objs.size = some { cls := .type "tuple", data := .seq #[.int i (s.toks + 1), .int (c.toNat : Int) s.toks] } →
      (∀ b o, b ≠ e → b ≠ it → s.heap.get? b = some o → h'.get? b = some o) → Q (.ref s.heap.objs.size) { s with heap := h', toks := tk' }) :
    wpAny (model prog w) A (Builtin.«enumerate.__next__» ⟨[.ref e], []⟩) (fun fin s' => ∃ v, fin = .done (.ret v) ∧ Q v s') E s := by
  obtain ⟨hp, g, d, tk, os⟩ := s
  have hel : e < hp.objs.size := Heap.lt_size he
  show wpAny _ _ (field (.ref e) 2 >>= _) _ _ _
  refine wpAny_bind (wpAny_field he rfl (x := .ref it) rfl ?_)
  refine wpAny_bind (nextOf_item hit hx fun h₁ hit₁ hs₁ => ?_)
  replace hs₁ : Heap.SameBut it hp h₁ := hs₁
  have he₁ : IsEnum h₁ e it i old := (hs₁.2 e hne).trans he
  show wpAny _ _ (field (.ref e) 3 >>= _) _ _ ⟨h₁, g, d, tk + 1, os⟩
  refine wpAny_bind (wpAny_field he₁ rfl (x := rawInt i) rfl ?_)
  show wpAny _ _ (field (.ref e) 4 >>= _) _ _ ⟨h₁, g, d, tk + 1, os⟩
  refine wpAny_bind (wpAny_field he₁ rfl (x := .none) rfl ?_)
  show wpAny _ _ (mkInt i >>= _) _ _ ⟨h₁, g, d, tk + 1, os⟩
  refine wpAny_bind (wpAny_mkInt ?_)
  show wpAny _ _ (setField (.ref e) 3 (rawInt ((i : Int) + 1)) >>= _) _ _ ⟨h₁, g, d, tk + 1 + 1, os⟩
  refine wpAny_bind (wpAny_setField_rec he₁ (by simp) fun h₂ he₂ hs₂ => ?_)
  replace hs₂ : Heap.SameBut e h₁ h₂ := hs₂
  replace he₂ : IsEnum h₂ e it ((i : Int) + 1) old := he₂
  show wpAny _ _ (setField (.ref e) 4 .none >>= _) _ _ ⟨h₂, g, d, tk + 1 + 1, os⟩
  refine wpAny_bind (wpAny_setField_rec he₂ (by simp) fun h₃ he₃ hs₃ => ?_)
  replace hs₃ : Heap.SameBut e h₂ h₃ := hs₃
  replace he₃ : IsEnum h₃ e it ((i : Int) + 1) old := he₃
  show wpAny _ _ (newTuple [.int i (tk + 1), .int (c.toNat : Int) tk] >>= _) _ _ ⟨h₃, g, d, tk + 1 + 1, os⟩
  refine wpAny_bind (wpAny_newTuple ?_)
  have he₄ : IsEnum (h₃.push { cls := .type "tuple", data := .seq #[.int i (tk + 1), .int (c.toNat : Int) tk] }) e it ((i : Int) + 1) old := Heap.get?_push_of_some _ he₃
  generalize hh₄ : h₃.push { cls := .type "tuple", data := .seq #[.int i (tk + 1), .int (c.toNat : Int) tk] } = h₄ at he₄
  have hsz : h₃.objs.size = hp.objs.size := by rw [hs₃.1, hs₂.1, hs₁.1]
  have ht₄ : h₄.get? hp.objs.size = some { cls := .type "tuple", data := .seq #[.int i (tk + 1), .int (c.toNat : Int) tk] } := by rw [← hh₄, ← hsz]; exact Heap.get?_push_size _ rfl
  have hk₄ : ∀ b o, b ≠ e → b ≠ it → hp.get? b = some o → h₄.get? b = some o := fun b o hbe hbi hb => by
    rw [← hh₄]; exact Heap.get?_push_of_some _ (hs₃.extBut b o hbe (hs₂.extBut b o hbe (hs₁.extBut b o hbi hb)))
  have hit₄ : KBw.IsBytesIter h₄ it b t (i + 1) := by
    rw [← hh₄]; obtain ⟨o, ho, r⟩ := bi_ext (bi_ext hit₁ hs₂.extBut (Ne.symm hne)) hs₃.extBut (Ne.symm hne); exact ⟨o, Heap.get?_push_of_some _ ho, r⟩
  show wpAny _ _ (Builtin.SmallTypes.ownedTupleIsFree (.ref e) >>= _) _ _ ⟨h₄, g, d, tk + 1 + 1, os⟩
  rw [hsz]
  clear hh₄ he₃ hs₃ he₂ hs₂ he₁ hs₁ hit₁ hsz h₃ h₂ h₁
  refine wpAny_bind ?_
  unfold Builtin.SmallTypes.ownedTupleIsFree
  refine wpAny_bind (wpAny_field he₄ rfl (x := .none) rfl (wpAny_pure ?_))
  simp only [if_true]
  refine wpAny_bind (wpAny_rule ?_)
  refine wpAny_bind (wpAny_field he₄ rfl (x := old) rfl ?_)
  refine wpAny_bind (wpAny_setField_rec he₄ (by simp) fun h₅ he₅ hs₅ => ?_)
  replace hs₅ : Heap.SameBut e h₄ h₅ := hs₅
  replace he₅ : IsEnum h₅ e it ((i : Int) + 1) (.int (c.toNat : Int) tk) := he₅
  show wpAny _ _ (Builtin.SmallTypes.ownedTupleHandOut (.ref e) (.ref hp.objs.size) >>= _) _ _ ⟨h₅, g, d, tk + 1 + 1, os⟩
  refine wpAny_bind ?_
  unfold Builtin.SmallTypes.ownedTupleHandOut
  refine wpAny_bind (wpAny_setField_rec he₅ (by simp) fun h₆ he₆ hs₆ => ?_)
  replace hs₆ : Heap.SameBut e h₅ h₆ := hs₆
  replace he₆ : IsEnumOut h₆ e it ((i : Int) + 1) (.int (c.toNat : Int) tk) hp.objs.size := he₆
  refine wpAny_setField_rec he₆ (by simp) fun h₇ he₇ hs₇ => ?_
  replace hs₇ : Heap.SameBut e h₆ h₇ := hs₇
  replace he₇ : IsEnumOut h₇ e it ((i : Int) + 1) (.int (c.toNat : Int) tk) hp.objs.size := he₇
  refine wpAny_bind (wpAny_letGo (wpAny_pure ⟨_, rfl, hQ h₇ _ he₇ ?_ ?_ ?_⟩))
  · exact bi_ext (bi_ext (bi_ext hit₄ hs₅.extBut (Ne.symm hne)) hs₆.extBut (Ne.symm hne)) hs₇.extBut (Ne.symm hne)
  · exact hs₇.extBut _ _ (Nat.ne_of_gt hel) (hs₆.extBut _ _ (Nat.ne_of_gt hel) (hs₅.extBut _ _ (Nat.ne_of_gt hel) ht₄))
  · exact fun b o hbe hbi hb => hs₇.extBut b o hbe (hs₆.extBut b o hbe (hs₅.extBut b o hbe (hk₄ b o hbe hbi hb)))
theorem pyNext_enumB {b : Array UInt8} {t : Tok} {e it : Addr} {i : Nat} {c : UInt8} {old : Value} {Q : Option Value → Shared → Prop}
    (he : IsEnum s.heap e it i old) (hit : KBw.IsBytesIter s.heap it b t i) (hx : b[i]? = some c) (hne : e ≠ it)
    (hQ : ∀ h' tk', IsEnumOut h' e it ((i : Int) + 1) (.int (c.toNat : Int) s.toks) s.heap.objs.size → KBw.IsBytesIter h' it b t (i + 1) →
      h'.get? s.heap.objs.size = some { cls := .type "tuple", data := .seq #[.int i (s.toks + 1), .int (c.toNat : Int) s.toks] } →
      (∀ b o, b ≠ e → b ≠ it → s.heap.get? b = some o → h'.get? b = some o) → Q (some (.ref s.heap.objs.size)) { s with heap := h', toks := tk' }) :
    wpAny (model prog w) A (pyNext (.ref e)) Q E s := by
  have hT : s.TypeIs (.ref e) "enumerate" := ⟨_, he, rfl⟩
  unfold pyNext
  exact wpAny_bind (wpAny_attempt (wpAny_callSpecial?_slot (name := PySem.Str.ofString "__next__") hT F.slot_enumerate_next
    (wpAny_call_entry F.slot_enumerate_next hT F.entry_enumerate_next
      (enumB_next he hit hx hne fun h' tk' a b c k => wpAny_pure (hQ h' tk' a b c k)) (F.args_enumerate_next_1 _))))
theorem pyNext_enumB_end {b : Array UInt8} {t : Tok} {e it : Addr} {i : Nat} {old : Value} {Q : Option Value → Shared → Prop} (hh : A.handled = none)
    (he : IsEnum s.heap e it i old) (hit : KBw.IsBytesIter s.heap it b t i) (hx : b[i]? = none)
    (hQ : ∀ h', Heap.ExtBut it s.heap h' → Q none { s with heap := h' }) : wpAny (model prog w) A (pyNext (.ref e)) Q E s := by
  have hT : s.TypeIs (.ref e) "enumerate" := ⟨_, he, rfl⟩
  unfold pyNext
  refine wpAny_bind (wpAny_attempt (wpAny_callSpecial?_slot (name := PySem.Str.ofString "__next__") hT F.slot_enumerate_next
    (wpAny_call_entry F.slot_enumerate_next hT F.entry_enumerate_next ?_ (F.args_enumerate_next_1 _))))
  show wpAny _ _ (field (.ref e) 2 >>= _) _ _ _
  refine wpAny_bind (wpAny_field he rfl (x := .ref it) rfl ?_)
  refine wpAny_bind (nextOf_end hh hit hx fun h' x he' hx' => ?_)
  obtain ⟨o, ho, hc⟩ := hx'
  refine wpAny_bind (wpAny_isInstance (T := "StopIteration") (b := true) ⟨o, ho, hc⟩ isSubtype_stop ?_)
  exact wpAny_pure (hQ _ he')
end
end
section
open PySem PySem.W PySem.Spec PySem.Calls PyProof.Rows
open PySem.Sem (wp)
open PyProof.Rows.LCg
set_option Elab.async false
set_option maxRecDepth 100000
set_option maxHeartbeats 2000000
set_option linter.unusedVariables false
def EnumEl (prog : Program) (w : World) (A : Around) (h₀ : Heap) (L : Addr) (m : PySem.Str → Option Value) (news : Led) (env : Env) (elt : Expr) (xa xb : PySem.Str) (scope : Scope) (cl : List (PySem.Str × Addr)) (b : Array UInt8) (G : Nat → UInt8 → Int) (s : Shared) : Prop :=
  ∀ (i : Nat) (c : UInt8) (ti tc : Tok) (C : Addr) (m₂ : PySem.Str → Option Value) (h : Heap) (tk : Nat) (E' : Value → Shared → Prop) (oC : Obj), b[i]? = some c → NsObj oC m₂ → m₂ xa = some (.int (i : Int) ti) → m₂ xb = some (.int (c.toNat : Int) tc) → Fr h₀ L h m → News h₀ L h ((C, oC) :: news) →
    wpAny (model prog w) A (eval elt (compEnvC scope cl C env)) (fun y s' => ∃ tk' ty, s' = { s with heap := h, toks := tk' } ∧ y = .int (G i c) ty) E' { s with heap := h, toks := tk }
def gList (G : Nat → UInt8 → Int) (b : Array UInt8) (n : Nat) : List Int := (List.range n).map fun j => G j (b.getD j 0)
theorem gList_succ (G : Nat → UInt8 → Int) (b : Array UInt8) (n : Nat) : gList G b (n + 1) = gList G b n ++ [G n (b.getD n 0)] := by
  unfold gList; rw [List.range_succ, List.map_append]; rfl
section
variable {prog : Program} {w : World} {A : Around} {E : Value → Shared → Prop} {s : Shared} {h₀ : Heap} {L : Addr} {m : PySem.Str → Option Value} {env : Env}
def EnumSrc (prog : Program) (w : World) (A : Around) (h₀ : Heap) (L : Addr) (m : PySem.Str → Option Value) (env : Env) (elt : Expr) (xa xb : PySem.Str) (scope : Scope) (cl : List (PySem.Str × Addr)) (Q : Value → Shared → Prop) (xv : Value) (s₁ : Shared) : Prop :=
  ∃ (e it : Addr) (old : Value) (b : Array UInt8) (t : Tok) (news : Led) (G : Nat → UInt8 → Int), xv = .ref e ∧ e ≠ it ∧ A.handled = none ∧ b.size ≤ 1000 ∧ IsEnum s₁.heap e it ((0 : Nat) : Int) old ∧ KBw.IsBytesIter s₁.heap it b t 0 ∧ Fr h₀ L s₁.heap m ∧ News h₀ L s₁.heap news ∧ h₀.get? e = none ∧ h₀.get? it = none ∧ L ≠ e ∧ L ≠ it ∧
    (∀ p ∈ news, p.1 ≠ e ∧ p.1 ≠ it) ∧ EnumEl prog w A h₀ L m news env elt xa xb scope cl b G s₁ ∧
    ∀ D ys h tk, Fr h₀ L h m → News h₀ L h ((D, lst ys) :: news) → IntsAre ys (gList G b b.size) → Q (.ref D) { s₁ with heap := h, toks := tk }
theorem ListComp_enum {elt iter : Expr} {xa xb : PySem.Str} {pa pb tp : Pos} {kk : Nat} {scope : Scope} {cl : List (PySem.Str × Addr)} {pos : Pos} {Q : Value → Shared → Prop}
    (hclos : closureFor scope env = pure cl) (hcell : ∀ y ∈ scope.names, y.2 ≠ .cell) (hkind : scope.kind = .function)
    (hnames : ∀ y ∈ scope.names, y.2 = .local → scope.names.lookup y.1 = some .local) (hxa : scope.names.lookup xa = some .local) (hxb : scope.names.lookup xb = some .local) (hab : ¬ xa = xb)
    (h : wpAny (model prog w) A (eval iter env) (EnumSrc prog w A h₀ L m env elt xa xb scope cl Q) E s)
    (hs : ∀ x, foldedSetIterable iter env x = pure x := by intro _; rfl) :
    wpAny (model prog w) A (eval (.ListComp elt [⟨.Tuple [.Name xa pa, .Name xb pb] kk tp, iter, [], 0⟩] scope pos) env) Q E s := by
  rw [eval_ListComp]
  refine wpAny_comprehension_free (use := none) rfl hs hclos hkind hnames (wpAny_mono h (fun xv s₂ h₁ => ?_) fun _ _ e => e)
  obtain ⟨e, it, old, b, t, news, G, rfl, hne, hh, hsz, he, hit, F, N, he₀, hi₀, hLe, hLi, hoff, hel, hfin⟩ := h₁
  refine wpAny_pyIter_enum he ?_
  refine wpAny_newObj_type (wpAny_newFunctionEnv hcell (by intro y hy; simp at hy) (fun h₁ hns₁ hsb₁ => ?_) hkind)
  dsimp only at hns₁ hsb₁ ⊢
  generalize hH2 : s₂.heap.push { cls := .type "list", dict := none, data := .seq ([] : List Value).toArray } = H2 at hns₁ hsb₁ ⊢
  have hC : H2.objs.size = s₂.heap.objs.size + 1 := by rw [← hH2, Heap.size_push]
  have hDC : s₂.heap.objs.size ≠ H2.objs.size := by rw [hC]; exact Nat.ne_of_lt (Nat.lt_succ_self _)
  have below : ∀ a, a < s₂.heap.objs.size → a ≠ H2.objs.size ∧ a ≠ s₂.heap.objs.size := fun a ha => ⟨by rw [hC]; exact Nat.ne_of_lt (Nat.lt_succ_of_lt ha), Nat.ne_of_lt ha⟩
  have old₁ : ∀ a o, s₂.heap.get? a = some o → h₁.get? a = some o := fun a o x => hsb₁.extBut a o (below a (Heap.lt_size x)).1 (Heap.get?_push_of_some _ (hH2 ▸ Heap.get?_push_of_some _ x))
  have hacc : h₁.get? s₂.heap.objs.size = some (lst []) := hsb₁.extBut _ _ hDC (Heap.get?_push_of_some _ (hH2 ▸ Heap.get?_push_size _ rfl))
  have fresh₀ : ∀ a, s₂.heap.objs.size ≤ a → h₀.get? a = none := fun a ha => by
    cases x : h₀.get? a with
    | none => rfl
    | some o' => exact absurd (Heap.lt_size (F.keep a o' x)) (Nat.not_lt.mpr ha)
  have hD₀ : h₀.get? s₂.heap.objs.size = none := fresh₀ _ (Nat.le_refl _)
  have hC₀ : h₀.get? H2.objs.size = none := fresh₀ _ (by rw [hC]; exact Nat.le_succ _)
  have hLlt : L < s₂.heap.objs.size := F.ns.lt
  have hDL : s₂.heap.objs.size ≠ L := Ne.symm (below L hLlt).2
  have hCL : H2.objs.size ≠ L := Ne.symm (below L hLlt).1
  have helt : e < s₂.heap.objs.size := Heap.lt_size he
  have hilt : it < s₂.heap.objs.size := by obtain ⟨_, x, _⟩ := hit; exact Heap.lt_size x
  have hCe := (below e helt).1
  have hDe := (below e helt).2
  have hCi := (below it hilt).1
  have hDi := (below it hilt).2
  have hnewsC : ∀ p ∈ news, p.1 ≠ H2.objs.size ∧ p.1 ≠ s₂.heap.objs.size := fun p hp => below _ (Heap.lt_size (N p hp).1)
  refine' codeAny_compStart_list ?hl (wpAny_pyIter_enum (old₁ _ _ he) ?hl)
  case hl =>
    refine kcp_loop
      (fun k s' => ∃ h' tk i ys m', s' = { s₂ with heap := h', toks := tk } ∧ i ≤ b.size ∧ k = b.size + 1 - i ∧ ys.length = i ∧ (∃ old, IsEnum h' e it ((i : Nat) : Int) old) ∧ KBw.IsBytesIter h' it b t i ∧ Fr h₀ L h' m ∧ h'.Ns H2.objs.size m' ∧
        News h₀ L h' ((s₂.heap.objs.size, lst ys) :: news) ∧ IntsAre ys (gList G b i)) ?_ (b.size + 1)
      ⟨h₁, _, 0, [], _, rfl, Nat.zero_le _, rfl, rfl, ⟨_, old₁ _ _ he⟩, ?_, F.keeps old₁, hns₁, fun p hp => ?_, .nil⟩
    · rintro k s' ⟨h', tk, i, ys, m', rfl, hi, rfl, hyl, ⟨old', he'⟩, hit', F', hn', N', hI⟩
      by_cases hlt : i < b.size
      · have hx : b[i]? = some b[i] := Array.getElem?_eq_getElem hlt
        have hg : b.getD i 0 = b[i] := by simp [Array.getD, hlt]
        generalize b[i] = c at hx hg
        refine pyNext_enumB he' hit' hx hne fun h₂ tk₂ ho hit₂ hT hk₂ => ?_
        refine wpAny_letOwnedTupleGo_enum ho fun h₃ he₃ hs₃ => ?_
        have hTe : h'.objs.size ≠ e := Nat.ne_of_gt (Heap.lt_size he')
        have hT₃ : h₃.IsTuple h'.objs.size #[.int (i : Int) (tk + 1), .int (c.toNat : Int) tk] := ⟨_, hs₃.extBut _ _ hTe hT, rfl, _, rfl⟩
        have up₃ : ∀ a o, a ≠ e → a ≠ it → h'.get? a = some o → h₃.get? a = some o := fun a o h1 h2 x => hs₃.extBut a o h1 (hk₂ a o h1 h2 x)
        refine kcp_assign (env := compEnvC scope cl H2.objs.size env) hh hT₃ (lookup_relabel_local hxa) (lookup_relabel_local hxb) (by simp [compEnvC, relabel, hkind]) (hn'.at' fun o x => up₃ _ o (Ne.symm hCe) (Ne.symm hCi) x) fun h₄ tk₄ hn₄ hs₄ => ?_
        have up : ∀ a o, a ≠ e → a ≠ it → a ≠ H2.objs.size → h'.get? a = some o → h₄.get? a = some o := fun a o h1 h2 h3 x => hs₄ a o h3 (up₃ a o h1 h2 x)
        have he₄ : IsEnum h₄ e it ((i : Int) + 1) _ := hs₄ e _ hCe he₃
        have hit₄ : KBw.IsBytesIter h₄ it b t (i + 1) := by
          obtain ⟨o, x, r⟩ := hit₂
          exact ⟨o, hs₄ it o hCi (hs₃.extBut it o (Ne.symm hne) x), r⟩
        have F₄ : Fr h₀ L h₄ m := ⟨F'.ns.at' fun o x => up _ o hLe hLi (Ne.symm hCL) x, fun a o x => up a o (fun q => by rw [q, he₀] at x; cases x) (fun q => by rw [q, hi₀] at x; cases x) (fun q => by rw [q, hC₀] at x; cases x) (F'.keep a o x), F'.above⟩
        have N₄ : News h₀ L h₄ ((s₂.heap.objs.size, lst ys) :: news) := fun p hp => by
          have z := N' p hp
          refine ⟨up _ _ ?_ ?_ ?_ z.1, z.2⟩
          · rcases List.mem_cons.mp hp with rfl | hp
            · exact Ne.symm hDe
            · exact (hoff p hp).1
          · rcases List.mem_cons.mp hp with rfl | hp
            · exact Ne.symm hDi
            · exact (hoff p hp).2
          · rcases List.mem_cons.mp hp with rfl | hp
            · exact hDC
            · exact (hnewsC p hp).1
        obtain ⟨oC, heC, hoC⟩ := ns_obj hn₄
        have N₅ : News h₀ L h₄ ((H2.objs.size, oC) :: news) := fun p hp => by
          rcases List.mem_cons.mp hp with rfl | hp
          · exact ⟨heC, hCL, hC₀⟩
          · exact N₄ p (.tail _ hp)
        refine wpAny_mono (hel i c (tk + 1) tk H2.objs.size _ h₄ tk₄ _ oC hx hoC (by simp [hab]) (by simp) F₄ N₅) (fun y s₅ h₅ => ?_) fun _ _ x => x
        obtain ⟨tk₅, ty, rfl, rfl⟩ := h₅
        refine append_at (hsz := by show ys.toArray.size ≤ sizeLine; rw [List.size_toArray, hyl, show sizeLine = 16777216 by decide]; omega) (N₄ _ (.head _)).1 fun h₆ hs₆ hD₆ => ?_
        refine ⟨b.size + 1 - (i + 1), by omega, h₆, tk₅, i + 1, ys ++ [.int (G i c) ty], _, rfl, hlt, rfl, by rw [List.length_append, hyl]; rfl, ⟨_, hs₆.extBut e _ hDe he₄⟩, ?_, F₄.change hs₆ hDL hD₀, hn₄.sameBut hs₆ (Ne.symm hDC), fun p hp => ?_, ?_⟩
        · obtain ⟨o, x, r⟩ := hit₄
          exact ⟨o, hs₆.extBut it o hDi x, r⟩
        · rcases List.mem_cons.mp hp with rfl | hp
          · exact ⟨hD₆.trans (congrArg some (lst_snoc ys _)), hDL, hD₀⟩
          · exact ⟨hs₆.extBut _ _ (hnewsC p hp).2 (N₄ p (.tail _ hp)).1, (N₄ p (.tail _ hp)).2⟩
        · rw [gList_succ, hg]
          exact hI.append (.cons _ _ .nil)
      · obtain rfl : i = b.size := Nat.le_antisymm hi (Nat.not_lt.mp hlt)
        refine pyNext_enumB_end hh he' hit' (Array.getElem?_eq_none (Nat.le_refl _)) fun h₂ hk₂ => ?_
        have N₂ : News h₀ L h₂ ((s₂.heap.objs.size, lst ys) :: news) := fun p hp => by
          have z := N' p hp
          refine ⟨hk₂ _ _ ?_ z.1, z.2⟩
          rcases List.mem_cons.mp hp with rfl | hp
          · exact Ne.symm hDi
          · exact (hoff p hp).2
        have F₂ : Fr h₀ L h₂ m := ⟨F'.ns.at' fun o x => hk₂ _ o hLi x, fun a o x => hk₂ a o (fun q => by rw [q, hi₀] at x; cases x) (F'.keep a o x), F'.above⟩
        refine ⟨m', hn'.at' fun o x => hk₂ _ o (Ne.symm hCi) x, fun h'' hs'' => hfin _ ys h'' tk (F₂.change hs'' hCL hC₀) (fun p hp => ?_) hI⟩
        refine ⟨hs''.extBut _ _ ?_ (N₂ p hp).1, (N₂ p hp).2⟩
        rcases List.mem_cons.mp hp with rfl | hp
        · exact hDC
        · exact (hnewsC p hp).1
    · obtain ⟨o, x, r⟩ := hit
      exact ⟨o, old₁ _ _ x, r⟩
    · rcases List.mem_cons.mp hp with rfl | hp
      · exact ⟨hacc, hDL, hD₀⟩
      · exact ⟨old₁ _ _ (N p hp).1, (N p hp).2⟩
end
end
section
open PySem PySem.W PySem.Spec PySem.Calls PyProof.Rows
open PySem.Sem (wp)
open PyProof.V
set_option Elab.async false
set_option maxRecDepth 100000
set_option maxHeartbeats 8000000
set_option linter.unusedVariables false


theorem tnL_length (ms os : List Int) : (tnL ms os).length = os.length := by simp [tnL]
theorem glist_tn {o : Array UInt8} {os ms : List Int} (hos : KBw.bInts o = os) : gList (fun i c => Builtin.bitXor (c.toNat : Int) (ms.getD (Int.toNat (1 + (i : Int))) 0)) o o.size = tnL ms os := by
  subst hos
  apply List.ext_getElem
  · rw [tnL_length, KBw.ints_length]; simp [gList]
  · intro i h1 h2
    have hi : i < o.size := by simpa [gList] using h1
    have e : Int.toNat (1 + (i : Int)) = 1 + i := by omega
    simp [gList, tnL, KBw.bInts, Array.getD, hi, e]
theorem tnL_in {ms os : List Int} (hm : KBa.In ms) (ho : KBa.In os) : KBa.In (tnL ms os) := by
  intro n hn
  unfold tnL at hn
  obtain ⟨p, hp, rfl⟩ := List.mem_map.mp hn
  refine xor_byte (ho _ (List.fst_mem_of_mem_zipIdx hp)) ?_
  rw [List.getD_eq_getElem?_getD]
  cases e : ms[1 + p.2]? with
  | none => simp
  | some v => exact hm _ (List.mem_of_getElem? e)
theorem fresh_of {h₀ h : Heap} {L a : Addr} {m : PySem.Str → Option Value} (F : Fr h₀ L h m) (ha : h.objs.size ≤ a) : h₀.get? a = none := by
  cases x : h₀.get? a with
  | none => rfl
  | some o' => exact absurd (Heap.lt_size (F.keep a o' x)) (Nat.not_lt.mpr ha)
def CTn (w : World) : Prop := ∀ (o : Array UInt8) (to : Tok) (mk : Array UInt8) (tm : Tok) (os ms : List Int) (news : Led), KBw.bInts o = os → KBw.bInts mk = ms → ms.length = 5 → 1 ≤ os.length → os.length ≤ 4 →
  Ctr 4 w 95 [.bytes o to, .bytes mk tm] news (fun v nw => nw = news ∧ ∃ b t, v = .bytes b t ∧ KBw.bInts b = tnL ms os)
section
local macro_rules | `(tactic| walk_at "eval ListComp") => `(tactic| refine stop_mk ?_)
local macro_rules | `(tactic| walk_at "call type:enumerate") => `(tactic| refine stop_mk ?_)
local macro_rules | `(tactic| walk_at "call type:bytes") => `(tactic| refine stop_mk ?_)
theorem c_tn (w : World) : CTn w := by
  unfold CTn Ctr
  k_fill
  intro o to mk tm os ms news hos hms hl h0 h1 mean mg mb dp un gd cn cs a ccd cl outer A₀ base h₀ L m s Q E B F X N T hk hdp hun hret
  refine wpAny_call ?_
  k_dflt (refine' code_defC ?k1 ?k2 ?k3 ?k4 ?k5 ?kA ?kF ?kK ?k6 ?k7 ?k8 ?k9 ?kB ?kD ?_ ?c2 ?c3 ?c4; (case kA => exact rfl); (case kF => exact rfl); (case kK => assumption); (case k1 => k_asm); (case k2 => k_asm); (case k3 => k_asm); (case k4 => k_asm); (case k5 => k_asm); (case k6 => k_is); (case k7 => k_is); (case k8 => ktr_room); (case k9 => exact BindsTo.of_eq rfl); (case kB => exact rfl); (case kD => decide +kernel); (case c2 => exact rfl); (case c3 => exact rfl); (case c4 => exact rfl); k_whole; intro g' L' h' tk' cells' FG' F' N' Y' B' X' T' l1; (try k_lt l1); k_cells Y'; (try simp only [List.cons_append, List.nil_append] at N'); (try dsimp only); (try k_lift B'); (try k_fold))
  k_steps
  unfold Stop
  rename Fr _ _ _ _ => lF
  rename News _ _ _ _ => lN
  obtain ⟨m0, hm0, lF⟩ := fr_name lF
  refine' ListComp_enum (h₀ := g') (L := L') (m := m0) ?e1 ?e2 ?e3 ?e4 ?e5 ?e6 ?e7 ?_
  case e1 => with_unfolding_all rfl
  case e2 => decide
  case e3 => rfl
  case e4 => decide
  case e5 => rfl
  case e6 => rfl
  case e7 => decide
  subst hm0
  k_steps
  unfold Stop
  have hsz : o.size = os.length := by rw [← hos, KBw.ints_length]
  refine call_enumB fun h5 he5 hi5 hz5 hk5 => ?_
  dsimp only
  refine ⟨_, _, .none, o, to, (L' + 1, _) :: news, fun i c => Builtin.bitXor (c.toNat : Int) (ms.getD (Int.toNat (1 + (i : Int))) 0), rfl, Nat.succ_ne_self _, rfl, by omega, he5, hi5, lF.keeps hk5, lN.grown hk5,
    fresh_of lF (Nat.le_succ _), fresh_of lF (Nat.le_refl _), Nat.ne_of_lt (Nat.lt_succ_of_lt lF.ns.lt), Nat.ne_of_lt lF.ns.lt, ?_, ?_, ?_⟩
  · intro p hp
    have := Heap.lt_size (lN p hp).1
    exact ⟨Nat.ne_of_lt (Nat.lt_succ_of_lt this), Nat.ne_of_lt this⟩
  · intro i c ti tc C m₂ h6 tk6 E' oC hb hO ha hbx F6 N6
    have hi : i < o.size := (Array.getElem?_eq_some_iff.mp hb).1
    have hi4 : (i : Int) < 4 := by omega
    clear lF lN he5 hi5 hz5 hk5
    k_steps
  · intro Dl ys h6 tk6 F6 N6 hI
    rw [glist_tn hos] at hI
    clear lF lN he5 hi5 hz5 hk5
    k_steps
    unfold Stop
    refine' bytes_ints_K ?r1 ?r2 hI (tnL_in (bInts_in hms) (bInts_in hos)) ?r3 ?r4 ?_
    case r1 => k_asm
    case r2 => k_asm
    case r3 => rw [tnL_length]; omega
    case r4 => rfl
    intro b9 h9 t9 k9 hb9 F9 N9
    dsimp only
    k_steps
    exact hret _ _ _ _ (by k_asm) (KStb.news_of (by k_asm) fun p hp => .tail _ hp) ⟨rfl, _, _, rfl, hb9⟩
end
end
section
open PySem PySem.W PySem.Spec PySem.Calls PyProof.Rows
open PySem.Sem (wp)
open PyProof.V
set_option Elab.async false
set_option maxRecDepth 100000
set_option linter.unusedVariables false
theorem nat_keep (n F m : Nat) : (F ^^^ m % 2 ^ n) / 2 ^ n = F / 2 ^ n ∧ (F ^^^ m % 2 ^ n) % 2 ^ n = (F ^^^ m) % 2 ^ n ∧ (F ^^^ m % 2 ^ n) ^^^ m % 2 ^ n = F := by
  have hP : 0 < 2 ^ n := Nat.two_pow_pos n
  refine ⟨?_, ?_, ?_⟩
  · rw [Nat.xor_div_two_pow, Nat.div_eq_of_lt (Nat.mod_lt _ hP), Nat.xor_zero]
  · rw [Nat.xor_mod_two_pow, Nat.xor_mod_two_pow, Nat.mod_mod]
  · rw [Nat.xor_assoc, Nat.xor_self, Nat.xor_zero]
theorem tfirst_nat (F m : Nat) : tfirst (F : Int) (m : Int) = ((F ^^^ m % 2 ^ (if 128 ≤ F then 4 else 5) : Nat) : Int) := by
  unfold tfirst
  by_cases h : 128 ≤ F
  · rw [if_pos (by omega), if_pos h, bitAnd_m4, show (m : Int) % 16 = ((m % 2 ^ 4 : Nat) : Int) by omega, bitXor_nat]
  · rw [if_neg (by omega), if_neg h, bitAnd_m5, show (m : Int) % 32 = ((m % 2 ^ 5 : Nat) : Int) by omega, bitXor_nat]
theorem first_facts {f m0 : Int} (hf : 0 ≤ f ∧ f < 256) (hm : 0 ≤ m0 ∧ m0 < 256) :
    tfirst (tfirst f m0) m0 = f ∧ (128 ≤ f → (tfirst f m0).fdiv (15 + 1) = f.fdiv (15 + 1) ∧ (tfirst f m0).fmod (15 + 1) = (Builtin.bitXor f m0).fmod (15 + 1)) ∧
      (¬ 128 ≤ f → (tfirst f m0).fdiv (31 + 1) = f.fdiv (31 + 1) ∧ (tfirst f m0).fmod (31 + 1) = (Builtin.bitXor f m0).fmod (31 + 1)) := by
  obtain ⟨F, rfl⟩ := Int.eq_ofNat_of_zero_le hf.1
  obtain ⟨m, rfl⟩ := Int.eq_ofNat_of_zero_le hm.1
  have hF : F < 256 := by omega
  rw [tfirst_nat, tfirst_nat, bitXor_nat]
  by_cases h : 128 ≤ F
  · obtain ⟨k1, k2, k3⟩ := nat_keep 4 F m
    rw [if_pos h]
    have hge : 128 ≤ F ^^^ m % 2 ^ 4 := by omega
    rw [if_pos hge, k3]
    refine ⟨rfl, fun _ => ⟨?_, ?_⟩, fun hn => absurd (by omega) hn⟩
    · rw [Int.fdiv_eq_ediv_of_nonneg _ (by decide), Int.fdiv_eq_ediv_of_nonneg _ (by decide)]
      show ((_ : Nat) : Int) / 16 = (F : Int) / 16
      omega
    · rw [Int.fmod_eq_emod_of_nonneg _ (by decide), Int.fmod_eq_emod_of_nonneg _ (by decide)]
      show ((_ : Nat) : Int) % 16 = ((_ : Nat) : Int) % 16
      omega
  · obtain ⟨k1, k2, k3⟩ := nat_keep 5 F m
    rw [if_neg h]
    have hge : ¬ 128 ≤ F ^^^ m % 2 ^ 5 := by omega
    rw [if_neg hge, k3]
    refine ⟨rfl, fun hn => absurd hn (by omega), fun _ => ⟨?_, ?_⟩⟩
    · rw [Int.fdiv_eq_ediv_of_nonneg _ (by decide), Int.fdiv_eq_ediv_of_nonneg _ (by decide)]
      show ((_ : Nat) : Int) / 32 = (F : Int) / 32
      omega
    · rw [Int.fmod_eq_emod_of_nonneg _ (by decide), Int.fmod_eq_emod_of_nonneg _ (by decide)]
      show ((_ : Nat) : Int) % 32 = ((_ : Nat) : Int) % 32
      omega
theorem tn_tn {ms os : List Int} (hm : KBa.In ms) (ho : KBa.In os) : tnL ms (tnL ms os) = os := by
  apply List.ext_getElem (by rw [tnL_length, tnL_length])
  intro i h1 h2
  have hk := ho _ (List.getElem_mem h2)
  have hb : 0 ≤ ms.getD (1 + i) 0 := by
    rw [List.getD_eq_getElem?_getD]
    cases e : ms[1 + i]? with
    | none => simp
    | some v => exact (hm _ (List.mem_of_getElem? e)).1
  simp only [tnL, List.getElem_map, List.getElem_zipIdx, Nat.zero_add]
  exact xor_xor hk.1 hb
theorem getD_in {ks : List Int} (h : KBa.In ks) (i : Nat) : 0 ≤ ks.getD i 0 ∧ ks.getD i 0 < 256 := by
  rw [List.getD_eq_getElem?_getD]
  cases e : ks[i]? with
  | none => simp
  | some v => exact h _ (List.mem_of_getElem? e)
end
section
open PySem PySem.W PySem.Spec PySem.Calls PyProof.Rows
open PySem.Sem (wp)
open PyProof.V
set_option Elab.async false
set_option maxRecDepth 100000
set_option maxHeartbeats 40000000
set_option linter.unusedVariables false



theorem maskL_len {b : Array UInt8} {kk ss : List Int} (_h : KBw.bInts b = maskL kk ss) : (maskL kk ss).length = 5 := maskL_length kk ss
theorem off1_get {Dl D R K : Addr} {oD oR oK : Obj} {r : Led} (h : LCg.Off1 Dl ((D, oD) :: (R, oR) :: (K, oK) :: r)) : (@Ne Nat D Dl) ∧ (@Ne Nat R Dl) ∧ (@Ne Nat K Dl) := ⟨h.1, h.2.1, h.2.2.1⟩
theorem perm3 {h₀ h : Heap} {L : Addr} {K D R : Addr × Obj} {r : Led} (N : News h₀ L h (K :: D :: R :: r)) : News h₀ L h (D :: R :: K :: r) := fun p hp => N p (by
  simp only [List.mem_cons] at hp ⊢
  rcases hp with h | h | h | h <;> simp [h])
theorem mask_use {news : Led} {key : Array UInt8} {tk : Tok} {sm : Array UInt8} {ts : Tok} {kk ss : List Int} {w : World} {mean : ExcName → Option Value} {mg mb : PySem.Str → Option Value} {dp un : Nat} {gd : Option (List Code)} {cn : PySem.Str} {cs : Scope} {a : Addr} {ccd : Value} {cl : List (PySem.Str × Addr)} {outer : List Env} {A₀ : Around} {base h₀ : Heap} {L : Addr} {m : PySem.Str → Option Value} {s : Shared} {Q E : Value → Shared → Prop}
    (hkk : KBw.bInts key = kk) (hss : KBw.bInts sm = ss) (B : Below A₀ base outer h₀) (F : Fr h₀ L s.heap m) (X : (hd.heap_39 w.params).In h₀) (N : News h₀ L s.heap news) (T : Top hd.view_39 (looseW hd.view_39 [Str.ofString "MODULUS"]) mean mg mb h₀) (hk : cs.kind = .function) (hdp : dp + 3 < recursionLimit) (hu : un + 8 * 3 < cLine)
    (ret : ∀ (b : Array UInt8) (t : Tok) (h' : Heap) (tk' : Nat) (ms : List Int), KBw.bInts b = ms → ms.length = 5 → KBa.In ms → Fr h₀ L h' m → News h₀ L h' news → Q (.bytes b t) { s with heap := h', toks := tk' }) :
    wpG (model PySem.Challenge.rw_no0055_01.row.prog w) (ktrTop dp un gd cn cs L a ccd cl outer) (call (.ref 83) [.bytes key tk, .bytes sm ts]) Q E s :=
  (c_mask w key tk sm ts kk ss news hkk hss).use B F X N T hk hdp hu fun v nw h' tk' F' N' p => by
    obtain ⟨rfl, b, t, rfl, hb⟩ := p
    exact ret b t h' tk' _ rfl (by rw [hb, maskL_length]) (bInts_in rfl) F' N'
theorem first_useH {news : Led} {f : Int} {tf : Tok} {mk : Array UInt8} {tm : Tok} {ms : List Int} {w : World} {mean : ExcName → Option Value} {mg mb : PySem.Str → Option Value} {dp un : Nat} {gd : Option (List Code)} {cn : PySem.Str} {cs : Scope} {a : Addr} {ccd : Value} {cl : List (PySem.Str × Addr)} {outer : List Env} {A₀ : Around} {base h₀ : Heap} {L : Addr} {m : PySem.Str → Option Value} {s : Shared} {Q E : Value → Shared → Prop}
    (hms : KBw.bInts mk = ms) (hl : ms.length = 5) (hf : 128 ≤ f ∧ f < 256) (B : Below A₀ base outer h₀) (F : Fr h₀ L s.heap m) (X : (hd.heap_39 w.params).In h₀) (N : News h₀ L s.heap news) (T : Top hd.view_39 (looseW hd.view_39 [Str.ofString "MODULUS"]) mean mg mb h₀) (hk : cs.kind = .function) (hdp : dp + 1 < recursionLimit) (hu : un + 8 * 1 < cLine)
    (ret : ∀ (t : Tok) (h' : Heap) (tk' : Nat), tfirst (tfirst f (ms.getD 0 0)) (ms.getD 0 0) = f → (tfirst f (ms.getD 0 0)).fdiv (15 + 1) = f.fdiv (15 + 1) → (tfirst f (ms.getD 0 0)).fmod (15 + 1) = (Builtin.bitXor f (ms.getD 0 0)).fmod (15 + 1) → Fr h₀ L h' m → News h₀ L h' news → Q (.int (tfirst f (ms.getD 0 0)) t) { s with heap := h', toks := tk' }) :
    wpAny (model PySem.Challenge.rw_no0055_01.row.prog w) (ktrTop dp un gd cn cs L a ccd cl outer) (call (.ref 90) [.int f tf, .bytes mk tm]) Q E s :=
  (c_first w f tf mk tm ms news hms (by omega) (by omega)).use B F X N T hk hdp hu fun v nw h' tk' F' N' p => by
    obtain ⟨rfl, t, rfl⟩ := p
    obtain ⟨a1, a2, a3⟩ := first_facts (f := f) ⟨by omega, by omega⟩ (getD_in (bInts_in hms) 0)
    exact ret t h' tk' a1 (a2 (by omega)).1 (a2 (by omega)).2 F' N'
theorem first_useL {news : Led} {f : Int} {tf : Tok} {mk : Array UInt8} {tm : Tok} {ms : List Int} {w : World} {mean : ExcName → Option Value} {mg mb : PySem.Str → Option Value} {dp un : Nat} {gd : Option (List Code)} {cn : PySem.Str} {cs : Scope} {a : Addr} {ccd : Value} {cl : List (PySem.Str × Addr)} {outer : List Env} {A₀ : Around} {base h₀ : Heap} {L : Addr} {m : PySem.Str → Option Value} {s : Shared} {Q E : Value → Shared → Prop}
    (hms : KBw.bInts mk = ms) (hl : ms.length = 5) (hf : 0 ≤ f ∧ f < 128) (B : Below A₀ base outer h₀) (F : Fr h₀ L s.heap m) (X : (hd.heap_39 w.params).In h₀) (N : News h₀ L s.heap news) (T : Top hd.view_39 (looseW hd.view_39 [Str.ofString "MODULUS"]) mean mg mb h₀) (hk : cs.kind = .function) (hdp : dp + 1 < recursionLimit) (hu : un + 8 * 1 < cLine)
    (ret : ∀ (t : Tok) (h' : Heap) (tk' : Nat), tfirst (tfirst f (ms.getD 0 0)) (ms.getD 0 0) = f → (tfirst f (ms.getD 0 0)).fdiv (31 + 1) = f.fdiv (31 + 1) → (tfirst f (ms.getD 0 0)).fmod (31 + 1) = (Builtin.bitXor f (ms.getD 0 0)).fmod (31 + 1) → Fr h₀ L h' m → News h₀ L h' news → Q (.int (tfirst f (ms.getD 0 0)) t) { s with heap := h', toks := tk' }) :
    wpAny (model PySem.Challenge.rw_no0055_01.row.prog w) (ktrTop dp un gd cn cs L a ccd cl outer) (call (.ref 90) [.int f tf, .bytes mk tm]) Q E s :=
  (c_first w f tf mk tm ms news hms (by omega) (by omega)).use B F X N T hk hdp hu fun v nw h' tk' F' N' p => by
    obtain ⟨rfl, t, rfl⟩ := p
    obtain ⟨a1, a2, a3⟩ := first_facts (f := f) ⟨by omega, by omega⟩ (getD_in (bInts_in hms) 0)
    exact ret t h' tk' a1 (a3 (by omega)).1 (a3 (by omega)).2 F' N'
theorem ne_int_F {prog : Program} {w : World} {A : Around} {E : Value → Shared → Prop} {s : Shared} {a b : Int} {t u : Tok} {Q : Value → Shared → Prop} (e : a = b) (h : Q (.bool false) s) : wpAny (model prog w) A (compareOp .NotEq (.int a t) (.int b u)) Q E s := by
  subst e
  exact ne_int (by simpa using h)
theorem eq_int_T {prog : Program} {w : World} {A : Around} {E : Value → Shared → Prop} {s : Shared} {a b : Int} {t u : Tok} {Q : Value → Shared → Prop} (e : a = b) (h : Q (.bool true) s) : wpAny (model prog w) A (compareOp .Eq (.int a t) (.int b u)) Q E s := by
  subst e
  exact eq_int (by simpa using h)
theorem ne_bytes_F {prog : Program} {w : World} {A : Around} {E : Value → Shared → Prop} {s : Shared} {b c : Array UInt8} {t u : Tok} {ks : List Int} {Q : Value → Shared → Prop} (hb : KBw.bInts b = ks) (hc : KBw.bInts c = ks) (h : Q (.bool false) s) : wpAny (model prog w) A (compareOp .NotEq (.bytes b t) (.bytes c u)) Q E s := by
  refine ne_bytes ?_
  rw [bInts_inj (hb.trans hc.symm)]
  simpa using h
theorem eq_bytes_T {prog : Program} {w : World} {A : Around} {E : Value → Shared → Prop} {s : Shared} {b c : Array UInt8} {t u : Tok} {ks : List Int} {Q : Value → Shared → Prop} (hb : KBw.bInts b = ks) (hc : KBw.bInts c = ks) (h : Q (.bool true) s) : wpAny (model prog w) A (compareOp .Eq (.bytes b t) (.bytes c u)) Q E s := by
  refine eq_bytes ?_
  rw [bInts_inj (hb.trans hc.symm)]
  simpa using h
theorem sample_end2 {b : Array UInt8} {ds : List Int} {k : Int} (hb : KBw.bInts b = ds) (hl : ds.length = 24) (h0 : 0 ≤ k) (h1 : k < 5) : KBw.bInts (KBy.picked b (some (k + 4)) (some (k + 20))) = (ds.drop (k.toNat + 4)).take 16 := by
  have := sample_end hb hl h0 h1
  rwa [show k + 4 + 16 = k + 20 by omega] at this
theorem tn_use {news : Led} {o : Array UInt8} {to : Tok} {mk : Array UInt8} {tm : Tok} {os ms : List Int} {w : World} {mean : ExcName → Option Value} {mg mb : PySem.Str → Option Value} {dp un : Nat} {gd : Option (List Code)} {cn : PySem.Str} {cs : Scope} {a : Addr} {ccd : Value} {cl : List (PySem.Str × Addr)} {outer : List Env} {A₀ : Around} {base h₀ : Heap} {L : Addr} {m : PySem.Str → Option Value} {s : Shared} {Q E : Value → Shared → Prop}
    (ho : KBw.bInts o = os) (hms : KBw.bInts mk = ms) (hl : ms.length = 5) (h1 : 1 ≤ os.length) (h4 : os.length ≤ 4) (B : Below A₀ base outer h₀) (F : Fr h₀ L s.heap m) (X : (hd.heap_39 w.params).In h₀) (N : News h₀ L s.heap news) (T : Top hd.view_39 (looseW hd.view_39 [Str.ofString "MODULUS"]) mean mg mb h₀) (hk : cs.kind = .function) (hdp : dp + 4 < recursionLimit) (hu : un + 8 * 4 < cLine)
    (ret : ∀ (b : Array UInt8) (t : Tok) (h' : Heap) (tk' : Nat), KBw.bInts b = tnL ms os → (tnL ms os).length = os.length → Fr h₀ L h' m → News h₀ L h' news → Q (.bytes b t) { s with heap := h', toks := tk' }) :
    wpAny (model PySem.Challenge.rw_no0055_01.row.prog w) (ktrTop dp un gd cn cs L a ccd cl outer) (call (.ref 95) [.bytes o to, .bytes mk tm]) Q E s :=
  (c_tn w o to mk tm os ms news ho hms hl h1 h4).use B F X N T hk hdp hu fun v nw h' tk' F' N' p => by
    obtain ⟨rfl, b, t, rfl, hb⟩ := p
    exact ret b t h' tk' hb (tnL_length ..) F' N'
theorem sample_use {news : Led} {d : Array UInt8} {td : Tok} {at' : Int} {ta te : Tok} {ds : List Int} {w : World} {mean : ExcName → Option Value} {mg mb : PySem.Str → Option Value} {dp un : Nat} {gd : Option (List Code)} {cn : PySem.Str} {cs : Scope} {a : Addr} {ccd : Value} {cl : List (PySem.Str × Addr)} {outer : List Env} {A₀ : Around} {base h₀ : Heap} {L : Addr} {m : PySem.Str → Option Value} {s : Shared} {Q E : Value → Shared → Prop}
    (hds : KBw.bInts d = ds) (hl : ds.length = 24) (h0 : 0 ≤ at') (h1 : at' < 8)
    (B : Below A₀ base outer h₀) (F : Fr h₀ L s.heap m) (X : (hd.heap_39 w.params).In h₀) (N : News h₀ L s.heap news) (T : Top hd.view_39 (looseW hd.view_39 [Str.ofString "MODULUS"]) mean mg mb h₀) (hk : cs.kind = .function) (hdp : dp + 1 < recursionLimit) (hu : un + 8 * 1 < cLine)
    (ret1 : ∀ (h' : Heap) (tk' : Nat), 5 ≤ at' → Fr h₀ L h' m → News h₀ L h' news → Q .none { s with heap := h', toks := tk' })
    (ret2 : ∀ (b : Array UInt8) (t : Tok) (h' : Heap) (tk' : Nat), at' < 5 → KBw.bInts b = (ds.drop (at'.toNat + 4)).take 16 → ((ds.drop (at'.toNat + 4)).take 16).length = 16 → Fr h₀ L h' m → News h₀ L h' news → Q (.bytes b t) { s with heap := h', toks := tk' }) :
    wpAny (model PySem.Challenge.rw_no0055_01.row.prog w) (ktrTop dp un gd cn cs L a ccd cl outer) (call (.ref 102) [.bytes d td, .int at' ta, .int 24 te]) Q E s :=
  (c_sample w d td at' ta te ds news hds hl h0 h1).use B F X N T hk hdp hu fun v nw h' tk' F' N' p => by
    obtain ⟨rfl, ⟨h, rfl⟩ | ⟨h, b, t, rfl, hb⟩⟩ := p
    · exact ret1 h' tk' h F' N'
    · exact ret2 b t h' tk' h hb (by rw [List.length_take, List.length_drop, hl]; omega) F' N'
theorem fr_done {h₀ h : Heap} {L : Addr} {x : PySem.Str} {m₁ m0 : PySem.Str → Option Value} (F : Fr h₀ L h m₁) (hm : ∀ z, z ≠ x → m₁ z = m0 z) : Fr h₀ L h (fun y => if y = x then m₁ x else m0 y) := by
  have e : m₁ = fun y => if y = x then m₁ x else m0 y := by
    funext y
    by_cases h : y = x
    · rw [if_pos h, h]
    · rw [if_neg h, hm y h]
  rwa [← e]
def TwoEnd (h₀ : Heap) (L : Addr) (m : PySem.Str → Option Value) (news : Led) (x : PySem.Str) (s s' : Shared) : Prop := ∃ h' tk' m', s' = { s with heap := h', toks := tk' } ∧ Fr h₀ L h' m' ∧ News h₀ L h' news ∧ ∀ z, z ≠ x → m' z = m z
theorem g_two {M : Model} {A : Around} {E : Value → Shared → Prop} {s : Shared} {env : Env} {h₀ : Heap} {L : Addr} {m : PySem.Str → Option Value} {news : Led} {st1 st2 : Stmt} {rest : List Stmt} {Q : Flow → Shared → Prop} (x : PySem.Str)
    (_F : Fr h₀ L s.heap m) (_N : News h₀ L s.heap news)
    (h1 : wpG M A (exec st1 env) (fun f s' => f = .next ∧ wpG M A (exec st2 env) (fun f s'' => f = .next ∧ TwoEnd h₀ L m news x s s'') E s') E s)
    (hr : ∀ h' tk' m', Fr h₀ L h' m' → News h₀ L h' news → (∀ z, z ≠ x → m' z = m z) → wpG M A (execs rest env) Q E { s with heap := h', toks := tk' }) :
    wpG M A (execs (st1 :: st2 :: rest) env) Q E s := by
  refine g_execs_cons (g_mono h1 (fun f s' h => ?_) fun _ _ e => e)
  obtain ⟨rfl, h2⟩ := h
  refine g_execs_cons (g_mono h2 (fun f s'' h => ?_) fun _ _ e => e)
  obtain ⟨rfl, h', tk', m', rfl, F', N', hm⟩ := h
  exact hr h' tk' m' F' N' hm
def CMasks (w : World) : Prop := ∀ (D R : Addr) (oD oR : Obj) (key : Array UInt8) (tk : Tok) (kk : List Int), KBw.bInts key = kk → kk.length ≤ 10 → IsDraws R oD oR → D ≠ R →
  CtrG 16 w 145 [.ref D, .bytes key tk] [(D, oD), (R, oR)] (fun v nw => v = .bool true)
section
local macro_rules | `(tactic| walk_at "wpG") => `(tactic| (k_here; with_reducible refine g_Subscript ?_))
-- calls




local macro_rules | `(tactic| walk_at "wpG") => `(tactic| (k_here; k_dflt (refine' mask_use ?ka ?kb ?_ ?_ ?_ ?_ ?_ ?_ ?_ ?_ ?_); (case ka => first | assumption | kba_ints2); (case kb => first | assumption | kba_ints2); walk_at "u1"; intro b9 t9 h9 tk9 ms9 hb9 hl9 hi9 F9 N9; (try dsimp only); (try k_fold)))
local macro_rules | `(tactic| walk_at "call ref") => `(tactic| (k_here; k_dflt (refine' Ctr.useI (c_first _ _ _ _ _ _ _ ?ka ?kb ?kc) ?_ ?_ ?_ ?_ ?_ ?_ ?_ ?_ ?_); (case ka => first | assumption | kba_ints2); (case kb => first | omega | kba_size); (case kc => first | omega | kba_size); walk_at "u1"; intro t9 h9 tk9 F9 N9; (try dsimp only); (try k_fold)))
local macro_rules | `(tactic| walk_at "call ref") => `(tactic| (k_here; k_dflt (refine' first_useH ?ka ?kb ?kc ?_ ?_ ?_ ?_ ?_ ?_ ?_ ?_ ?_); (case ka => first | assumption | kba_ints2); (case kb => assumption); (case kc => omega); walk_at "u1"; intro t9 h9 tk9 a91 a92 a93 F9 N9; (try dsimp only); (try k_fold)))
local macro_rules | `(tactic| walk_at "call ref") => `(tactic| (k_here; k_dflt (refine' first_useL ?ka ?kb ?kc ?_ ?_ ?_ ?_ ?_ ?_ ?_ ?_ ?_); (case ka => first | assumption | kba_ints2); (case kb => assumption); (case kc => omega); walk_at "u1"; intro t9 h9 tk9 a91 a92 a93 F9 N9; (try dsimp only); (try k_fold)))
local macro_rules | `(tactic| walk_at "compareOp NotEq int int") => `(tactic| (refine ne_int_F (by first | assumption | (k_dflt assumption) | omega) ?_))
local macro_rules | `(tactic| walk_at "compareOp Eq int int") => `(tactic| (refine eq_int_T (by first | assumption | omega) ?_))
local macro_rules | `(tactic| walk_at "compareOp NotEq bytes bytes") => `(tactic| (refine ne_bytes_F (by assumption) (sample_end2 (by first | assumption | kba_ints2) (by assumption) (by assumption) (by assumption)) ?_))
local macro_rules | `(tactic| walk_at "compareOp Eq bytes bytes") => `(tactic| refine stop_mk ?_)
local macro_rules | `(tactic| walk_at "call ref") => `(tactic| (k_here; (with_reducible show wpAny _ _ (PySem.call (Value.ref 95) _) _ _ _); refine stop_mk ?_))
local macro_rules | `(tactic| walk_at "call ref") => `(tactic| (k_here; (with_reducible show wpAny _ _ (PySem.call (Value.ref 102) _) _ _ _); refine stop_mk ?_))
local macro_rules | `(tactic| walk_at "CompSrc") => `(tactic| refine stop_mk ?_)
local macro_rules | `(tactic| walk_at "eval ListComp") => `(tactic| refine stop_mk ?_)
local macro_rules | `(tactic| walk_at "TwoEnd") => `(tactic| refine stop_mk ?_)
local macro_rules | `(tactic| walk_at "wpG") => `(tactic| (k_here; (with_reducible show wpG _ _ (execs (Stmt.Assign [Expr.Name (PySem.Str.ofString "sample") _] _ _ :: _ :: _) _) _ _ _); refine stop_mk ?_))
theorem c_masks (w : World) : CMasks w := by
  unfold CMasks CtrG
  k_fill
  intro D R oD oR key tk kk hkk hk1 hdr hDR mean mg mb dp un gd cn cs a ccd cl outer A₀ base h₀ L m s Q E B F X N T hk hdp hun hret
  refine g_call ?_
  k_dflt (refine' clean_defC ?k1 ?k2 ?k3 ?k4 ?k5 ?kA ?kF ?kK ?k6 ?k7 ?k8 ?k9 ?kB ?kD ?_ ?c2 ?c3 ?c4; (case kA => exact rfl); (case kF => exact rfl); (case kK => assumption); (case k1 => k_asm); (case k2 => k_asm); (case k3 => k_asm); (case k4 => k_asm); (case k5 => k_asm); (case k6 => k_is); (case k7 => k_is); (case k8 => ktr_room); (case k9 => exact BindsTo.of_eq rfl); (case kB => exact rfl); (case kD => decide +kernel); (case c2 => exact rfl); (case c3 => exact rfl); (case c4 => exact rfl); k_whole; intro g' L' h' tk' cells' FG' F' N' Y' B' X' T' l1; (try k_lt l1); k_cells Y'; (try simp only [List.cons_append, List.nil_append] at N'); (try dsimp only); (try k_lift B'); (try k_fold))
  k_steps
  unfold Stop
  rename Fr _ _ _ _ => lF
  refine LCg.ListComp_U lF (by with_unfolding_all rfl) (by decide) (by rfl) (by decide) (by rfl) ?_
  k_steps
  unfold Stop
  rename Fr _ _ _ _ => lF2
  rename News _ _ _ _ => lN2
  rename IsRange _ _ _ _ _ _ _ _ => lR2
  replace lN2 := perm3 lN2
  refine LCg.CompSrc.range (n := 24) rfl lF2 lN2 lR2 (by decide) (by decide) (by decide) fun g => ?_
  refine comp_ind (DrawJ D R (L' + 1) _ []) ⟨_, _, [], rfl, hdr, .nil, (fun _ h => nomatch h), rfl⟩ ?_ ?_
  · clear lF2 lN2 lR2
    rintro i ys nw hi ⟨oD3, oR3, ns, rfl, hD3, hys, hns, hlen⟩ v I oI C oC Dl m₂ h3 tk3 E' ⟨t3, rfl⟩ hNs hx F3 N3 off3 ne3
    have offD := off_get off3
    k_steps
    rename IsDraws _ _ _ => lD4
    rename News _ _ _ _ => lN4
    exact LCg.CompEnd.intro (by k_asm) lN4 ((D, _) :: (R, _) :: (L' + 1, _) :: []) led_sub off3 trivial ⟨_, _, ns ++ [_], rfl, lD4, IntsAre.append hys (.cons _ _ .nil), in_snoc hns (by assumption) (by assumption), by simp [hlen]⟩
  · rintro ys nw ⟨oD3, oR3, ns, rfl, hD3, hys, hns, hlen⟩
    clear lF2 lN2 lR2
    intro Dl h3 tk3 F3 N3 o3
    have hl3 : ns.length ≤ 1000 := by omega
    have o4 := off1_get o3
    k_steps
    unfold Stop
    have fb0 : 0 ≤ (ns.getD (Int.toNat 0) 0).fmod 128 ∧ (ns.getD (Int.toNat 0) 0).fmod 128 < 128 := ⟨Int.fmod_nonneg_of_pos _ (by decide), Int.fmod_lt_of_pos _ (by decide)⟩
    have fb1 : 0 ≤ (ns.getD (Int.toNat 1) 0).fmod 128 ∧ (ns.getD (Int.toNat 1) 0).fmod 128 < 128 := ⟨Int.fmod_nonneg_of_pos _ (by decide), Int.fmod_lt_of_pos _ (by decide)⟩
    rename Fr _ _ _ _ => lF
    rename News _ _ _ _ => lN
    obtain ⟨m0, hm0, lF⟩ := fr_name lF
    refine g_two (PySem.Str.ofString "sample") lF lN ?two ?rest
    case two =>
      subst hm0
      k_steps
      unfold Stop
      refine' sample_use ?ka hlen ?kb ?kc ?k1 ?k2 ?k3 ?k4 ?k5 ?kK ?kd ?ku ?_ ?_
      case ka => first | assumption | kba_ints2
      case kb => assumption
      case kc => assumption
      case k1 => k_asm
      case k2 => k_asm
      case k3 => k_asm
      case k4 => k_asm
      case k5 => k_asm
      case kK => first | exact rfl | assumption
      case kd => ktr_room
      case ku => ktr_units
      · intro h9 tk9 hge F9 N9
        try dsimp only
        k_steps
        unfold Stop
        unfold TwoEnd
        exact ⟨_, _, _, rfl, by k_asm, by k_asm, fun z hz => if_neg hz⟩
      · intro b9 t9 h9 tk9 hge hb9 hl9 F9 N9
        try dsimp only
        k_steps
        unfold Stop
        unfold TwoEnd
        exact ⟨_, _, _, rfl, by k_asm, by k_asm, fun z hz => if_neg hz⟩
    case rest =>
    intro h6 tk6 m6 F6 N6 hm6
    replace F6 := fr_done F6 hm6
    subst hm0
    clear lF lN hm6
    k_steps
    unfold Stop
    refine' tn_use (cut_to (hh := ns) ?hb ?h0) ?ka ?kl ?h1 ?h4 ?k1 ?k2 ?k3 ?k4 ?k5 ?kK ?kd ?ku ?_
    case hb => first | assumption | kba_ints2
    case h0 => omega
    case ka => assumption
    case kl => assumption
    case h1 => rw [List.length_take]; omega
    case h4 => rw [List.length_take]; omega
    case k1 => k_asm
    case k2 => k_asm
    case k3 => k_asm
    case k4 => k_asm
    case k5 => k_asm
    case kK => first | exact rfl | assumption
    case kd => ktr_room
    case ku => ktr_units
    intro b8 t8 h8 tk8 hb8 hl8 F8 N8
    try dsimp only
    k_steps
    unfold Stop
    refine' tn_use hb8 ?ka ?kl ?h1 ?h4 ?k1 ?k2 ?k3 ?k4 ?k5 ?kK ?kd ?ku ?_
    case ka => assumption
    case kl => assumption
    case h1 => rw [tnL_length, List.length_take]; omega
    case h4 => rw [tnL_length, List.length_take]; omega
    case k1 => k_asm
    case k2 => k_asm
    case k3 => k_asm
    case k4 => k_asm
    case k5 => k_asm
    case kK => first | exact rfl | assumption
    case kd => ktr_room
    case ku => ktr_units
    intro b7 t7 h7 tk7 hb7 hl7 F7 N7
    try dsimp only
    k_steps
    unfold Stop
    rw [tn_tn (by assumption) (fun n hn => hns n (List.mem_of_mem_take hn))] at hb7
    refine eq_bytes_T hb7 (cut_to (hh := ns) (by first | assumption | kba_ints2) (by omega)) ?_
    k_steps
    exact hret _ _ _ _ (by k_asm) (by k_asm) rfl
end
end
section
open PySem PySem.W PySem.Spec PySem.Calls PyProof.Rows
open PySem.Sem (wp)
set_option Elab.async false
set_option maxRecDepth 100000
set_option linter.unusedVariables false
section
variable {prog : Program} {w : World} {A : Around} {E : Value → Shared → Prop} {s : Shared} {env : Env}
theorem g_runOwn {c : Code} {Q : Flow → Shared → Prop} (hc : codeG (model prog w) A c (fun r s' => match r with | .ok f => Q f s' | .error e => False) s) : wpG (model prog w) A (runOwn c env) Q E s := by
  unfold runOwn
  exact g_onRaise (g_run (h := none) hc)
def ForAt (prog : Program) (w : World) (A : Around) (env : Env) (x : PySem.Str) (px : Pos) (body : List Stmt) (Q : Flow → Shared → Prop) (it : Value) (s₂ : Shared) : Prop :=
  codeG (model prog w) A (.forLoop (.Name x px) it body [] env) (fun r s' => match r with | .ok f => Q f s' | .error e => False) s₂
theorem g_For {x : PySem.Str} {px : Pos} {iter body pos} {Q : Flow → Shared → Prop}
    (h : wpAny (model prog w) A (eval iter env) (fun xv s₁ => wpAny (model prog w) A (pyIter xv) (fun it s₂ => ForAt prog w A env x px body Q it s₂) E s₁) E s)
    (hs : ∀ x, foldedSetIterable iter env x = pure x := by intro _; rfl) : wpG (model prog w) A (exec (.For (.Name x px) iter body [] pos) env) Q E s := by
  rw [exec_For]
  refine g_step (wpAny_standAt (g_step (wpAny_mono h (fun x s₁ h₁ => ?_) fun _ _ e => e)))
  refine g_step (wpAny_of_eq (hs x) ?_)
  refine g_step (wpAny_standAt (g_step (wpAny_holding (wpAny_mono h₁ (fun it s₂ h₂ => ?_) fun _ _ e => e))))
  exact g_runOwn h₂
theorem codeG_forLoop {R : Result → Shared → Prop} {target it body} (I : Nat → Shared → Prop)
    (turn : ∀ n s, I n s → wpAny (model prog w) A (pyNext it) (fun r s₁ => match r with
      | none => R (.ok .next) s₁
      | some v => wpAny (model prog w) A (assign target env v) (fun _ s₂ => wpG (model prog w) A (execs body env) (fun f s₃ => match f with
          | .next | .cont => ∃ m, m < n ∧ I m s₃
          | .brk => R (.ok .next) s₃
          | .ret v => R (.ok (.ret v)) s₃) (fun _ _ => False) s₂) (fun _ _ => False) s₁) (fun _ _ => False) s)
    (n : Nat) (h : I n s) (ht : ∀ v, letOwnedTupleGo target it v = pure () := by intro _; rfl) : codeG (model prog w) A (.forLoop target it body [] env) R s := by
  induction n using Nat.strongRecOn generalizing s with
  | ind n ih =>
    refine codeG_of_tree rfl ?_
    show wpG _ A ((forTurn target it body [] env).onRaise (fun x => do noteFrame x env; theTreesLotGoes x)) _ _ s
    refine g_onRaise ?_
    simp only [forTurn]
    refine g_step (wpAny_standAt (g_step (wpAny_onRaise (wpAny_mono (turn n s h) (fun r s₁ h₁ => ?_) fun _ _ h' => h'.elim))))
    cases r with
    | none => exact g_pure ⟨rfl, codeG_any (codeAny_block (wpAny_execs_nil h₁))⟩
    | some v =>
      refine g_step (wpAny_of_eq (ht v) ?_)
      refine g_step (wpAny_mono h₁ (fun _ s₂ h₂ => g_bind (g_mono h₂ (fun f s₃ h₃ => ?_) fun _ _ h' => h')) fun _ _ h' => h')
      cases f with
      | next => obtain ⟨m, hm, hI⟩ := h₃; exact g_pure ⟨rfl, ih m hm hI⟩
      | cont => obtain ⟨m, hm, hI⟩ := h₃; exact g_pure ⟨rfl, ih m hm hI⟩
      | brk => exact g_pure h₃
      | ret v => exact g_pure h₃
theorem g_loop_range {h₀ : Heap} {x : PySem.Str} {px : Pos} {body : List Stmt} {Q : Flow → Shared → Prop} {m₀ : PySem.Str → Option Value} {news : Led} {r : Addr} {n : Nat} {t₀ u₀ v₀ : Tok}
    (J : Nat → (PySem.Str → Option Value) → Led → Prop) (hh : A.handled = none) (hr : IsRange s.heap r 0 (n : Int) 1 t₀ u₀ v₀) (hn : n ≤ 1000) (F : Fr h₀ env.locals s.heap m₀) (N : News h₀ env.locals s.heap news)
    (hx : env.kindOf x = some .local) (hp : (env.scope.kind == .class || (env.scope.kind == .module && env.locals != env.globals)) = false) (hj : J 0 m₀ news)
    (turn : ∀ i t m₁ nx h tk I oI, i < n → J i m₁ nx → (∀ p ∈ nx, @Ne Nat p.1 I) → Fr h₀ env.locals h (fun y => if y = x then some (.int (i : Nat) t) else m₁ y) → News h₀ env.locals h ((I, oI) :: nx) →
      wpG (model prog w) A (execs body env) (fun f s' => f = .next ∧ ∃ h' tk' m' nx', s' = { s with heap := h', toks := tk' } ∧ Fr h₀ env.locals h' m' ∧ News h₀ env.locals h' ((I, oI) :: nx') ∧ (∀ p ∈ nx', @Ne Nat p.1 I) ∧ J (i + 1) m' nx') (fun _ _ => False) { s with heap := h, toks := tk })
    (done : ∀ m₁ nx h tk, J n m₁ nx → Fr h₀ env.locals h m₁ → News h₀ env.locals h nx → Q .next { s with heap := h, toks := tk }) :
    wpAny (model prog w) A (pyIter (.ref r)) (fun it s₂ => ForAt prog w A env x px body Q it s₂) E s := by
  have hsm : Builtin.Range.small 0 (n : Int) 1 = true := small_one (by decide) (by decide) (by omega) (by omega)
  refine wpAny_pyIter_range hr hsm ?_
  have W := LCg.range_walks (prog := prog) (w := w) (I := s.heap.objs.size) hh 0 n
  have hIL : env.locals ≠ s.heap.objs.size := Nat.ne_of_lt F.ns.lt
  have hI₀ : h₀.get? s.heap.objs.size = none := next_is_new F
  have hst : IsRangeIter (s.heap.push { cls := .type "range_iterator", data := .fields #[.int 0 0, .int (Builtin.Range.rangeSize 0 (n : Int) 1) 0, .int 1 0] }) s.heap.objs.size (0 + (0 : Nat) * 1) ((n : Int) - (0 : Nat)) 1 := by
    show IsRangeIter _ _ _ _ _
    rw [rangeSize_nat]
    simp
    exact Heap.get?_push_size _ rfl
  unfold ForAt
  refine codeG_forLoop
    (fun k s' => ∃ h' tk m' nx i, s' = { s with heap := h', toks := tk } ∧ IsRangeIter h' s.heap.objs.size (0 + (i : Nat) * 1) ((n : Int) - (i : Nat)) 1 ∧ Fr h₀ env.locals h' m' ∧ News h₀ env.locals h' nx ∧ (∀ p ∈ nx, @Ne Nat p.1 s.heap.objs.size) ∧ J i m' nx ∧ i ≤ n ∧ k = n + 1 - i) ?_ (n + 1)
    ⟨_, _, m₀, news, 0, rfl, hst, F.push _, (fun p hp => ⟨Heap.get?_push_of_some _ (N p hp).1, (N p hp).2⟩), (fun p hp => Nat.ne_of_lt (Heap.lt_size (N p hp).1)), hj, Nat.zero_le _, rfl⟩
  rintro k s' ⟨h', tk, m', nx, i, rfl, hst', F', N', hoff, hJ, hi, rfl⟩
  by_cases hlt : i < n
  · refine W.item i _ _ _ hlt hst' fun v h₁ tk₁ hP hst₁ hk₁ => ?_
    obtain ⟨t, rfl⟩ := hP
    have F₁ := LCg.fr_but F' hk₁ hIL hI₀
    have N₁ := LCg.news_but N' hk₁ hoff
    refine wpAny_assign_Name (wpAny_storeName_local hx F₁.ns (fun h₂ hn₂ hs₂ => ?_) hp)
    have F₂ := F₁.set hn₂ hs₂
    have hst₂ := W.frame _ _ h₂ hst₁ fun b hb o e => (hs₂.2 b fun q => hIL (by rw [← q]; exact List.mem_singleton.mp hb)).trans e
    have eI : h₂.get? s.heap.objs.size = some _ := hst₂
    have N₂ : News h₀ env.locals h₂ ((s.heap.objs.size, _) :: nx) := fun p hp => by
      rcases List.mem_cons.mp hp with rfl | hp
      · exact ⟨eI, Ne.symm hIL, hI₀⟩
      · exact (N₁.set hs₂) p hp
    rw [Int.zero_add] at F₂
    refine g_mono (turn i t m' nx h₂ _ s.heap.objs.size _ hlt hJ hoff F₂ N₂) (fun f s₃ h₃ => ?_) fun _ _ e => e
    obtain ⟨rfl, h3, tk3, m3, nx3, rfl, F3, N3, hoff3, hJ3⟩ := h₃
    refine ⟨n + 1 - (i + 1), by omega, h3, tk3, m3, nx3, i + 1, rfl, (N3 _ (.head _)).1, F3, (fun p hp => N3 p (.tail _ hp)), hoff3, hJ3, hlt, rfl⟩
  · obtain rfl : i = n := by omega
    refine W.done _ _ _ hst' fun h₁ tk₁ hk₁ => ?_
    exact done m' nx h₁ tk₁ hJ (LCg.fr_but F' hk₁ hIL hI₀) (LCg.news_but N' hk₁ hoff)
end
end
section
open PySem PySem.W PySem.Spec PySem.Calls PyProof.Rows
open PySem.Sem (wp)
open PyProof.V
set_option Elab.async false
set_option maxRecDepth 100000
set_option maxHeartbeats 40000000
set_option linter.unusedVariables false



def loopJ (x : PySem.Str) (D R : Addr) (m0 : PySem.Str → Option Value) (i : Nat) (m : PySem.Str → Option Value) (nx : Led) : Prop := (∃ oD oR, nx = [(D, oD), (R, oR)] ∧ IsDraws R oD oR) ∧ ∀ z, z ≠ x → m z = m0 z
theorem two_sub {h₀ h : Heap} {L : Addr} {a b : Addr × Obj} {r : Led} (N : News h₀ L h (a :: b :: r)) : News h₀ L h [a, b] := fun p hp => N p (by
  simp only [List.mem_cons, List.not_mem_nil, or_false] at hp ⊢
  rcases hp with h | h <;> simp [h])
theorem perm_in {h₀ h : Heap} {L : Addr} {i a b : Addr × Obj} (N : News h₀ L h [i, a, b]) : News h₀ L h [a, b, i] := fun p hp => N p (by
  simp only [List.mem_cons, List.not_mem_nil, or_false] at hp ⊢
  rcases hp with h | h | h <;> simp [h])
theorem perm_out {h₀ h : Heap} {L : Addr} {i a b : Addr × Obj} (N : News h₀ L h [a, b, i]) : News h₀ L h [i, a, b] := fun p hp => N p (by
  simp only [List.mem_cons, List.not_mem_nil, or_false] at hp ⊢
  rcases hp with h | h | h <;> simp [h])
theorem fr_turn {h₀ h : Heap} {L : Addr} {x : PySem.Str} {v : Option Value} {m₁ m0 : PySem.Str → Option Value} (F : Fr h₀ L h (fun y => if y = x then v else m₁ y)) (hm : ∀ z, z ≠ x → m₁ z = m0 z) : Fr h₀ L h (fun y => if y = x then v else m0 y) := by
  have e : (fun y => if y = x then v else m₁ y) = fun y => if y = x then v else m0 y := by
    funext y
    by_cases h : y = x
    · rw [if_pos h, if_pos h]
    · rw [if_neg h, if_neg h, hm y h]
  rwa [e] at F
theorem one_le_pow (k : Nat) : (1 : Int) ≤ 2 ^ k := Int.pow_pos (by decide)
theorem draws_use {S : Addr} {vs : List Value} {ns : List Int} {w : World} {mean : ExcName → Option Value} {mg mb : PySem.Str → Option Value} {dp un : Nat} {gd : Option (List Code)} {cn : PySem.Str} {cs : Scope} {a : Addr} {ccd : Value} {cl : List (PySem.Str × Addr)} {outer : List Env} {A₀ : Around} {base h₀ : Heap} {L : Addr} {m : PySem.Str → Option Value} {s : Shared} {Q E : Value → Shared → Prop}
    (hi : IntsAre vs ns) (hl : ns.length ≤ 63) (hS : h₀.IsList S vs.toArray) (B : Below A₀ base outer h₀) (F : Fr h₀ L s.heap m) (X : (hd.heap_39 w.params).In h₀) (N : News h₀ L s.heap []) (T : Top hd.view_39 (looseW hd.view_39 [Str.ofString "MODULUS"]) mean mg mb h₀) (hk : cs.kind = .function) (hdp : dp + 2 < recursionLimit) (hu : un + 8 * 2 < cLine)
    (ret : ∀ (D R : Addr) (oD oR : Obj) (h' : Heap) (tk' : Nat), IsDraws R oD oR → D ≠ R → Fr h₀ L h' m → News h₀ L h' [(D, oD), (R, oR)] → Q (.ref D) { s with heap := h', toks := tk' }) :
    wpAny (model PySem.Challenge.rw_no0055_01.row.prog w) (ktrTop dp un gd cn cs L a ccd cl outer) (call (.ref 114) [.ref S]) Q E s :=
  c_draws w S vs ns hi hl _ _ _ _ _ _ _ _ _ _ _ _ _ _ _ _ _ _ _ _ hS B F X N T hk hdp hu fun v nw h' tk' F' N' p => by
    obtain ⟨D, R, oD, oR, rfl, hne, rfl, hd⟩ := p
    exact ret D R oD oR h' tk' hd hne F' N'
theorem seal_use {news : Led} {key : Array UInt8} {tk : Tok} {n : Int} {tn : Tok} {head : Array UInt8} {th : Tok} {sd : Array UInt8} {tp : Tok} {kk hh pp : List Int} {w : World} {mean : ExcName → Option Value} {mg mb : PySem.Str → Option Value} {dp un : Nat} {gd : Option (List Code)} {cn : PySem.Str} {cs : Scope} {a : Addr} {ccd : Value} {cl : List (PySem.Str × Addr)} {outer : List Env} {A₀ : Around} {base h₀ : Heap} {L : Addr} {m : PySem.Str → Option Value} {s : Shared} {Q E : Value → Shared → Prop}
    (hkk : KBw.bInts key = kk) (hhh : KBw.bInts head = hh) (hss : KBw.bInts sd = pp) (hl1 : hh.length ≤ 1000) (hl2 : pp.length ≤ 1000)
    (B : Below A₀ base outer h₀) (F : Fr h₀ L s.heap m) (X : (hd.heap_39 w.params).In h₀) (N : News h₀ L s.heap news) (T : Top hd.view_39 (looseW hd.view_39 [Str.ofString "MODULUS"]) mean mg mb h₀) (hk : cs.kind = .function) (hdp : dp + 4 < recursionLimit) (hu : un + 8 * 4 < cLine)
    (ret : ∀ (b : Array UInt8) (t : Tok) (h' : Heap) (tk' : Nat) (ss : List Int), KBw.bInts b = ss → ss = sealL n kk hh pp → ss.length = pp.length + 16 → Fr h₀ L h' m → News h₀ L h' news → Q (.bytes b t) { s with heap := h', toks := tk' }) :
    wpG (model PySem.Challenge.rw_no0055_01.row.prog w) (ktrTop dp un gd cn cs L a ccd cl outer) (call (.ref 69) [.bytes key tk, .int n tn, .bytes head th, .bytes sd tp]) Q E s :=
  (c_seal w key tk n tn head th sd tp kk hh pp news hkk hhh hss hl1 hl2).use B F X N T hk hdp hu fun v nw h' tk' F' N' p => by
    obtain ⟨rfl, b, t, rfl, hb⟩ := p
    exact ret b t h' tk' _ hb rfl seal_length F' N'
theorem g_full {prog : Program} {w : World} {A : Around} {R : Result → Shared → Prop} {s : Shared} {name : PySem.Str} {params : Arguments} {body : List Stmt} {scope : Scope}
    {dV kV pm cd doc : Value} {a : Addr} {o : Obj} {args : Args} {binds : List (PySem.Str × Value)}
    (hroom : A.depth < recursionLimit) (ho : s.heap.get? a = some o) (hdata : o.data = .func { docDef name params body scope pm cd doc with defaults := dV, kwdefaults := kV }) (hlim : s.heap.NoLimit) (hcd : s.heap.CodeRec cd name)
    (hbind : BindsTo s { docDef name params body scope pm cd doc with defaults := dV, kwdefaults := kV } args binds)
    (hloc : ∀ x ∈ binds, scope.names.lookup x.1 = some .local)
    (h : ∀ h₁, Fr s.heap s.heap.objs.size h₁ (fun x => binds.reverse.lookup x) →
      wpG (model prog w) (A.deeper (envOf name scope s.heap.objs.size a cd)) (execs body (envOf name scope s.heap.objs.size a cd))
        (fun f s' => R (.ok (.ret (match f with | .ret v => v | _ => .none))) s') (fun _ _ => False)
        { s with heap := h₁, toks := s.toks + binds.length })
    (hco : scope.isCoroutine = false := by rfl) (hgen : scope.isGenerator = false := by rfl) (hk : scope.kind = .function := by rfl)
    (hcell : ∀ x ∈ scope.names, x.2 ≠ .cell := by decide) :
    codeG (model prog w) A (.call (.ref a) args) R s := by
  refine codeG_call_function hroom ho hdata hco hgen rfl hcd (hbind _ _ _ _ ?_)
  refine wpAny_newFunctionEnv hcell hloc (fun h₁ hns hsb => ⟨hlim.fresh _ hsb, codeG_func (h h₁ ⟨hns, fun b o e => hsb.extBut b o (Nat.ne_of_lt (Heap.lt_size e)) (Heap.get?_push_of_some _ e), Nat.le_refl _⟩)⟩) hk
theorem g_enter {M : Model} {A : Around} {s : Shared} {f : Value} {pos : List Value} {kw : List (PySem.Str × Value)} {c : ClaimW} {cl : PySem.Str → Option Addr} {mean : ExcName → Option Value} {args : List WData} {s₁ : Shared}
    (h : codeG M A (.call f ⟨pos, kw⟩) (GoodWG c cl mean args s₁) s) : wpG M A (PySem.call f pos kw) (fun v s' => GoodWG c cl mean args s₁ (.ok (.ret v)) s') (fun e s' => GoodWG c cl mean args s₁ (.error e) s') s :=
  g_call (codeG_mono h fun res s' g => by rcases g.1 with ⟨v, _, _, rfl, _⟩ | ⟨e, _, _, rfl, _⟩ <;> exact g)
section
local macro_rules | `(tactic| walk_at "wpG") => `(tactic| (k_here; with_reducible refine g_Subscript ?_))
-- calls





local macro_rules | `(tactic| walk_at "call ref") => `(tactic| refine stop_mk ?_)
local macro_rules | `(tactic| walk_at "pyIter ref") => `(tactic| refine stop_mk ?_)
local macro_rules | `(tactic| walk_at "Exists") => `(tactic| refine stop_mk ?_)
local macro_rules | `(tactic| walk_at "wpG") => `(tactic| (k_here; (with_reducible show wpG _ _ (isTrue (Expr.Call _ _ _ _) _ _) _ _ _); (with_reducible refine g_isTrue_plain ?_ ?_); rotate_left; (with_unfolding_all rfl)))
local macro_rules | `(tactic| walk_at "wpG") => `(tactic| (k_here; (with_reducible refine g_For ?_ ?_); rotate_left; (intro _; with_unfolding_all rfl)))
local macro_rules | `(tactic| walk_at "compareOp NotEq int int") => `(tactic| (refine ne_int_F (by first | assumption | omega) ?_))
local macro_rules | `(tactic| walk_at "compareOp NotEq bytes bytes") => `(tactic| first | (refine ne_bytes_F (by assumption) (by assumption) ?_) | refine stop_mk ?_)
local macro_rules | `(tactic| walk_at "call type:bytes") => `(tactic| ((refine bytes_of_int' (by omega) (by omega) ?_); intro b9 t9 k9 hb9 hz9; (try dsimp only)))
local macro_rules | `(tactic| walk_at "wpG") => `(tactic| (k_here; (with_reducible show wpG _ _ (PySem.call (Value.ref _) _) _ _ _); refine stop_mk ?_))
theorem top_walk : PySem.Challenge.rw_no0055_01.Holds := by
  refine hd ?_
  k_fill
  intro w s₀ s₁ mg mb G Y fa o pm cd doc dV kV ho hd' hcd hD hmg hg args vals as hpre hlay hrd hwl hlo
  have KX := kIn_of Y
  have X := (Ground.X G).1
  have V := (Ground.X G).2
  refine Ground.open G ?_
  intro T B D TE TW
  try (refine guard_noD D (by decide +kernel) ?_; clear D)
  obtain ⟨_, _, M⟩ := bmod_of_top T
  have TA := at_of_top T
  try (obtain ⟨_, _, he, B0⟩ := based_of_top T rfl hmg ho hd'; have he' : cd = _ := he; subst he'; clear he)
  clear hmg
  wrow_args hpre hlay hrd hwl hlo
  rename Heap.IsList _ _ _ => hSL
  rename IntsAre _ _ => hSI
  rename ¬ _ < _ => hSn
  refine g_enter ?_
  have K0 := below_caller (Top.heap T)
  have he := Dflts.none hD rfl
  subst he
  refine g_full (by decide) ho hd' (Top.nolimit T) hcd (BindsTo.of_eq rfl) (locs rfl) fun h₁ F => ?_
  w_binds F
  have N0 := (News.nil : News _ _ _ []).at F
  clear hd' TA
  refine g_mono (E := fun _ _ => False) (Q := fun f s' => ∃ h' tk' m', f = .ret (.bool true) ∧ s' = { s₁ with heap := h', toks := tk' } ∧ Fr s₁.heap s₁.heap.objs.size h' m') ?walk ?post ?err
  case post =>
    rintro f s' ⟨h', tk', m', rfl, rfl, F'⟩
    show GoodWG _ _ _ _ _ (.ok (.ret (.bool true))) _
    refine' goodWG_reads ?qb F' ?qg ?qn ?qr ?qu ?qp ?qo
    case qb => assumption
    case qg => row_bare
    case qn => exact raisesW_false (by wrow_none_raised)
    case qr => w_reads
    case qu => first | exact unshared_nil | exact fun h => absurd h (by decide)
    case qp => exact postW_of (by wrow_shape) (by wtm_val) (by str_meet; first | done | w_fin)
    case qo => row_os
  case err => exact fun _ _ h => h.elim
  k_drop
  try clear ho
  try clear hcd
  try clear V
  try clear TE
  try clear TW
  try clear M
  try clear hlo
  try clear hwl
  try clear hrd
  try clear hlay
  try clear hpre
  try clear B0
  try clear D
  try clear X
  try clear B
  try clear hg
  try clear Y
  try k_fold
  k_steps
  unfold Stop
  refine g_call_any ?_
  refine' draws_use hSI (by omega) hSL ?k1 ?k2 ?k3 ?k4 ?k5 ?kK ?kd ?ku ?_
  case k1 => k_asm
  case k2 => k_asm
  case k3 => k_asm
  case k4 => k_asm
  case k5 => k_asm
  case kK => first | exact rfl | assumption
  case kd => ktr_room
  case ku => ktr_units
  intro D R oD oR h9 tk9 hdr hDR F9 N9
  try dsimp only
  k_steps
  unfold Stop
  try (with_reducible refine g_call_any ?_)
  k_here; k_dflt (refine' take_use ?ka ?kb ?k1 ?k2 ?k3 ?k4 ?kp ?ko ?km ?k5 ?kK ?kd ?ku ?_); (case k1 => k_asm); (case k2 => k_asm); (case k3 => k_asm); (case k4 => k_asm); (case k5 => k_asm); (case kp => first | exact .here | exact .skip .here | exact .skip (.skip .here) | exact .skip (.skip (.skip .here)) | exact .skip (.skip (.skip (.skip .here))) | exact .skip (.skip (.skip (.skip (.skip .here)))));  (case ka => assumption); (case kb => assumption); (case ko => repeat (first | assumption | exact True.intro | (refine And.intro ⟨by first | k_ne | omega, by first | k_ne | omega⟩ ?_))); (case km => first | exact one_le_pow _ | omega | decide); (case kK => first | exact rfl | assumption); (case kd => ktr_room); (case ku => ktr_units); intro x9 t9 oD9 oR9 h9 tk9 hx9 hy9 hz9 F9 N9; (try dsimp only); (try k_fold)
  k_steps
  unfold Stop
  try (with_reducible refine g_call_any ?_)
  k_here; k_dflt (refine' octets_use ?ka ?kb ?k1 ?k2 ?k3 ?k4 ?kp ?ko ?km ?kn ?k5 ?kK ?kd ?ku ?_); (case k1 => k_asm); (case k2 => k_asm); (case k3 => k_asm); (case k4 => k_asm); (case k5 => k_asm); (case kp => first | exact .here | exact .skip .here | exact .skip (.skip .here) | exact .skip (.skip (.skip .here)) | exact .skip (.skip (.skip (.skip .here))) | exact .skip (.skip (.skip (.skip (.skip .here))))); (case ka => assumption); (case kb => assumption); (case ko => repeat (first | assumption | exact True.intro | (refine And.intro ⟨by first | k_ne | omega, by first | k_ne | omega⟩ ?_))); (case km => omega); (case kn => omega); (case kK => first | exact rfl | assumption); (case kd => ktr_room); (case ku => ktr_units); intro b9 t9 oD9 oR9 h9 tk9 ks9 hb9 hl9 hz9 F9 N9; (try dsimp only); (try k_fold)
  k_steps
  unfold Stop
  try (with_reducible refine g_call_any ?_)
  k_here; k_dflt (refine' octets_use ?ka ?kb ?k1 ?k2 ?k3 ?k4 ?kp ?ko ?km ?kn ?k5 ?kK ?kd ?ku ?_); (case k1 => k_asm); (case k2 => k_asm); (case k3 => k_asm); (case k4 => k_asm); (case k5 => k_asm); (case kp => first | exact .here | exact .skip .here | exact .skip (.skip .here) | exact .skip (.skip (.skip .here)) | exact .skip (.skip (.skip (.skip .here))) | exact .skip (.skip (.skip (.skip (.skip .here))))); (case ka => assumption); (case kb => assumption); (case ko => repeat (first | assumption | exact True.intro | (refine And.intro ⟨by first | k_ne | omega, by first | k_ne | omega⟩ ?_))); (case km => omega); (case kn => omega); (case kK => first | exact rfl | assumption); (case kd => ktr_room); (case ku => ktr_units); intro b9 t9 oD9 oR9 h9 tk9 ks9 hb9 hl9 hz9 F9 N9; (try dsimp only); (try k_fold)
  k_steps
  unfold Stop
  try (with_reducible refine g_call_any ?_)
  k_here; k_dflt (refine' octets_use ?ka ?kb ?k1 ?k2 ?k3 ?k4 ?kp ?ko ?km ?kn ?k5 ?kK ?kd ?ku ?_); (case k1 => k_asm); (case k2 => k_asm); (case k3 => k_asm); (case k4 => k_asm); (case k5 => k_asm); (case kp => first | exact .here | exact .skip .here | exact .skip (.skip .here) | exact .skip (.skip (.skip .here)) | exact .skip (.skip (.skip (.skip .here))) | exact .skip (.skip (.skip (.skip (.skip .here))))); (case ka => assumption); (case kb => assumption); (case ko => repeat (first | assumption | exact True.intro | (refine And.intro ⟨by first | k_ne | omega, by first | k_ne | omega⟩ ?_))); (case km => omega); (case kn => omega); (case kK => first | exact rfl | assumption); (case kd => ktr_room); (case ku => ktr_units); intro b9 t9 oD9 oR9 h9 tk9 ks9 hb9 hl9 hz9 F9 N9; (try dsimp only); (try k_fold)
  k_steps
  unfold Stop
  k_here; k_dflt (refine' seal_use ?ka ?kb ?kc ?ke ?kf ?k1 ?k2 ?k3 ?k4 ?k5 ?kK ?kd ?ku ?_); (case ka => first | assumption | kba_ints2); (case kb => first | assumption | kba_ints2); (case kc => first | assumption | kba_ints2); (case ke => first | omega | kba_size); (case kf => first | omega | kba_size); (case k1 => k_asm); (case k2 => k_asm); (case k3 => k_asm); (case k4 => k_asm); (case k5 => k_asm); (case kK => first | exact rfl | assumption); (case kd => ktr_room); (case ku => ktr_units); intro b9 t9 h9 tk9 ss9 hb9 hs9 hl9 F9 N9; (try dsimp only); (try k_fold)
  k_steps
  unfold Stop
  refine' open_use_some ?ka ?kb ?kc ?kl ?km ?ho ?k1 ?k2 ?k3 ?k4 ?k5 ?kK ?kd ?ku ?_
  case ka => first | assumption | kba_ints2
  case kb => first | assumption | kba_ints2
  case kc => first | assumption | kba_ints2
  case kl => first | omega | kba_size
  case km => first | omega | kba_size
  case ho =>
    rename _ = sealL _ _ _ _ => hss
    rw [hss]
    exact open_seal (bInts_in (by assumption))
  case k1 => k_asm
  case k2 => k_asm
  case k3 => k_asm
  case k4 => k_asm
  case k5 => k_asm
  case kK => first | exact rfl | assumption
  case kd => ktr_room
  case ku => ktr_units
  intro b9 t9 h9 tk9 hb9 F9 N9
  try dsimp only
  k_steps
  unfold Stop
  try (with_reducible refine g_call_any ?_)
  refine' Ctr.useB (c_turned _ _ _ _ _ _ _ _ _ _ ?ka ?kb ?kc) ?k1 ?k2 ?k3 ?k4 ?k5 ?kK ?kd ?ku ?_
  case ka => first | assumption | kba_ints2
  case kb => first | assumption | kba_ints2
  case kc => first | omega | kba_size
  case k1 => k_asm
  case k2 => k_asm
  case k3 => k_asm
  case k4 => k_asm
  case k5 => k_asm
  case kK => first | exact rfl | assumption
  case kd => ktr_room
  case ku => ktr_units
  intro b9 t9 h9 tk9 hb9 F9 N9
  try dsimp only
  k_steps
  unfold Stop
  try (with_reducible refine g_call_any ?_)
  refine' Ctr.useB (c_turned _ _ _ _ _ _ _ _ _ _ ?ka hb9 ?kc) ?k1 ?k2 ?k3 ?k4 ?k5 ?kK ?kd ?ku ?_
  case ka => first | assumption | kba_ints2
  case kc => rw [turnL_length]; omega
  case k1 => k_asm
  case k2 => k_asm
  case k3 => k_asm
  case k4 => k_asm
  case k5 => k_asm
  case kK => first | exact rfl | assumption
  case kd => ktr_room
  case ku => ktr_units
  intro b8 t8 h8 tk8 hb8 F8 N8
  rw [turn_turn (key_bd _ _) (bInts_in (by assumption))] at hb8
  try dsimp only
  k_steps
  unfold Stop
  try (with_reducible refine g_call_any ?_)
  k_here; k_dflt (refine' take_use ?ka ?kb ?k1 ?k2 ?k3 ?k4 ?kp ?ko ?km ?k5 ?kK ?kd ?ku ?_); (case k1 => k_asm); (case k2 => k_asm); (case k3 => k_asm); (case k4 => k_asm); (case k5 => k_asm); (case kp => first | exact .here | exact .skip .here | exact .skip (.skip .here) | exact .skip (.skip (.skip .here)) | exact .skip (.skip (.skip (.skip .here))) | exact .skip (.skip (.skip (.skip (.skip .here)))));  (case ka => assumption); (case kb => assumption); (case ko => repeat (first | assumption | exact True.intro | (refine And.intro ⟨by first | k_ne | omega, by first | k_ne | omega⟩ ?_))); (case km => first | exact one_le_pow _ | omega | decide); (case kK => first | exact rfl | assumption); (case kd => ktr_room); (case ku => ktr_units); intro x9 t9 oD9 oR9 h9 tk9 hx9 hy9 hz9 F9 N9; (try dsimp only); (try k_fold)
  k_steps
  unfold Stop
  try (with_reducible refine g_call_any ?_)
  refine' Ctr.useB (c_pad _ _ _ _ _ _ _ ?ka ?kb ?kc ?ke) ?k1 ?k2 ?k3 ?k4 ?k5 ?kK ?kd ?ku ?_
  case ka => first | assumption | kba_ints2
  case kb => first | omega | kba_size
  case kc => omega
  case ke => omega
  case k1 => k_asm
  case k2 => k_asm
  case k3 => k_asm
  case k4 => k_asm
  case k5 => k_asm
  case kK => first | exact rfl | assumption
  case kd => ktr_room
  case ku => ktr_units
  intro b7 t7 h7 tk7 hb7 F7 N7
  try dsimp only
  k_steps
  unfold Stop
  refine ne_bytes_F hb7 ?hc ?_
  case hc =>
    refine (KBw.ints_app (by assumption) (by assumption)).trans ?_
    congr 2
    split <;> omega
  k_steps
  unfold Stop
  rename Fr _ _ _ _ => lF
  rename News _ _ _ _ => lN
  rename IsRange _ _ _ _ _ _ _ _ => lR
  rename IsDraws _ _ _ => lD
  obtain ⟨m0, hm0, lF⟩ := fr_name lF
  refine' g_loop_range (n := 4) (loopJ (PySem.Str.ofString "turn") D R m0) ?lh ?lr ?ln ?lf ?lg ?lx ?lp ?lj ?_ ?_
  case lh => rfl
  case lr => exact lR
  case ln => decide
  case lf => exact lF
  case lg => exact two_sub lN
  case lx => rfl
  case lp => rfl
  case lj => exact ⟨⟨_, _, rfl, lD⟩, fun _ _ => rfl⟩
  · rintro i t m₁ nx h tk I oI hi ⟨⟨oD5, oR5, rfl, hD5⟩, hm⟩ hoff F3 N3
    replace F3 := fr_turn F3 hm
    subst hm0
    have o1 := hoff _ (.head _)
    have o2 := hoff _ (.tail _ (.head _))
    clear lF lN lD
    k_steps
    unfold Stop
    refine' CtrG.use (c_spoilt w D R oD5 oR5 [(I, oI)] _ _ _ _ _ _ _ _ _ _ _ _ ?a1 ?a2 ?a3 ?a4 ?a5 ?a6 ?a7 ?a8 ?a9 ?a10 hD5 hDR ⟨⟨Ne.symm o1, Ne.symm o2⟩, trivial⟩) ?k1 ?k2 ?k3 ?k4 ?k5 ?kK ?kd ?ku ?_
    case a1 => first | assumption | kba_ints2
    case a2 => first | assumption | kba_ints2
    case a3 => first | assumption | kba_ints2
    case a4 => assumption
    case a5 => first | omega | kba_size
    case a6 => first | omega | kba_size
    case a7 => first | omega | kba_size
    case a8 => first | omega | kba_size
    case a9 => first | omega | kba_size
    case a10 => first | omega | kba_size
    case k1 => k_asm
    case k2 => k_asm
    case k3 => k_asm
    case k5 => k_asm
    case kK => first | exact rfl | assumption
    case kd => ktr_room
    case ku => ktr_units
    case k4 => exact perm_in N3
    rintro v nw h' tk' F' N' ⟨rfl, oD6, oR6, rfl, hD6⟩
    try dsimp only
    k_steps
    unfold Stop
    refine ⟨_, _, _, _, rfl, by k_asm, perm_out N', ?_, ⟨_, _, rfl, hD6⟩, fun z hz => if_neg hz⟩
    intro p hp
    simp only [List.mem_cons, List.not_mem_nil, or_false] at hp
    rcases hp with rfl | rfl
    · exact o1
    · exact o2
  · rintro m₁ nx h tk ⟨⟨oD5, oR5, rfl, hD5⟩, hm⟩ F3 N3
    replace F3 := fr_done F3 hm
    subst hm0
    clear lF lN lD
    k_steps
    unfold Stop
    refine' CtrG.use (c_masks w D R oD5 oR5 _ _ _ ?za1 ?za2 hD5 hDR) ?zk1 ?zk2 ?zk3 ?zk4 ?zk5 ?zkK ?zkd ?zku ?_
    case za1 => first | assumption | kba_ints2
    case za2 => first | omega | kba_size
    case zk4 => k_asm
    case zk1 => k_asm
    case zk2 => k_asm
    case zk3 => k_asm
    case zk5 => k_asm
    case zkK => first | exact rfl | assumption
    case zkd => ktr_room
    case zku => ktr_units
    rintro v nw h' tk' F' N' rfl
    try dsimp only
    k_steps
    unfold Stop
    exact ⟨_, _, _, rfl, rfl, by k_asm⟩
end
end
end Mine
end
theorem PySem.Challenge.cw_no0055_01_holds : PySem.Challenge.rw_no0055_01.Holds := by
  exact Mine.top_walk
