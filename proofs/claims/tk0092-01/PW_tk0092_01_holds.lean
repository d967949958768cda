import PyProof.Rows.All
import Wide.All
import OpenK.AllK
import Wide.FinOn
import PySem.Challenge.RW_tk0092_01
open PySem PySem.W PyProof.Rows PySem.Spec PySem.Calls
set_option Elab.async false
set_option linter.unusedVariables false
set_option linter.unusedSimpArgs false
namespace Mine
def okId (id : String) : Bool := !(Builtin.Bytes.decodersThatHold.contains id) && !(guardIds.contains id)
def okCode : Code → Bool
  | .builtin id _ => okId id
  | _ => true
structure Good (Γ : PySem.Ctx) : Prop where
  here : okCode Γ.code = true
  deep : ∀ x ∈ Γ.below, okCode x.1 = true
theorem Good.enter {Γ : PySem.Ctx} (g : Good Γ) {c : Code} (ok : okCode c = true) (h : Option Value) (p : Pos) : Good (Γ.enter c h p) :=
  ⟨ok, fun x hx => by
    rcases List.mem_cons.mp hx with rfl | hx
    · exact g.here
    · exact g.deep x hx⟩
theorem Good.goto {Γ : PySem.Ctx} (g : Good Γ) {c : Code} (ok : okCode c = true) : Good (Γ.goto c) := ⟨ok, g.deep⟩

def wpG {α : Type} (M : Model) (A : Around) (t : Sem α) (Q : α → Shared → Prop) (E : Value → Shared → Prop) (s : Shared) : Prop :=
  ∀ (Γ : PySem.Ctx) p, Γ.In A → Good Γ → Sem.wp M Γ t (fun a _ s' => Q a s') (fun e _ s' => E e s') p s
def codeG (M : Model) (A : Around) (c : Code) (R : Result → Shared → Prop) (s : Shared) : Prop :=
  ∀ (Γ : PySem.Ctx) p, Γ.code = c → Γ.Below A → Good Γ → wpCode M Γ R p s

section
variable {α β : Type} {M : Model} {A : Around} {E : Value → Shared → Prop} {s : Shared}
theorem wpG_of {t : Sem α} {Q : α → Shared → Prop} (h : wpAny M A t Q E s) : wpG M A t Q E s := fun Γ p i _ => h Γ p i
theorem wpG_pure {a : α} {Q : α → Shared → Prop} (h : Q a s) : wpG M A (pure a) Q E s := wpG_of (wpAny_pure h)
theorem wpG_mono {t : Sem α} {Q Q' : α → Shared → Prop} {E' : Value → Shared → Prop} (h : wpG M A t Q E s) (hQ : ∀ a s, Q a s → Q' a s) (hE : ∀ e s, E e s → E' e s) : wpG M A t Q' E' s :=
  fun Γ p i g => Sem.wp_mono M Γ t (fun a _ s => hQ a s) (fun e _ s => hE e s) p s (h Γ p i g)
theorem wpG_bind {m : Sem α} {f : α → Sem β} {Q : β → Shared → Prop} (h : wpG M A m (fun a s' => wpG M A (f a) Q E s') E s) : wpG M A (m >>= f) Q E s := fun Γ p i g => by
  rw [Sem.wp_bind']
  exact Sem.wp_mono M Γ m (fun a p' s' h' => h' Γ p' i g) (fun _ _ _ h' => h') p s (h Γ p i g)
theorem wpG_holding {vs : List Value} {m : Sem α} {Q : α → Shared → Prop} (h : wpG M A m Q E s) : wpG M A (holding vs m) Q E s := fun Γ p i g => by
  rw [Sem.wp_holding]; exact h Γ p i g
theorem wpG_keep {vs : List Value} {m : Sem α} {Q : α → Shared → Prop} (h : wpG M A m Q E s) : wpG M A (m.keep vs) Q E s := fun Γ p i g => by
  rw [Sem.wp_keep]; exact h Γ p i g
theorem wpG_standAt {pos : Pos} {Q : Unit → Shared → Prop} (h : Q () s) : wpG M A (standAt pos) Q E s := wpG_of (wpAny_standAt h)
theorem wpG_onRaise {m : Sem α} {k : Value → Sem Unit} {Q : α → Shared → Prop} (h : wpG M A m Q (fun _ _ => False) s) : wpG M A (m.onRaise k) Q E s := fun Γ p i g => by
  rw [Sem.wp_onRaise]
  exact Sem.wp_mono M Γ m (fun _ _ _ h' => h') (fun _ _ _ h' => h'.elim) p s (h Γ p i g)
theorem wpG_attempt {m : Sem α} {Q : Except Value α → Shared → Prop} (h : wpG M A m (fun a => Q (.ok a)) (fun e => Q (.error e)) s) : wpG M A m.attempt Q E s := fun Γ p i g => by
  rw [Sem.wp_attempt]; exact h Γ p i g
theorem codeG_mono {c : Code} {R R' : Result → Shared → Prop} (h : codeG M A c R s) (hR : ∀ r s, R r s → R' r s) : codeG M A c R' s := fun Γ p hc i g => wpCode_mono hR (h Γ p hc i g)
theorem codeG_of {c : Code} {R : Result → Shared → Prop} (h : codeAny M A c R s) : codeG M A c R s := fun Γ p hc i _ => h Γ p hc i
theorem wpG_run {c : Code} {h : Option Value} {Q : Flow → Shared → Prop} (hc : codeG M (A.mark h) c (fun r s' => match r with | .ok f => Q f s' | .error e => E e s') s)
    (ok : okCode c = true) (hnb : h ≠ some byPass := by intro x; cases x) : wpG M A (run c h) Q E s :=
  fun Γ p i g => by rw [Sem.wp_run]; exact hc _ p rfl (i.enter c h p hnb) (g.enter ok h p)
theorem wpG_runValue {c : Code} {Q : Value → Shared → Prop} (hc : codeG M A c (fun r s' => match r with | .ok (.ret v) => Q v s' | .ok _ => False | .error e => E e s') s)
    (ok : okCode c = true) : wpG M A (runValue c) Q E s :=
  fun Γ p i g => by rw [Sem.wp_runValue]; exact hc _ p rfl (i.enter c none p (by intro x; cases x)) (g.enter ok none p)
theorem wpG_call {f : Value} {pos : List Value} {kw : List (Str × Value)} {Q : Value → Shared → Prop}
    (hc : codeG M A (.call f ⟨pos, kw⟩) (fun r s' => match r with | .ok (.ret v) => Q v s' | .ok _ => False | .error e => E e s') s) : wpG M A (call f pos kw) Q E s := wpG_runValue hc rfl
theorem codeG_of_tree {c : Code} {R : Result → Shared → Prop}
    (h : wpG M (A.under c) (M.den c) (fun fin s' => match fin with | .done f => R (.ok f) s' | .again c' => c'.quiet = true ∧ okCode c' = true ∧ codeG M A c' R s') (fun e s' => R (.error e) s') s) : codeG M A c R s := fun Γ p hc i g => by
  rw [wpCode_iff_wp, hc]
  refine Sem.wp_mono M Γ _ (fun fin p' s' h' => ?_) (fun _ _ _ h' => h') p s (h Γ p (hc ▸ i.in) g)
  cases fin with
  | done f => exact h'
  | again c' => exact ⟨h'.1, h'.2.2 (Γ.goto c') p' rfl (i.goto c') (g.goto h'.2.1)⟩
theorem codeG_loop {c : Code} {R : Result → Shared → Prop} (hq : c.quiet = true) (I : Nat → Shared → Prop)
    (turn : ∀ n s, I n s → wpG M (A.under c) (M.den c) (fun fin s' => match fin with | .done f => R (.ok f) s' | .again c' => c' = c ∧ ∃ m, m < n ∧ I m s') (fun e s' => R (.error e) s') s)
    (hok : okCode c = true) (n : Nat) (h : I n s) : codeG M A c R s := by
  induction n using Nat.strongRecOn generalizing s with
  | ind n ih =>
    refine codeG_of_tree (wpG_mono (turn n s h) (fun fin s' hf => ?_) fun _ _ h' => h')
    cases fin with
    | done f => exact hf
    | again c' => obtain ⟨rfl, m, hm, hI⟩ := hf; exact ⟨hq, hok, ih m hm hI⟩

/- statements -/
variable {env : Env}
theorem wpG_execs_cons {st : Stmt} {rest : List Stmt} {Q : Flow → Shared → Prop}
    (h : wpG M A (exec st env) (fun f s' => match f with | .next => wpG M A (execs rest env) Q E s' | f => Q f s') E s) : wpG M A (execs (st :: rest) env) Q E s := by
  rw [PySem.execs_cons]
  refine wpG_bind (wpG_mono h (fun f s' h' => ?_) fun _ _ x => x)
  cases f <;> first | exact h' | exact wpG_pure h'
theorem wpG_execs_nil {Q : Flow → Shared → Prop} (h : Q .next s) : wpG M A (execs [] env) Q E s := wpG_of (wpAny_execs_nil h)
theorem wpG_Assign_Name {x : Str} {pos' pos : Pos} {value : Expr} {Q : Flow → Shared → Prop}
    (h : wpG M A (eval value env) (fun v s₁ => wpAny M A (storeName env x v) (fun _ => Q .next) E s₁) E s)
    (hs : swapsWith value (some (.Name x pos')) pos.line env = pure false := by rfl) : wpG M A (exec (.Assign [.Name x pos'] value pos) env) Q E s := by
  rw [exec_Assign_Name env x pos' value pos hs]
  exact wpG_bind (wpG_standAt (wpG_bind (wpG_mono h (fun v s₁ h₁ => wpG_bind (wpG_standAt (wpG_of (wpAny_bind (wpAny_bindName (wpAny_mono h₁ (fun _ _ q => wpAny_pure q) fun _ _ e => e)))))) fun _ _ e => e)))
theorem wpG_Expr {e : Expr} {pos : Pos} {Q : Flow → Shared → Prop} (h : wpG M A (eval e env) (fun v s' => match v with | .ref _ => False | _ => Q .next s') E s)
    (hi : interactive env = false := by rfl) (hs : swapsWith e none pos.line env = pure false := by rfl) : wpG M A (exec (.Expr e pos) env) Q E s := by
  rw [exec_Expr env e pos hi hs]
  refine wpG_bind (wpG_standAt (wpG_bind (wpG_mono h (fun v s' h' => ?_) fun _ _ x => x)))
  have hv : ∀ a, v ≠ .ref a := fun a hva => by subst hva; exact h'
  rw [dropValue_plain hv]
  refine wpG_pure ?_
  cases v <;> first | exact h' | exact (hv _ rfl).elim
theorem wpG_Return {e : Expr} {pos : Pos} {Q : Flow → Shared → Prop} (h : wpG M A (eval e env) (fun v => Q (.ret v)) E s) : wpG M A (exec (.Return (some e) pos) env) Q E s := by
  rw [exec_Return_some]
  exact wpG_bind (wpG_standAt (wpG_bind (wpG_mono h (fun v s' h' => wpG_pure h') fun _ _ x => x)))
theorem wpG_If {test : Expr} {body orelse : List Stmt} {pos : Pos} {Q : Flow → Shared → Prop}
    (h : wpG M A (isTrue test env (eval test env)) (fun b s₂ => if b then wpG M A (execs body env) Q E s₂ else wpG M A (execs orelse env) Q E s₂) E s) : wpG M A (exec (.If test body orelse pos) env) Q E s := by
  rw [exec_If]
  refine wpG_bind (wpG_standAt (wpG_bind (wpG_mono h (fun b s₂ h₂ => ?_) fun _ _ x => x)))
  cases b <;> exact h₂

/- expressions -/
theorem wpG_Call {func : Expr} {args : List Expr} {pos : Pos} {Q : Value → Shared → Prop}
    (h : wpG M A (eval func env) (fun f s₁ => wpG M A (callWith pos f [] (backTo pos (starEach args env)) []) Q E s₁) E s)
    (he : eval (.Call func args [] pos) env = (do callWith pos (← eval func env) [] (backTo pos (starEach args env)) (backToKw pos (keywordEach [] env))) := by rfl) : wpG M A (eval (.Call func args [] pos) env) Q E s := by
  rw [he]; exact wpG_bind h
theorem wpG_spliced_nil {Q : List Value → Shared → Prop} (h : Q [] s) : wpG M A (spliced []) Q E s := wpG_pure h
theorem wpG_spliced_cons {x : Sem Value} {rest : List (Bool × Sem Value)} {Q : List Value → Shared → Prop}
    (h : wpG M A x (fun v s₁ => wpG M A (spliced rest) (fun vs s₂ => Q (v :: vs) s₂) E s₁) E s) : wpG M A (spliced ((false, x) :: rest)) Q E s := by
  rw [spliced]
  refine wpG_bind (wpG_mono h (fun v s₁ h₁ => ?_) fun _ _ x => x)
  simp only [Bool.false_eq_true, if_false]
  exact wpG_bind (wpG_pure (wpG_bind (wpG_holding (wpG_mono h₁ (fun vs s₂ h₂ => wpG_pure h₂) fun _ _ x => x))))
theorem wpG_evalArgs {f : Value} {x : Sem Value} {rest : List (Bool × Sem Value)} {Q : Args → Shared → Prop}
    (h : wpG M A (spliced ((false, x) :: rest)) (fun vs s' => Q ⟨vs, []⟩ s') E s) : wpG M A (evalArgs f true ((false, x) :: rest) []) Q E s := by
  unfold evalArgs
  show wpG M A (spliced ((false, x) :: rest) >>= _) Q E s
  refine wpG_bind (wpG_mono h (fun vs s' h' => ?_) fun _ _ x => x)
  exact wpG_holding (wpG_bind (wpG_pure (wpG_bind (wpG_pure (wpG_pure h')))))
theorem wpG_callWith {pos : Pos} {f : Value} {first : List Value} {P : Heap → Prop} {args : List (Bool × Sem Value)} {Q : Value → Shared → Prop} (hplain : args.any (·.1) = false)
    (hk : ∀ h, P h → ∃ k, (k = Keeper.frame ∨ k = Keeper.machine ∨ k = Keeper.boundFrame) ∧ Looks M h (keeperOf f) k)
    (h : wpG M A (evalArgs f true args []) (fun a s₁ => P s₁.heap ∧ wpG M A (call f (first ++ a.pos) a.kw) Q E s₁) E s) : wpG M A (callWith pos f first args []) Q E s := by
  unfold callWith
  refine wpG_bind (wpG_holding (wpG_mono h (fun a s₁ h₁ => wpG_bind (wpG_standAt ?_)) fun _ _ x => x))
  obtain ⟨k, hk', Lk⟩ := hk _ h₁.1
  simp only [hplain, List.any_nil, Bool.or_false]
  refine wpG_bind (wpG_of (Lk.here ?_))
  have tail : ∀ {t : Sem Value}, wpG M A t Q E s₁ → wpG M A (t >>= fun r => holding [r] point >>= fun _ => pure r) Q E s₁ :=
    fun ht => wpG_bind (wpG_mono ht (fun r s₂ hr => wpG_bind (wpG_of (wpAny_holding (wpAny_point (wpG_pure hr))))) fun _ _ x => x)
  have marked (mk : Value) : wpG M A (callMarked mk f (first ++ a.pos) a.kw) Q E s₁ := by unfold callMarked; exact wpG_keep h₁.2
  rcases hk' with rfl | rfl | rfl <;> dsimp only <;> first | exact tail h₁.2 | (split <;> first | exact tail h₁.2 | exact tail (marked _))
theorem wpG_callWithK {pos : Pos} {f : Value} {first : List Value} {K : Frag} {e : Expr} {rest : List Expr} {Q : Value → Shared → Prop} (hk : keepIn K f = true)
    (h : wpG M A (spliced (backTo pos (starEach (e :: rest) env))) (fun vs s₁ => K.In s₁.heap ∧ wpG M A (call f (first ++ vs)) Q E s₁) E s)
    (he : starEach (e :: rest) env = (false, eval e env) :: starEach rest env := by rfl) (hplain : (backTo pos (starEach rest env)).any (·.1) = false := by rfl) :
    wpG M A (callWith pos f first (backTo pos (starEach (e :: rest) env)) []) Q E s := by
  rw [he] at h ⊢
  exact wpG_callWith (by show (false || (backTo pos (starEach rest env)).any (·.1)) = false; rw [hplain]; rfl) (keeps_K hk) (wpG_evalArgs h)
theorem wpG_List {elts : List Expr} {pos : Pos} {Q : Value → Shared → Prop}
    (h : wpG M A (spliced (backTo pos (starEach elts env))) (fun vs s₁ => wpAny M A (newList vs) Q E s₁) E s) : wpG M A (eval (.List elts pos) env) Q E s := by
  show wpG M A (do standAt pos; newList (← spliced (backTo pos (starEach elts env)))) Q E s
  exact wpG_bind (wpG_standAt (wpG_bind (wpG_mono h (fun _ _ q => wpG_of q) fun _ _ x => x)))
theorem wpG_args_nil {pos : Pos} {Q : List Value → Shared → Prop} (h : Q [] s) : wpG M A (spliced (backTo pos (starEach [] env))) Q E s := wpG_spliced_nil h
theorem wpG_args_cons {e : Expr} {rest : List Expr} {pos : Pos} {Q : List Value → Shared → Prop}
    (h : wpG M A (eval e env) (fun v s₁ => wpG M A (spliced (backTo pos (starEach rest env))) (fun vs s₂ => Q (v :: vs) s₂) E s₁) E s)
    (he : starEach (e :: rest) env = (false, eval e env) :: starEach rest env := by rfl) : wpG M A (spliced (backTo pos (starEach (e :: rest) env))) Q E s := by
  rw [he]; exact wpG_spliced_cons h
theorem wpG_Subscript {value slice : Expr} {pos : Pos} {Q : Value → Shared → Prop}
    (h : wpG M A (eval value env) (fun o s₁ => wpAny M A (eval slice env) (fun i s₂ => wpAny M A (subscriptTail value slice o i) Q E s₂) E s₁) E s) : wpG M A (eval (.Subscript value slice pos) env) Q E s := by
  rw [eval_Subscript]
  exact wpG_bind (wpG_mono h (fun o s₁ h₁ => wpG_of (wpAny_bind (wpAny_holding (wpAny_mono h₁ (fun i s₂ h₂ => wpAny_bind (wpAny_standAt h₂)) fun _ _ x => x)))) fun _ _ x => x)
theorem wpG_Compare1 {l r : Expr} {op : CmpOp} {pos : Pos} {Q : Value → Shared → Prop}
    (h : wpG M A (eval l env) (fun a s₁ => wpAny M A (eval r env) (fun b s₂ => wpAny M A (compareOp op a b) Q E s₂) E s₁) E s)
    (hm : behindInMarks op r = false := by with_unfolding_all rfl) : wpG M A (eval (.Compare l [op] [r] pos) env) Q E s := fun Γ p i g => by
  simp only [eval_Compare1, markedBehindIn_of_false hm, Sem.wp_bind', Sem.wp_holding, Sem.wp_cmd_standAt, Sem.wp_operate]
  exact Sem.wp_mono M Γ _ (fun a p₁ s₁ h₁ => Sem.wp_mono M Γ _ (fun b _ s₂ h₂ => h₂ Γ _ i) (fun _ _ _ h' => h') _ _ (h₁ Γ p₁ i)) (fun _ _ _ h' => h') _ _ (h Γ p i g)
theorem wpG_isTrue_Compare1 {l r : Expr} {op : CmpOp} {pos : Pos} {whole : Sem Value} {Q : Bool → Shared → Prop}
    (h : wpG M A (eval l env) (fun a s₁ => wpAny M A (eval r env) (fun b s₂ => wpAny M A (compareOp op a b) (fun c s₃ => wpAny M A (truthy c) Q E s₃) E s₂) E s₁) E s)
    (hm : behindInMarks op r = false := by with_unfolding_all rfl) : wpG M A (isTrue (.Compare l [op] [r] pos) env whole) Q E s := fun Γ p i g => by
  simp only [isTrue_Compare1, markedBehindIn_of_false hm, Sem.wp_bind', Sem.wp_holding, Sem.wp_cmd_standAt, Sem.wp_operate]
  exact Sem.wp_mono M Γ _ (fun a p₁ s₁ h₁ => Sem.wp_mono M Γ _ (fun b _ s₂ h₂ => Sem.wp_mono M Γ _ (fun c p₃ s₃ h₃ => h₃ Γ p₃ i) (fun _ _ _ h' => h') _ _ (h₂ Γ _ i)) (fun _ _ _ h' => h') _ _ (h₁ Γ p₁ i)) (fun _ _ _ h' => h') _ _ (h Γ p i g)
theorem wpG_And {e₁ e₂ : Expr} {pos : Pos} {Q : Value → Shared → Prop}
    (h : wpG M A (eval e₁ env) (fun v s₁ => wpAny M A (truthy v) (fun t s₂ => if t then wpG M A (eval e₂ env) Q E s₂ else Q v s₂) E s₁) E s) : wpG M A (eval (.BoolOp .And [e₁, e₂] pos) env) Q E s := by
  show wpG M A (do let v ← eval e₁ env; standAt pos; let t ← holding [v] (truthy v); match BoolOp.And, t with | .And, false | .Or, true => pure v | _, _ => eval e₂ env) Q E s
  refine wpG_bind (wpG_mono h (fun v s₁ h₁ => wpG_bind (wpG_standAt (wpG_bind (wpG_of (wpAny_holding (wpAny_mono h₁ (fun t s₂ h₂ => ?_) fun _ _ x => x)))))) fun _ _ x => x)
  cases t
  · exact wpG_pure h₂
  · exact h₂
theorem wpG_CallAttr {o : Expr} {name : Str} {apos pos : Pos} {args : List Expr} {Q : Value → Shared → Prop}
    (h : wpAny M A (eval o env) (fun ov s₁ => wpAny M A (getMethod ov name (do return (← importBound o env).getD true)) (fun ff s₂ => wpG M A (callWith pos ff.1 ff.2 (backTo pos (starEach args env)) []) Q E s₂) E s₁) E s)
    (hbase : attributeBase o name env (eval o env) = eval o env := by rfl) (hfew : methodCallForm args.length (backTo pos (starEach args env)) [] = true := by rfl) (hline : (apos.endLine == pos.line) = true := by rfl) :
    wpG M A (eval (.Call (.Attribute o name apos) args [] pos) env) Q E s := by
  have e : eval (.Call (.Attribute o name apos) args [] pos) env = (do
    let ov ← attributeBase o name env (eval o env)
    standAt apos.atName
    methodCall o name apos pos env ov args.length (backTo pos (starEach args env)) []) := by rfl
  rw [e, hbase]
  refine wpG_bind (wpG_of (wpAny_mono h (fun ov s₁ h₁ => wpG_bind (wpG_standAt ?_)) fun _ _ x => x))
  unfold methodCall calleeOf methodCallPos
  simp only [hfew, hline, if_true, Bool.not_true, Bool.false_or]
  exact wpG_bind (wpG_of (wpAny_holding (wpAny_mono h₁ (fun ff s₂ h₂ => wpG_bind (wpG_pure h₂)) fun _ _ x => x)))
end
end Mine
namespace Mine
section
variable {prog : Program} {w : World} {A A₀ : Around} {E : Value → Shared → Prop} {s : Shared} {base h₀ : Heap} {outer : List Env} {L : Addr} {m mg mb : Str → Option Value} {env : Env} {news : List (Addr × Obj)} {K : Frag}
  {R : Result → Shared → Prop} {name qual : Str} {params : Arguments} {body : List Stmt} {scope : Scope} {dV kV doc pm cdv ct oc : Value} {an od : Option Addr} {osl : Array (Option Value)} {f : Addr} {args : Args} {binds : List (Str × Value)}
  {p : Program} {loose : List Str} {mean : ExcName → Option Value}

theorem callTree {a : Addr} {o : Obj} {fd : FuncData} {P : Env → Shared → Prop} (hroom : A.depth < recursionLimit)
    (ho : s.heap.get? a = some o) (hd' : o.data = .func fd) (hco : fd.scope.isCoroutine = false) (hgen : fd.scope.isGenerator = false) (hbody : fd.body = .stmts body) (hcd : s.heap.CodeRec fd.code fd.qualname)
    (h : wpAny (model prog w) A.in1 (bindArgs fd args) (fun binds s₁ => wpAny (model prog w) A.in1 (newFunctionEnv fd.scope fd.globals fd.closure binds (fd.qualname ++ ".<locals>.") (some a) fd.code none fd.builtins)
      (fun env s₂ => s₂.heap.NoLimit ∧ P env s₂) E s₁) E s) :
    wpAny (model prog w) A.in1 (callAny (.ref a) args) (fun fin s₂ => ∃ env, fin = .again (.func body env) ∧ P env s₂) E s := by
  simp only [callAny]
  refine wpAny_bind (wpAny_load ho ?_)
  obtain ⟨c, oc, vs, tq, hc, hoc, hdc, hq⟩ := hcd
  simp only [hd', callFunction, hco, hgen, hbody, hc]
  rw [hc] at h
  refine wpAny_bind (m := field (.ref c) 1) (wpAny_field hoc hdc hq (wpAny_bind (wpAny_pure ?_)))
  exact wpAny_bind (wpAny_mono h (fun binds s₁ h₁ => wpAny_bind (wpAny_mono h₁ (fun env s₂ h₂ => wpAny_bind (wpAny_enterFrame h₂.1 hroom
    (wpAny_pure ⟨env, rfl, h₂.2⟩))) fun _ _ h' => h')) fun _ _ h' => h')
theorem codeG_func {env : Env}
    (h : wpG (model prog w) (A.deeper env) (execs body env) (fun f s' => R (.ok (.ret (match f with | .ret v => v | _ => .none))) s') (fun _ _ => False) s) : codeG (model prog w) A (.func body env) R s := by
  refine codeG_of_tree ?_
  show wpG _ (A.deeper env) (do point; match ← (execs body env).onRaise (leaving env) with | .ret v => ret v | _ => ret .none) _ _ s
  refine wpG_bind (wpG_of (wpAny_point (wpG_bind (wpG_mono (wpG_onRaise (E := fun _ _ => False) h) (fun f s' h' => ?_) fun _ _ h' => h'.elim))))
  cases f <;> exact wpG_pure h'
theorem codeG_function {a : Addr} {o : Obj} {fd : FuncData} (hroom : A.depth < recursionLimit)
    (ho : s.heap.get? a = some o) (hd' : o.data = .func fd) (hco : fd.scope.isCoroutine = false) (hgen : fd.scope.isGenerator = false) (hbody : fd.body = .stmts body) (hcd : s.heap.CodeRec fd.code fd.qualname)
    (h : wpAny (model prog w) A.in1 (bindArgs fd args) (fun binds s₁ => wpAny (model prog w) A.in1 (newFunctionEnv fd.scope fd.globals fd.closure binds (fd.qualname ++ ".<locals>.") (some a) fd.code none fd.builtins)
      (fun env s₂ => s₂.heap.NoLimit ∧ codeG (model prog w) A (.func body env) R s₂) (fun e s' => R (.error e) s') s₁) (fun e s' => R (.error e) s') s) :
    codeG (model prog w) A (.call (.ref a) args) R s := by
  refine codeG_of_tree ?_
  show wpG _ A.in1 (callAny (.ref a) args) _ _ s
  refine wpG_of (wpAny_mono (callTree (P := fun env s₂ => codeG (model prog w) A (.func body env) R s₂) hroom ho hd' hco hgen hbody hcd h) (fun fin s' hf => ?_) fun _ _ x => x)
  obtain ⟨env, rfl, hc⟩ := hf
  exact ⟨rfl, rfl, hc⟩
theorem defG (B : Below A₀ base outer h₀) (F : Fr h₀ L s.heap m) (X₀ : K.In h₀) (N : News h₀ L s.heap news) (T : Top p loose mean mg mb h₀) (hA : A.frames = some (env :: outer)) (hf : env.frame = some L) (hke : env.scope.kind = .function)
    (ho : K.lookup f = some ⟨oc, od, .func (fnOf name qual params body scope dV kV doc pm an cdv ct), osl⟩) (hcd : codeIn K cdv qual = true) (hroom : A.depth < recursionLimit)
    (hbind : BindsTo s (fnOf name qual params body scope dV kV doc pm an cdv ct) args binds) (hloc : ∀ y ∈ binds, scope.names.lookup y.1 = some .local)
    (h : ∀ g L' h₁, Fr h₀ L g m → Fr g L' h₁ (fun y => binds.reverse.lookup y) → News g L' h₁ news → Below A base (env :: outer) g → K.In g → Top p loose mean mg mb g →
      wpG (model prog w) (A.deeper (envOf qual scope L' f cdv)) (execs body (envOf qual scope L' f cdv))
        (fun fl s' => LeaveK h₀ L m g R (match fl with | .ret v => v | _ => .none) s') (fun _ _ => False) { s with heap := h₁, toks := s.toks + binds.length })
    (hco : scope.isCoroutine = false) (hgen : scope.isGenerator = false) (hk : scope.kind = .function)
    (hcell : ∀ x ∈ scope.names, x.2 ≠ .cell) : codeG (model prog w) A (.call (.ref f) args) R s := by
  obtain ⟨FG, BG, st, lv⟩ := groundX (R := R) B F N hA hf hke
  refine codeG_function (fd := fnOf name qual params body scope dV kV doc pm an cdv ct) hroom ((X₀.keeps F.keep) _ _ ho) rfl hco hgen rfl (codeRec_of (X₀.keeps F.keep) hcd) (hbind _ _ _ _ ?_)
  refine wpAny_newFunctionEnv hcell hloc (fun h₁ hns₁ hsb₁ => ⟨(T.nolimit.keeps F.keep).fresh _ hsb₁, codeG_func ?_⟩) hk
  have hk₁ : ∀ b o, s.heap.get? b = some o → h₁.get? b = some o := fun b o e => hsb₁.extBut b o (Nat.ne_of_lt (Heap.lt_size e)) (Heap.get?_push_of_some _ e)
  exact wpG_mono (h _ s.heap.objs.size h₁ FG ⟨hns₁, fun b o e => hk₁ b o (of_hideAll _ e), Nat.le_of_eq (hideAll_size _ _)⟩
    (fun q hq => ⟨hk₁ _ _ (N q hq).1, Nat.ne_of_lt (Heap.lt_size (N q hq).1), hideAll_none _ (List.mem_map_of_mem hq)⟩) BG (X₀.keeps st) (T.keeps st)) (fun fl s' hl => lv _ _ hl) fun _ _ y => y
theorem defCG (B : Below A₀ base outer h₀) (F : Fr h₀ L s.heap m) (X₀ : K.In h₀) (N : News h₀ L s.heap news) (T : Top p loose mean mg mb h₀) (hA : A.frames = some (env :: outer)) (hf : env.frame = some L) (hke : env.scope.kind = .function)
    (ho : K.lookup f = some ⟨oc, od, .func (fnOf name qual params body scope dV kV doc pm an cdv ct), osl⟩) (hcd : codeIn K cdv qual = true) (hroom : A.depth < recursionLimit)
    (hbind : BindsTo s (fnOf name qual params body scope dV kV doc pm an cdv ct) args binds) (hkind : (binds.all fun y => scope.names.lookup y.1 == some .local || scope.names.lookup y.1 == some .cell) = true)
    (hnd : ((cellsFrom 0 scope.names []).map (·.1)).Nodup)
    (h : ∀ g L' h₁ tk cells, Fr h₀ L g m → Fr g L' h₁ (bindL (envOfC qual scope L' f cdv).kindOf binds fun _ => none) → News g L' h₁ (cells ++ news) →
      CellsAre (bindC (envOfC qual scope L' f cdv).kindOf binds fun _ => none) (cellsFrom (L' + 1) scope.names []) cells → Below A base (env :: outer) g → K.In g → Top p loose mean mg mb g → (∀ p ∈ news, p.1 < L') →
      wpG (model prog w) (A.deeper (envOfC qual scope L' f cdv)) (execs body (envOfC qual scope L' f cdv))
        (fun fl s' => LeaveK h₀ L m g R (match fl with | .ret v => v | _ => .none) s') (fun _ _ => False) { s with heap := h₁, toks := tk })
    (hco : scope.isCoroutine = false) (hgen : scope.isGenerator = false) (hk : scope.kind = .function) : codeG (model prog w) A (.call (.ref f) args) R s := by
  obtain ⟨FG, BG, st, lv⟩ := groundX (R := R) B F N hA hf hke
  refine codeG_function (fd := fnOf name qual params body scope dV kV doc pm an cdv ct) hroom ((X₀.keeps F.keep) _ _ ho) rfl hco hgen rfl (codeRec_of (X₀.keeps F.keep) hcd) (hbind _ _ _ _ ?_)
  refine wpAny_newFunctionEnv_cells hk (kindsX hkind _) fun env' he s' x => ?_
  subst he
  refine ⟨((T.nolimit.keeps F.keep)).keeps x.toInCall.keep, codeG_func ?_⟩
  obtain ⟨h₁, tk, rfl, _⟩ := x.done
  have hk₁ := x.toInCall.keep
  obtain ⟨cells, NC, Y⟩ := Cl.news (h₀ := s.heap) (Nat.le_refl _) fun n c hm => ⟨x.cell n c (lookup_of_mem_nodup (cellsFrom_names scope.names 0 (s.heap.objs.size + 1) [] [] rfl ▸ hnd) hm), x.above n c hm⟩
  refine wpG_mono (h _ s.heap.objs.size h₁ tk cells FG ⟨x.toInCall.ns, fun b o e => hk₁ b o (of_hideAll _ e), Nat.le_of_eq (hideAll_size _ _)⟩ (fun q hq => ?_) Y BG (X₀.keeps st) (T.keeps st) (fun q hq => Heap.lt_size (N q hq).1)) (fun fl s' hl => lv _ _ hl) fun _ _ y => y
  rcases List.mem_append.mp hq with hq | hq
  · refine ⟨(NC q hq).1, (NC q hq).2.1, ?_⟩
    cases e : (hideAll s.heap (news.map (·.1))).get? q.1 with
    | none => rfl
    | some o => have := of_hideAll _ e; rw [(NC q hq).2.2] at this; cases this
  · exact ⟨hk₁ _ _ (N q hq).1, Nat.ne_of_lt (Heap.lt_size (N q hq).1), hideAll_none _ (List.mem_map_of_mem hq)⟩

/- the for over a range -/
theorem codeG_loop' {M : Model} {c : Code} (hq : c.quiet = true) (I : Nat → Shared → Prop)
    (turn : ∀ n s, I n s → wpG M (A.under c) (M.den c)
      (fun fin s' => match fin with | .done f => R (.ok f) s' | .again c' => (c' = c ∧ ∃ m, m < n ∧ I m s') ∨ (c'.quiet = true ∧ okCode c' = true ∧ codeG M A c' R s')) (fun e s' => R (.error e) s') s)
    (hok : okCode c = true) (n : Nat) (h : I n s) : codeG M A c R s := by
  induction n using Nat.strongRecOn generalizing s with
  | ind n ih =>
    refine codeG_of_tree (wpG_mono (turn n s h) (fun fin s' hf => ?_) fun _ _ h' => h')
    cases fin with
    | done f => exact hf
    | again c' =>
      rcases hf with ⟨rfl, m, hm, hI⟩ | hf
      · exact ⟨hq, hok, ih m hm hI⟩
      · exact hf
theorem codeG_forLoop {target : Expr} {it : Value} {env : Env} (I : Nat → Shared → Prop)
    (turn : ∀ n s, I n s → wpG (model prog w) A (pyNext it) (fun r s₁ => match r with
      | none => R (.ok .next) s₁
      | some v => wpG (model prog w) A (assign target env v) (fun _ s₂ => wpG (model prog w) A (execs body env) (fun f s₃ => match f with
          | .next | .cont => ∃ m, m < n ∧ I m s₃
          | .brk => R (.ok .next) s₃
          | .ret v => R (.ok (.ret v)) s₃) (fun _ _ => False) s₂) (fun _ _ => False) s₁) (fun _ _ => False) s)
    (n : Nat) (h : I n s) (ht : ∀ v, letOwnedTupleGo target it v = pure () := by intro _; rfl) : codeG (model prog w) A (.forLoop target it body [] env) R s := by
  refine codeG_loop' rfl I (fun n s hI => ?_) rfl n h
  show wpG _ _ ((forTurn target it body [] env).onRaise (fun x => do noteFrame x env; theTreesLotGoes x)) _ _ s
  refine wpG_onRaise ?_
  simp only [forTurn]
  refine wpG_bind (wpG_standAt (wpG_bind (wpG_onRaise (wpG_mono (turn n s hI) (fun r s₁ h₁ => ?_) fun _ _ h' => h'))))
  cases r with
  | none => exact wpG_pure (.inr ⟨rfl, rfl, codeG_of (codeAny_block (wpAny_execs_nil h₁))⟩)
  | some v =>
    dsimp only
    rw [ht v]
    refine wpG_bind (wpG_pure ?_)
    refine wpG_bind (wpG_mono h₁ (fun _ s₂ h₂ => wpG_bind (wpG_mono h₂ (fun f s₃ h₃ => ?_) fun _ _ h' => h')) fun _ _ h' => h')
    cases f with
    | next => exact wpG_pure (.inl ⟨rfl, h₃⟩)
    | cont => exact wpG_pure (.inl ⟨rfl, h₃⟩)
    | brk => exact wpG_pure h₃
    | ret v => exact wpG_pure h₃
theorem wpG_runOwn {M : Model} {c : Code} {env : Env} {Q : Flow → Shared → Prop} (hc : codeG M (A.mark none) c (fun r s' => match r with | .ok f => Q f s' | .error _ => False) s) (ok : okCode c = true) : wpG M A (runOwn c env none) Q E s := by
  unfold runOwn
  exact wpG_onRaise (wpG_run (E := fun _ _ => False) (codeG_mono hc fun r s' h => by cases r <;> exact h) ok)
theorem wpG_For {M : Model} {target iter : Expr} {pos : Pos} {env : Env} {Q : Flow → Shared → Prop}
    (h : wpAny M A (eval iter env) (fun x s₁ => wpAny M A (pyIter x) (fun it s₂ => codeG M A (.forLoop target it body [] env) (fun r s' => match r with | .ok f => Q f s' | .error _ => False) s₂) E s₁) E s)
    (hh : A.handled = none) (hs : ∀ x, foldedSetIterable iter env x = pure x := by intro _; rfl) : wpG M A (exec (.For target iter body [] pos) env) Q E s := by
  have hm : A.mark none = A := by cases A; simp [Around.mark]
  rw [PySem.exec_For]
  refine wpG_bind (wpG_standAt (wpG_bind (wpG_of (wpAny_mono h (fun x s₁ h₁ => ?_) fun _ _ x => x))))
  rw [hs x]
  refine wpG_bind (wpG_pure (wpG_bind (wpG_standAt (wpG_bind (wpG_of (wpAny_holding (wpAny_mono h₁ (fun it s₂ h₂ => ?_) fun _ _ x => x)))))))
  exact wpG_runOwn (by rw [hm]; exact h₂) rfl
end
end Mine
namespace Mine
section
variable {prog : Program} {w : World} {A : Around} {E : Value → Shared → Prop} {s : Shared} {h₀ : Heap} {env : Env} {body : List Stmt}
def TurnEnd (h₀ : Heap) (L : Addr) (I : Addr × Obj) (J : (Str → Option Value) → List (Addr × Obj) → Prop) (s₁ : Shared) (Q : Flow → Shared → Prop) (f : Flow) (s₂ : Shared) : Prop :=
  match f with
  | .ret v => Q (.ret v) s₂
  | .brk => Q .next s₂
  | _ => ∃ h' tk m' news', s₂ = { s₁ with heap := h', toks := tk } ∧ Fr h₀ L h' m' ∧ News h₀ L h' (I :: news') ∧ (∀ p ∈ news', p.1 ≠ I.1) ∧ J m' news'
theorem forG_range {x : Str} {px : Pos} {r : Addr} {b : Int} {t u v : Tok} {n : Nat} {m₀ : Str → Option Value} {news₀ : List (Addr × Obj)} {Q : Flow → Shared → Prop}
    (hh : A.handled = none) (hr : IsRange s.heap r 0 b 1 t u v) (hsmall : Builtin.Range.small 0 b 1 = true) (hn : Builtin.Range.rangeSize 0 b 1 = (n : Int))
    (hx : env.kindOf x = some .local) (hp : (env.scope.kind == .class || (env.scope.kind == .module && env.locals != env.globals)) = false)
    (F : Fr h₀ env.locals s.heap m₀) (N : News h₀ env.locals s.heap news₀) (J : Nat → (Str → Option Value) → List (Addr × Obj) → Prop) (h0 : J 0 m₀ news₀)
    (turn : ∀ (i : Nat) t m₁ news₁ h tk (I : Addr) (it : Obj), i < n → J i m₁ news₁ → (∀ p ∈ news₁, p.1 ≠ I) → Fr h₀ env.locals h (fun y => if y = x then some (.int (i : Int) t) else m₁ y) → News h₀ env.locals h ((I, it) :: news₁) →
      it.cls = .type "range_iterator" →
      wpG (model prog w) A (execs body env) (TurnEnd h₀ env.locals (I, it) (J (i + 1)) { s with heap := h, toks := tk } Q) (fun _ _ => False) { s with heap := h, toks := tk })
    (done : ∀ m₁ news₁ h tk, J n m₁ news₁ → Fr h₀ env.locals h m₁ → News h₀ env.locals h news₁ → Q .next { s with heap := h, toks := tk }) :
    wpAny (model prog w) A (pyIter (.ref r)) (fun it s₂ => codeG (model prog w) A (.forLoop (.Name x px) it body [] env) (fun r s' => match r with | .ok f => Q f s' | .error _ => False) s₂) E s := by
  refine wpAny_pyIter_range hr hsmall ?_
  have W := Walks.range (prog := prog) (w := w) hh s.heap.objs.size 0 1 n
  have hnew := next_is_new F
  have hLI : env.locals ≠ s.heap.objs.size := Nat.ne_of_lt F.ns.lt
  refine codeG_forLoop (fun k s' => ∃ h' tk m' news' i, s' = { s with heap := h', toks := tk } ∧ IsRangeIter h' s.heap.objs.size (0 + (i : Nat) * 1) ((n : Int) - (i : Nat)) 1 ∧ Fr h₀ env.locals h' m' ∧ News h₀ env.locals h' news' ∧
    (∀ p ∈ news', p.1 ≠ s.heap.objs.size) ∧ J i m' news' ∧ i ≤ n ∧ k = n + 1 - i) ?_ (n + 1)
    ⟨_, _, m₀, news₀, 0, rfl, (by show IsRangeIter _ _ _ _ _; rw [hn]; simpa using Heap.get?_push_size _ rfl), F.push _, (fun p hp => ⟨Heap.get?_push_of_some _ (N p hp).1, (N p hp).2⟩),
      (fun p hp e => absurd (Heap.lt_size (N p hp).1) (e ▸ Nat.lt_irrefl _)), h0, Nat.zero_le _, rfl⟩
  rintro k s' ⟨h', tk, m', news', i, rfl, hst, F', N', hne, hJ, hi, rfl⟩
  have next : ∀ h₁ : Heap, (∀ b o, b ∉ [s.heap.objs.size] → h'.get? b = some o → h₁.get? b = some o) → Fr h₀ env.locals h₁ m' ∧ News h₀ env.locals h₁ news' := fun h₁ hk₁ =>
    ⟨⟨F'.ns.at' fun o e => hk₁ _ o (by simpa using hLI) e, fun b o e => hk₁ b o (fun hb => by rw [List.mem_singleton.mp hb, hnew] at e; cases e) (F'.keep b o e), F'.above⟩,
      fun p hp => ⟨hk₁ _ _ (by simpa using hne p hp) (N' p hp).1, (N' p hp).2⟩⟩
  by_cases hlt : i < n
  · refine wpG_of (W.item i _ _ _ hlt hst fun v h₁ tk₁ hP hst₁ hk₁ => ?_)
    obtain ⟨t, rfl⟩ := hP
    obtain ⟨F₁, N₁⟩ := next h₁ hk₁
    refine wpG_of (wpAny_assign_Name (wpAny_storeName_local hx F₁.ns (fun h₂ hn₂ hs₂ => ?_) hp))
    have F₂ := F₁.set hn₂ hs₂
    have e1 : (0 : Int) + (i : Int) * 1 = (i : Int) := by omega
    rw [e1] at F₂
    have hI₂ : h₂.get? s.heap.objs.size = some _ := (hs₂.2 _ hLI.symm).trans hst₁
    have N₂ : News h₀ env.locals h₂ ((s.heap.objs.size, _) :: news') := fun p hp => by
      rcases List.mem_cons.mp hp with rfl | hp
      · exact ⟨hI₂, hLI.symm, hnew⟩
      · exact N₁.set hs₂ p hp
    refine wpG_mono (turn i t m' news' h₂ _ s.heap.objs.size _ hlt hJ hne F₂ N₂ rfl) (fun f s₃ h₃ => ?_) fun _ _ x => x
    have fin : (∃ h' tk m'' news'', s₃ = { s with heap := h', toks := tk } ∧ Fr h₀ env.locals h' m'' ∧ News h₀ env.locals h' ((s.heap.objs.size, { cls := .type "range_iterator", data := .fields #[rawInt (0 + ((i + 1 : Nat) : Int) * 1), rawInt ((n : Int) - ((i + 1 : Nat) : Int)), rawInt 1] }) :: news'') ∧ (∀ p ∈ news'', p.1 ≠ s.heap.objs.size) ∧ J (i + 1) m'' news'') →
        ∃ m, m < n + 1 - i ∧ ∃ h' tk m' news' i, s₃ = { s with heap := h', toks := tk } ∧ IsRangeIter h' s.heap.objs.size (0 + (i : Nat) * 1) ((n : Int) - (i : Nat)) 1 ∧ Fr h₀ env.locals h' m' ∧ News h₀ env.locals h' news' ∧
          (∀ p ∈ news', p.1 ≠ s.heap.objs.size) ∧ J i m' news' ∧ i ≤ n ∧ m = n + 1 - i := by
      rintro ⟨h₃', tk₃, m₃, news₃, rfl, F₃, N₃, hne₃, hJ₃⟩
      exact ⟨n + 1 - (i + 1), by omega, h₃', tk₃, m₃, news₃, i + 1, rfl, (N₃ _ (.head _)).1, F₃, fun p hp => N₃ p (.tail _ hp), hne₃, hJ₃, hlt, rfl⟩
    cases f with
    | ret v => exact h₃
    | brk => exact h₃
    | next => exact fin h₃
    | cont => exact fin h₃
  · have e : i = n := by omega
    subst e
    refine wpG_of (W.done _ _ _ hst fun h₁ tk₁ hk₁ => ?_)
    obtain ⟨F₁, N₁⟩ := next h₁ hk₁
    exact done m' news' h₁ tk₁ hJ F₁ N₁
end
end Mine
namespace Mine
abbrev WalkG (q : Program) (loose : List Str) (XP : (Str → Option Value) → Heap → Prop) (YP : World → Heap → Prop) (r : RowW) (d : DefRec) (kwd : List (Str × Expr)) : Prop :=
  ∀ (w : World) (s₀ s₁ : Shared) (mg mb : Str → Option Value), Ground q loose r.records XP w s₀ mg mb s₁.heap → YP w s₁.heap → ∀ (a : Addr) (o : Obj) (pm cd doc dV kV : Value), s₁.heap.get? a = some o →
    o.data = .func { docDef d.name d.params d.body d.scope pm cd doc with defaults := dV, kwdefaults := kV } → s₁.heap.CodeRec cd d.name → Dflts mg s₁.heap d.params kwd dV kV → mg d.name = some (.ref a) → s₁.gens = #[] →
    ∀ (args : List WData) (vals : List Value) (as : List Addr), r.claim.pre args = true → WData.layableAll args = true → ReadsAllW r.records (classAt s₀.heap) s₁.heap vals args as → WellAll w.params s₁.heap vals args → (∀ a ∈ as, (a == sysModules) = false) →
      wpG (model r.prog w) callerA (PySem.call (.ref a) vals) (fun v s' => GoodWG r.claim (classAt s₀.heap) (ExcName.means s₀.heap) args s₁ (.ok (.ret v)) s') (fun _ _ => False) s₁

theorem callerEnds {prog : Program} {w : World} {t : Sem Fin} {s : Shared} {R : Result → Shared → Prop} (hreg : s.asleep)
    (h : wpG (model prog w) callerA t (fun fin s' => ∃ f, fin = .done f ∧ (R (.ok f) s' ∧ leftWithCleanup s'.gens = false)) (fun _ _ => False) s) :
    ∃ n r s' s'', runN (denote table) prog w n s ⟨t, .builtin "claim.caller" {}, default, []⟩ = .halted (outcomeOf r) s' ∧
      schedN (denote table) prog w n (.single s ⟨t, .builtin "claim.caller" {}, default, []⟩) = .halted (outcomeOf r) s' ∧ s'.forget = s''.forget ∧ R r s'' := by
  have good : Good (⟨.builtin "claim.caller" {}, none, none, [], none⟩ : PySem.Ctx) := ⟨by decide +kernel, fun _ hx => nomatch hx⟩
  have hw : Sem.wp (model prog w) ⟨.builtin "claim.caller" {}, none, none, [], none⟩ t
      (Sem.finPost (model prog w) ⟨.builtin "claim.caller" {}, none, none, [], none⟩ fun r s' => R r s' ∧ leftWithCleanup s'.gens = false) (fun e _ s' => R (.error e) s' ∧ leftWithCleanup s'.gens = false) default s :=
    Sem.wp_mono _ _ t (fun fin p' s' h' => by obtain ⟨f, rfl, hf⟩ := h'; exact hf) (fun _ _ _ h' => h'.elim) default s (h _ default caller_in good)
  obtain ⟨n, r, s₁, s₂, hs, hn, hfo, hR⟩ := wp_halts_full (M := model prog w) (R := R) hreg hw
  exact ⟨n, r, s₂, s₁, hn, hs, hfo, hR⟩

theorem callFromG {c : ClaimW} {tree : List Value → Sem Fin} {w : World} {s : Shared} {free : Addr → Prop} {gens : Prop} {kept : Heap → Prop} (hz : s.asleep) (hgens : s.gens = #[])
    (hspec : ∀ args, c.pre args = true → WData.layableAll args = true → ∀ ord : List DictEntry → List DictEntry, (∀ l, (ord l).Perm l) →
      ∃ vs s₁, layAllW c.records (classAt s.heap) w.params ord args s = some (vs, s₁) ∧
        wpG (model c.prog w) callerA (tree vs) (fun fin s' => ∃ f, fin = .done f ∧ (c.Ends s args vs s₁ (.ok f) s' ∧ s'.os = s.os ∧ AllBare s'.gens ∧ kept s'.heap)) (fun _ _ => False) s₁) :
    c.CallFrom (fun vs => ⟨tree vs, .builtin "claim.caller" {}, default, []⟩) w free gens kept s := by
  intro args hpre hlay ord hord
  obtain ⟨vs, s₁, hlaid, hcode⟩ := hspec args hpre hlay ord hord
  have rest := layAllW_rest _ _ _ hlaid
  obtain ⟨k, r, s', s'', hrun, hsched, hfo, hends, hos, hkp⟩ := callerEnds (prog := c.prog) (w := w) (t := tree vs) (s := s₁) (R := fun r s' => c.Ends s args vs s₁ r s' ∧ s'.os = s.os ∧ kept s'.heap)
    (Shared.asleep_of_life rest.2.2.2 hz) (wpG_mono hcode (by rintro fin s' ⟨f, e, h1, h2, h3, h4⟩; exact ⟨f, e, ⟨h1, h2, h4⟩, leftWithCleanup_false_of_bare h3⟩) fun _ _ x => x)
  obtain ⟨eh, _, _, eo, _⟩ := Shared.forget_eq hfo
  replace hends := hends.congr eh
  replace hkp : kept s'.heap := by rw [eh]; exact hkp
  rw [← eo] at hos
  have hlife : s'.heap.life = s.heap.life := (runN_life _ _ _ hrun).trans rest.2.2.2
  refine ⟨vs, s₁, hlaid, k, _, s', hsched, ?_, (fun _ i x hx => by rw [hgens] at hx; simp at hx), hkp, by rw [hlife], Shared.rest_eq hos⟩
  rcases hends with ⟨v, rfl, d1, d2, d3, d4, d5⟩ | ⟨e, ob, cls, rfl, d1, d2, d3, d4, d5⟩
  · exact .inl ⟨v, rfl, d1, d2, d3, fun b o y _ => d4 b o y, d5⟩
  · exact .inr ⟨e, ob, cls, rfl, d1, d2, d3, d4, fun b o y _ => d5 b o y⟩
end Mine
theorem Mine.PySem.W.holds_open {r : OpenRow} {q : Program} {loose : List Str} {Xt : Shared → Bool} {XP : (Str → Option Value) → Heap → Prop} {α : Type} {Yf : Shared → α} {Ya : World → α} {YP : World → Heap → Prop} {d : DefRec} {kwd : List (Str × Expr)} {N : Nat}
    (left : LeftO r.prog q loose Xt Yf Ya N) (hY : ∀ w s, Yf s = Ya w → YP w s.heap) (hYk : ∀ w h h', YP w h → (∀ b o, h.get? b = some o → h'.get? b = some o) → YP w h')
    (hX : ∀ s, Xt s = true → XP (s.heap.nsMap mainGlobals) s.heap) (hXk : ∀ mg h h', XP mg h → (∀ b o, h.get? b = some o → h'.get? b = some o) → XP mg h')
    (hdef : defOf q r.name = some (d, kwd)) (hp : r.prog.theDef r.name = some (d.params, d.body, d.scope)) (hk : kwWritten? d.params.kwonlyargs d.params.kw_defaults = some kwd) (hRf : ∀ s, Xt s = true → RecFacts r.records s.heap) (hwr : (!r.writes || r.records.isEmpty) = true)
    (k1 : r.wellSaid = true) (ok : (chainsOk q && opensWell r.prog && (frees r.toRowW && r.within.isEmpty)) = true) (hb : r.prog.bare) (hw : r.toRowW.promised)
    (call : Mine.WalkG q loose XP YP r.toRowW d kwd) : r.Holds := by
  refine ⟨k1, hw, ?_⟩
  obtain ⟨ok1, ok2⟩ := Bool.and_eq_true_iff.mp ok
  obtain ⟨hch, o1⟩ := Bool.and_eq_true_iff.mp ok1
  obtain ⟨k5, k6⟩ := Bool.and_eq_true_iff.mp ok2
  obtain ⟨hsame, hu, ha, hap, hm⟩ := frees_parts k5
  refine ⟨⟨hb, o1, by show r.makers.map _ = []; rw [hm]; rfl⟩, hw.witness, fun w => ⟨(left.behind hX hch w).1, fun s' hs' => ?_⟩⟩
  obtain ⟨s₀, hf, hg0, s, hT, hz, hgens, hg, GG, y⟩ := (left.behind (XP := fun mg h => XP mg h ∧ RecFacts r.records h) (fun s hs => ⟨hX s hs, hRf s hs⟩) hch w).2 s' hs'
  have G0 : Ground q loose [] XP w s (s.heap.nsMap mainGlobals) (s.heap.nsMap builtinsNs) s.heap := ⟨GG.T, GG.B, GG.D, GG.TE, GG.TD, GG.W, GG.X.1, GG.cls, GG.has, GG.apart, GG.once, GG.K⟩
  have RF := GG.X.2
  have pinned : ∀ n ∈ (if r.pinned then [r.name] else []), isTheDefsW r.prog s.heap n := by
    intro n hn
    obtain rfl : n = r.name := by split at hn <;> simp_all
    exact pinned_of_view hg G0 hdef hp hk
  refine ⟨s₀, hf, hg0, s, hT, pinned, RF.1, RF.2.1, ?_⟩
  have hgens : s.gens = #[] := Array.eq_empty_of_size_eq_zero (beq_iff_eq.mp hgens)
  have G : Ground q loose r.records XP w s _ _ s.heap := RF.ground G0
  refine Mine.callFromG (c := r.toRowW.claim) (tree := fun vs => do match ← nsGet mainNs r.name with
      | some f => do ret (← PySem.call f vs)
      | none => unsupported "claim.caller:no-such-global") hz hgens fun args hpre hlay ord hord => ?_
  obtain ⟨⟨vs, s₁⟩, hlaid⟩ := Option.isSome_iff_exists.mp (layAllW_isSome (P := w.params) (ord := ord) G.has args r.args s (pre_splitW hpre).1)
  have keeps := layAllW_keeps _ _ _ hlaid
  have hal := layAllW_rest _ _ _ hlaid
  obtain ⟨as, hrd, hin, hold⟩ := reads_layAllW hord _ _ _ hlaid hlay s₁.heap (fun _ _ e => e)
  have La : Laid r.records w s s₁ args vs as := ⟨⟨ord, hord, hlaid⟩, hrd, hin, hold, keeps, hal.1.trans hgens, hal.2.2.1⟩
  have G₁ := G.keeps hXk keeps
  have hi := ident_freeW hu ha hap
  have hwi : r.toRowW.claim.within = [] := List.isEmpty_iff.mp k6
  obtain ⟨a, o, pm, cd, doc, dV, kV, h1, h2, h3, h4, h5⟩ := G₁.fn hdef
  have hname := defOf_name hdef
  have walk := call w s s₁ _ _ G₁ (hYk _ _ _ (hY w s y) keeps) a o pm cd doc dV kV h2 h3 h4 h5 (hname ▸ h1) La.gens args vs as hpre hlay La.reads La.well (La.low G.low)
  refine ⟨vs, s₁, hlaid, Mine.wpG_bind (Mine.wpG_of (wpAny_nsGet G₁.T.g ?_))⟩
  rw [h1]
  refine Mine.wpG_bind (Mine.wpG_mono walk (fun v s' g => Mine.wpG_pure ⟨_, rfl, ?_⟩) fun _ _ x => x)
  have z := g.laid (c := r.toRowW.claim) hsame hwi hi La
  exact ⟨z.1, z.2.1, z.2.2, fun q => ⟨namesKept_of hT hg r.keeps keeps g.2.1.old, noTable hwr q⟩⟩
namespace Mine
def keptOf : List Stmt → List Stmt
  | [s0, _, s2, s3, s4, s5, _, s7, s8, s9, s10, s11, s12, s13, _, s15, s16, _, s18, s19, s20, s21, s22, s23, s24] => [s0, s2, s3, s4, s5, s7, s8, s9, s10, s11, s12, s13, s15, s16, s18, s19, s20, s21, s22, s23, s24]
  | l => l
def myView : Program := { PySem.Challenge.rw_tk0092_01.row.toRowW.prog with main := { PySem.Challenge.rw_tk0092_01.row.toRowW.prog.main with body := keptOf PySem.Challenge.rw_tk0092_01.row.toRowW.prog.main.body } }
theorem leftBoot {p q : Program} {loose : List Str} {Xt : Shared → Bool} {α : Type} {Yf : Shared → α} {Ya : World → α} {N : Nat}
    (e : opening p = plainProg p.main.scope.names) (hN : Nat.ble 600 N = true) (f : ∀ s, fenceModules? p s = some s)
    (h : ∀ w : World, (fun os => (topFrom treeTable p w N ⟨boot_heap w.params, Array.mk [], boot_drawn, boot_toks, os⟩).map (fun s => (openSeen q loose (importedModules p.main.body) Xt true s, Yf s))) = fun _ => some (openGood q loose, Ya w)) :
    LeftO p q loose Xt Yf Ya N := fun w => by
  obtain ⟨s, hs, hv⟩ := Option.map_eq_some_iff.mp (boot_open e hN f w)
  unfold openEnds
  rw [hs]
  simp only [Prod.mk.injEq] at hv
  obtain ⟨h1, h2, h3, h4⟩ := hv
  have e' : s = ⟨boot_heap w.params, Array.mk [], boot_drawn, boot_toks, s.os⟩ := by
    rw [← h1, ← h2, ← h3, ← h4]
  rw [e']
  exact congrFun (h w) s.os
set_option hygiene false in
local macro_rules | `(tactic| o_head $H) => `(tactic| (
  refine Mine.PySem.W.holds_open (q := Mine.myView) (loose := [PySem.Str.ofString "BIGGEST_VARINT"]) (Xt := fun s => xlAt Mine.myView [(PySem.Str.ofString "BIGGEST_VARINT", WData.int 4611686018427387903)] s && recOk (RowW.records PySem.Challenge.rw_tk0092_01.row.toRowW) s) (XP := XL Mine.myView [(PySem.Str.ofString "BIGGEST_VARINT", WData.int 4611686018427387903)]) (Yf := Hook.obs $H) (Ya := Hook.val $H) (YP := Hook.says $H) (N := 3498) ?hl (Hook.of $H) (Hook.keeps $H) (fun s e => xl_of s (Bool.and_eq_true_iff.mp e).1) XL.keeps (by rfl) (by rfl) (by rfl) (fun s e => recFacts_of (Bool.and_eq_true_iff.mp e).2) (by rfl) (by first | assumption | decide +kernel) (by decide +kernel) ⟨rfl, rfl, rfl, rfl, rfl, by decide +kernel⟩ ?hw ?hc
  (case hl => (refine Mine.leftBoot (by rfl) (by decide) (fun _ => by rfl) (fun w => ?hk); (case hk => (unfold topFrom; rw [PySem.W.Fast.te14082659384304107361, PySem.W.Fast.te14364793385576792824, PySem.W.Fast.te4187177175401517315]; kernel_rfl))))))
set_option maxRecDepth 100000 in
set_option maxHeartbeats 8000000 in
open_top hd for PySem.Challenge.rw_tk0092_01
end Mine
section
set_option maxRecDepth 100000
namespace Mine
theorem mro_ba : mroOf (.type "bytearray") = pure [.type "bytearray", .type "object"] := by rw [mroOf_type]; kernel_rfl
theorem lookup_ba_new : typeLookup (.type "bytearray") "__new__" = pure (some (.builtin "bytearray.__new__")) := by rw [typeLookup_type, builtinLookup_eq_fast]; kernel_rfl
theorem slot_ba_init : Slot "bytearray" "__init__" "bytearray.__init__" :=
  .of (owner := "bytearray") (n := "__init__") (by rw [typeLookup_type, builtinLookup_eq_fast]; kernel_rfl) (by decide +kernel) (by decide +kernel) (by decide +kernel)
    (by first | exact .inl (by decide +kernel) | exact .inr (by decide +kernel)) (by rw [isSubtype_type]; kernel_rfl)
theorem called_ba : TypeCalled "bytearray" "bytearray.__new__" "bytearray.__init__" :=
  ⟨by decide +kernel, by decide +kernel, ⟨_, _, mro_ba⟩, madeBy_type mro_ba lookup_ba_new (by decide +kernel), by decide +kernel, by rw [isSubtype_type]; kernel_rfl, slot_ba_init⟩
theorem typeCall_ba (a : Value) : checkTypeCall "bytearray" ⟨[a], []⟩ = pure () := by kernel_rfl
theorem newCall_ba (a : Value) : checkBuiltinCall "bytearray.__new__" ⟨[.type "bytearray", a], []⟩ = pure () := by kernel_rfl
theorem entry_ba_new : entryFor table "bytearray.__new__" = some Builtin.«list.__new__» := entryFor_alias (id' := "list.__new__") (by kernel_rfl) rfl (by decide +kernel) (by kernel_rfl)
theorem entry_ba_init : entryFor table "bytearray.__init__" = some Builtin.«bytearray.__init__» := entryFor_of_tree (by kernel_rfl)
theorem args_ba_init (a b : Value) : argsOk "bytearray.__init__" ⟨[a, b], []⟩ := by unfold argsOk; kernel_rfl
theorem plain_ba_new : plainId "bytearray.__new__" = true := by decide +kernel
set_option maxHeartbeats 4000000 in
theorem owner_ba_new : ("bytearray.__new__".splitOn ".__new__").headD "" = "bytearray" := by simp +decide [String.splitOn, String.splitOnAux]
theorem sub_ba_self : isSubtype (.type "bytearray") (.type "bytearray") = pure true := by rw [isSubtype_type]; kernel_rfl
theorem lookup_ba_rel : typeLookup (.type "bytearray") "__release_buffer__" = pure (some (.builtin "bytearray.__release_buffer__")) := by rw [typeLookup_type, builtinLookup_eq_fast]; kernel_rfl
theorem lookup_int_index : typeLookup (.type "int") "__index__" = pure (some (.builtin "int.__index__")) := by rw [typeLookup_type, builtinLookup_eq_fast]; kernel_rfl
section
variable {prog : Program} {w : World} {A : Around} {E : Value → Shared → Prop} {s : Shared}
theorem code_ba_new (a : Value) {Q₁ : Value → Shared → Prop}
    (h : Q₁ (.ref s.heap.objs.size) { s with heap := s.heap.push { cls := .type "bytearray", data := .bytearray #[] } }) :
    codeAny (model prog w) A (.call (.builtin "bytearray.__new__") ⟨[.type "bytearray", a], []⟩) (wants Q₁ E) s := by
  refine codeAny_of_tree ?_
  show wpAny _ A.in1 (do checkBuiltinCall "bytearray.__new__" ⟨[.type "bytearray", a], []⟩; again (.builtin "bytearray.__new__" ⟨[.type "bytearray", a], []⟩)) _ _ s
  refine wpAny_bind (wpAny_of_eq (newCall_ba a) (wpAny_pure ⟨plainId_quiet plain_ba_new _, codeAny_builtin_stack entry_ba_new rfl fun p st => ?_⟩))
  rw [Around.under_plainId plain_ba_new _]
  have hsub := sub_ba_self
  have hown := owner_ba_new
  obtain ⟨hp, g, d, tk, os⟩ := s
  simp only [hown]
  wp_walk
  exact h
theorem typeCall_tree (n : Int) (t : Tok) : Builtin.«type.__call__» ⟨[.type "bytearray", .int n t], []⟩ = (do
    let obj ← holding [.builtin "bytearray.__new__"] (call (.builtin "bytearray.__new__") [.type "bytearray", .int n t])
    if !(← isInstance obj (.type "bytearray")) then rule "type.call.new-gave-other-type"; return ← ret obj
    match ← holding [obj] (callSpecial? obj "__init__" [.int n t] []) with
    | none => ret obj
    | some r =>
      if r != .none then
        rule "type.call.init-returned-value"
        raiseError "TypeError" s!"__init__() should return None, not '{← typeNameOf r}'"
      ret obj) := by
  have h1 := called_ba.notType
  have h2 := called_ba.canCreate
  have h3 := typeCall_ba (.int n t)
  have h4 := called_ba.made
  unfold Builtin.«type.__call__»
  simp only [h1, h2, h3, h4, mro_ba, pure_bind, Bool.false_eq_true, if_false, List.isEmpty_cons]
  rfl
theorem wpG_stackAny {M : Model} {f : Code × Pos → Bool} (hf : ∀ c p, okCode c = true → f (c, p) = false) {Q : Bool → Shared → Prop} (h : Q false s) : wpG M A (do return (← stack).any f) Q E s := fun Γ p i g => by
  show Q (List.any ((Γ.code, p) :: Γ.below) f) s
  have e : List.any ((Γ.code, p) :: Γ.below) f = false := by
    refine List.any_eq_false.mpr fun x hx => ?_
    have ok : okCode x.1 = true := by
      rcases List.mem_cons.mp hx with rfl | hx
      · exact g.here
      · exact g.deep x hx
    obtain ⟨c, p'⟩ := x
    simpa using hf c p' ok
  exact e ▸ h
theorem wpG_exported {M : Model} {self : Value} {Q : Bool → Shared → Prop} (h : Q false s) : wpG M A (Builtin.Bytes.exported self) Q E s := by
  unfold Builtin.Bytes.exported
  refine wpG_stackAny (fun c p ok => ?_) h
  split
  · rename_i h; cases h; exact absurd (show okId "bytearray.__contains__" = true from ok) (by decide +kernel)
  · rename_i h; cases h; exact absurd (show okId "bytearray.__mod__" = true from ok) (by decide +kernel)
  · rename_i h; cases h; exact absurd (show okId "bytearray.__rmod__" = true from ok) (by decide +kernel)
  · rename_i h; cases h; exact absurd (show okId "_struct.pack_into.held" = true from ok) (by decide +kernel)
  · rename_i h; cases h; exact absurd (show okId "bytearray.find.held" = true from ok) (by decide +kernel)
  · rename_i h; cases h
    have ok1 : okId _ = true := ok
    unfold okId at ok1
    have ok2 := (Bool.and_eq_true_iff.mp ok1).1
    rw [Bool.not_eq_true'] at ok2
    rw [ok2, Bool.and_false]
  · rfl
theorem ends_rel : "bytearray.__release_buffer__".endsWith ("." ++ "__release_buffer__") = true := by decide +kernel
theorem drop_rel : "bytearray.__release_buffer__".dropRight ("__release_buffer__".length + 1) = "bytearray" := by decide +kernel
theorem ownRelease_ba {x : Addr} {Q : Bool → Shared → Prop} (hT : s.TypeIs (.ref x) "bytearray") (h : Q false s) : wpAny (model prog w) A (Builtin.Bytes.ownRelease (.ref x)) Q E s := by
  have h1 := lookup_ba_rel
  have h2 := sub_ba_self
  unfold Builtin.Bytes.ownRelease Builtin.Bytes.slotIsOwn
  wp_walk
  rw [ends_rel, drop_rel]
  wp_walk
  exact h
theorem bindOpt_ba (v : Value) : Builtin.Bytes.bindOptional "bytearray.__init__" "bytearray" ["source", "encoding", "errors"] [v] [] = pure [some v, none, none] := by rfl
theorem codec_none (a b c : String) : Builtin.Bytes.checkCodecArg a b c none = pure () := by rfl
theorem ba_init {x : Addr} {n : Int} {t : Tok} {Q : Fin → Shared → Prop} (hx : s.heap.get? x = some { cls := .type "bytearray", data := .bytearray #[] }) (h0 : 0 < n) (h1 : n ≤ 8)
    (hQ : Q (.done (.ret .none)) { s with heap := (s.heap.update x (Obj.mapBytearray fun _ => #[])).update x (Obj.mapBytearray fun _ => Array.replicate n.toNat 0) }) :
    wpG (model prog w) A (Builtin.«bytearray.__init__» ⟨[.ref x, .int n t], []⟩) Q (fun _ _ => False) s := by
  unfold Builtin.«bytearray.__init__»
  have hT : s.TypeIs (.ref x) "bytearray" := ⟨_, hx, rfl⟩
  refine wpG_bind (wpG_of (ownRelease_ba hT ?_))
  simp only [Bool.false_eq_true, if_false]
  rw [bindOpt_ba]
  refine wpG_bind (wpG_pure ?_)
  dsimp only
  rw [codec_none, codec_none]
  refine wpG_bind (wpG_pure (wpG_bind (wpG_pure ?_)))
  refine wpG_bind ?_
  unfold orM
  refine wpG_bind (wpG_exported ?_)
  refine wpG_of ?_
  wp_walk
  rw [if_neg (by decide)]
  refine wpG_of ?_
  have h3 := lookup_int_index
  have h4 : Builtin.Bytes.fitsIndex n = true := by unfold Builtin.Bytes.fitsIndex; simp; omega
  have h5 : ¬ n < 0 := by omega
  have h6 : (n == 2 ^ 63 - 1) = false := by simp; omega
  have h7 : Builtin.Bytes.tooLong n.toNat = false := by unfold Builtin.Bytes.tooLong; simp [PySem.sizeLine_eq]; omega
  have h8 : n > 0 := h0
  wp_walk
  rw [if_neg (by rw [h6]; decide), if_neg (by rw [h7]; decide)]
  wp_walk
  have h9 : (Obj.mapBytearray (fun _ => Array.replicate n.toNat 0) (Obj.mapBytearray (fun _ => #[]) { cls := Value.type "bytearray", data := Data.bytearray #[] })).data.pastItsLine = none := by
    show (Data.bytearray (Array.replicate n.toNat 0)).pastItsLine = none
    unfold Data.pastItsLine
    simp [PySem.sizeLine_eq]
    omega
  rw [h9]
  wp_walk
  exact hQ

theorem codeG_builtin {R : Result → Shared → Prop} {id : String} {args : Args} {b : Builtin} (hb : entryFor table id = some b)
    (h : wpG (model prog w) (A.under (.builtin id args)) (b args)
      (fun fin s' => match fin with | .done f => R (.ok f) s' | .again c' => c'.quiet = true ∧ okCode c' = true ∧ codeG (model prog w) A c' R s') (fun e s' => R (.error e) s') s) :
    codeG (model prog w) A (.builtin id args) R s := by
  refine codeG_of_tree ?_
  show wpG _ _ (match entryFor table id with | some b => b args | none => unsupported ((withoutEnding? id "#data").getD id)) _ _ s
  rw [hb]; exact h
theorem call_ba {n : Int} {t : Tok} {Q : Value → Shared → Prop} (h0 : 0 < n) (h1 : n ≤ 8)
    (h : ∀ h', h'.get? s.heap.objs.size = some { cls := .type "bytearray", data := .bytearray (Array.replicate n.toNat 0) } → (∀ b o, s.heap.get? b = some o → h'.get? b = some o) → Q (.ref s.heap.objs.size) { s with heap := h' }) :
    wpG (model prog w) A (call (.type "bytearray") [.int n t]) Q (fun _ _ => False) s := by
  refine wpG_call (codeG_of_tree ?_)
  show wpG _ _ (callAny (.type "bytearray") _) _ _ _
  refine wpG_pure ⟨Code.quiet_builtin _ (by decide +kernel), (by decide +kernel : okId "type.__call__" = true), codeG_builtin F.entry_type_call ?_⟩
  rw [typeCall_tree]
  have hx : (s.heap.push { cls := .type "bytearray", data := .bytearray #[] }).get? s.heap.objs.size = some { cls := .type "bytearray", data := .bytearray #[] } := Heap.get?_push_size _ rfl
  refine wpG_bind (wpG_holding (wpG_of (wpAny_call (codeAny_mono (code_ba_new (E := fun _ _ => False) (.int n t) (Q₁ := fun v s' => v = .ref s.heap.objs.size ∧ s' = { s with heap := s.heap.push { cls := .type "bytearray", data := .bytearray #[] } }) ⟨rfl, rfl⟩) fun r s₁ hr => ?_))))
  cases r with
  | error e => exact hr.elim
  | ok fl =>
    cases fl with
    | ret obj =>
      obtain ⟨rfl, rfl⟩ := hr
      have hT : Shared.TypeIs { s with heap := s.heap.push { cls := .type "bytearray", data := .bytearray #[] } } (.ref s.heap.objs.size) "bytearray" := ⟨_, hx, rfl⟩
      refine wpG_bind (wpG_of (wpAny_isInstance hT sub_ba_self ?_))
      simp only [Bool.not_true, Bool.false_eq_true, if_false]
      refine wpG_bind (wpG_holding ?_)
      unfold callSpecial?
      refine wpG_bind (wpG_of (wpAny_specialOf hT slot_ba_init.lookup ?_))
      refine wpG_holding ?_
      rw [slot_ba_init.bind]
      refine wpG_bind (wpG_pure ?_)
      dsimp only [List.cons_append, List.nil_append]
      refine wpG_bind (wpG_call (codeG_of_tree ?_))
      show wpG _ _ (do checkBuiltinCall "bytearray.__init__" ⟨[.ref s.heap.objs.size, .int n t], []⟩; again (.builtin "bytearray.__init__" ⟨[.ref s.heap.objs.size, .int n t], []⟩)) _ _ _
      refine wpG_bind (wpG_of (slot_ba_init.check _ _ _ _ _ _ _ _ hT (args_ba_init _ _) (wpG_pure ⟨Code.quiet_builtin _ (by decide +kernel), (by decide +kernel : okId "bytearray.__init__" = true), codeG_builtin entry_ba_init ?_⟩)))
      refine wpG_mono (ba_init hx h0 h1 (Q := _) ?_) (fun _ _ x => x) (fun _ _ x => x.elim)
      refine wpG_pure (wpG_pure ?_)
      have e1 := Heap.get?_update_self (Obj.mapBytearray fun _ => #[]) hx rfl
      have e2 := Heap.get?_update_self (Obj.mapBytearray fun _ => Array.replicate n.toNat 0) e1 rfl
      exact h _ e2 fun b o e => by
        have hb : b ≠ s.heap.objs.size := Nat.ne_of_lt (Heap.lt_size e)
        rw [Heap.get?_update_other _ _ (Ne.symm hb), Heap.get?_update_other _ _ (Ne.symm hb)]
        exact Heap.get?_push_of_some _ e
    | _ => exact hr.elim
end
end Mine
end
section
set_option maxRecDepth 100000
namespace Mine
theorem slot_ba_set : Slot "bytearray" "__setitem__" "bytearray.__setitem__" :=
  .of (owner := "bytearray") (n := "__setitem__") (by rw [typeLookup_type, builtinLookup_eq_fast]; kernel_rfl) (by decide +kernel) (by decide +kernel) (by decide +kernel)
    (by first | exact .inl (by decide +kernel) | exact .inr (by decide +kernel)) (by rw [isSubtype_type]; kernel_rfl)
theorem entry_ba_set : entryFor table "bytearray.__setitem__" = some Builtin.«bytearray.__setitem__» := entryFor_of_tree (by kernel_rfl)
theorem args_ba_set (a b c : Value) : argsOk "bytearray.__setitem__" ⟨[a, b, c], []⟩ := by unfold argsOk; kernel_rfl
theorem ba_no_bytes : typeLookup (.type "bytearray") "__bytes__" = pure none := by rw [typeLookup_type, builtinLookup_eq_fast]; kernel_rfl
theorem ba_no_index : typeLookup (.type "bytearray") "__index__" = pure none := by rw [typeLookup_type, builtinLookup_eq_fast]; kernel_rfl
theorem ba_buffer : typeLookup (.type "bytearray") "__buffer__" = pure (some (.builtin "bytearray.__buffer__")) := by rw [typeLookup_type, builtinLookup_eq_fast]; kernel_rfl
theorem ends_buf : "bytearray.__buffer__".endsWith ("." ++ "__buffer__") = true := by decide +kernel
theorem drop_buf : "bytearray.__buffer__".dropRight ("__buffer__".length + 1) = "bytearray" := by decide +kernel
abbrev baObj (b : Array UInt8) : Obj := { cls := .type "bytearray", data := .bytearray b }
section
variable {prog : Program} {w : World} {A : Around} {E : Value → Shared → Prop} {s : Shared}
theorem ba_setItem {x : Addr} {bs : Array UInt8} {k v : Int} {t u : Tok} {Q : Unit → Shared → Prop} (hx : s.heap.get? x = some (baObj bs)) (h0 : 0 ≤ k) (h1 : k < bs.size) (hs : bs.size ≤ 8) (hv : 0 ≤ v) (hv' : v < 256)
    (hQ : Q () { s with heap := s.heap.update x (Obj.mapBytearray (·.setIfInBounds k.toNat v.toNat.toUInt8)) }) :
    wpAny (model prog w) A (setItem (.ref x) (.int k t) (.int v u)) Q E s := by
  have hT : s.TypeIs (.ref x) "bytearray" := ⟨_, hx, rfl⟩
  unfold setItem
  refine wpAny_holding (wpAny_bind (wpAny_sequenceKey hT (by decide) ?_))
  refine wpAny_bind (wpAny_callSpecial?_slot (name := Str.ofString "__setitem__") hT slot_ba_set (wpAny_call_entry slot_ba_set hT entry_ba_set ?_ (args_ba_set _ _ _)))
  have hk : Builtin.Bytes.fitsIndex k = true := by unfold Builtin.Bytes.fitsIndex; simp; omega
  have hb : ¬ (v < 0 ∨ v ≥ 256) := by omega
  have hj : seqIndex? k bs.size = some k.toNat := by unfold seqIndex?; simp; omega
  have h3 := lookup_int_index
  unfold Builtin.«bytearray.__setitem__»
  wp_walk
  rw [hj]
  wp_walk
  have h9 : (Obj.mapBytearray (fun b => b.setIfInBounds k.toNat v.toNat.toUInt8) (baObj bs)).data.pastItsLine = none := by
    show (Data.bytearray (bs.setIfInBounds k.toNat v.toNat.toUInt8)).pastItsLine = none
    unfold Data.pastItsLine
    simp [PySem.sizeLine_eq]
    omega
  rw [h9]
  exact wpAny_pure (wpAny_pure ⟨.none, rfl, wpAny_pure hQ⟩)
theorem bytes_new_ba {x : Addr} {bs : Array UInt8} {Q : Value → Shared → Prop} (hx : s.heap.get? x = some (baObj bs)) (hz : bs.size ≤ 8)
    (hQ : ∀ t k, Q (.bytes bs t) { s with toks := k }) :
    codeAny (model prog w) A (.call (.builtin "bytes.__new__") ⟨[.type "bytes", .ref x], []⟩) (wants Q E) s := by
  refine codeAny_of_tree ?_
  show wpAny _ A.in1 (do checkBuiltinCall "bytes.__new__" ⟨[.type "bytes", .ref x], []⟩; again (.builtin "bytes.__new__" ⟨[.type "bytes", .ref x], []⟩)) _ _ s
  refine wpAny_bind (wpAny_of_eq (F.bm_newCall _) (wpAny_pure ⟨plainId_quiet F.bm_plain _, codeAny_builtin F.bm_entry ?_⟩))
  rw [Around.under_plainId F.bm_plain _]
  have hT : s.TypeIs (.ref x) "bytearray" := ⟨_, hx, rfl⟩
  have h1 := F.bm_sub
  have h2 := F.bm_bind (.ref x)
  have h3 := ba_no_bytes
  have h4 := ba_no_index
  have h5 := ba_buffer
  have h6 := sub_ba_self
  have h7 := lookup_ba_rel
  unfold Builtin.«bytes.__new__»
  wp_walk
  rw [ends_buf, drop_buf]
  wp_walk
  rw [ends_rel, drop_rel]
  wp_walk
  rw [if_neg (by rw [PySem.sizeLine_eq]; omega)]
  wp_walk
  exact hQ _ _
theorem call_bytes_ba {x : Addr} {bs : Array UInt8} {Q : Value → Shared → Prop} (hx : s.heap.get? x = some (baObj bs)) (hz : bs.size ≤ 8)
    (hQ : ∀ t k, Q (.bytes bs t) { s with toks := k }) : wpAny (model prog w) A (call (.type "bytes") [.ref x]) Q E s := by
  refine callType_codes (Q₁ := fun obj s₁ => s₁.TypeIs obj "bytes" ∧ Q obj s₁) F.bm_called (F.bm_typeCall _) F.entry_object_init
    (bytes_new_ba hx hz fun t k => ⟨PySem.W.typeIs_bytes _ _ _, hQ t k⟩) fun obj s₁ h₁ => ?_
  exact ⟨h₁.1, F.args_object_init_2 obj _, object_init_meets F.bm_called.init.lookup F.bm_called.made (by decide) prog w A.in1 _ s₁ ⟨h₁.1, rfl, h₁.2⟩⟩
/- the same over the ledger -/
variable {h₀ : Heap} {L : Addr} {m : Str → Option Value} {news : List (Addr × Obj)}
theorem call_baN {n : Int} {t : Tok} {Q : Value → Shared → Prop} (F : Fr h₀ L s.heap m) (N : News h₀ L s.heap news) (h0 : 0 < n) (h1 : n ≤ 8)
    (h : ∀ x h', Fr h₀ L h' m → News h₀ L h' ((x, baObj (Array.replicate n.toNat 0)) :: news) → (∀ p ∈ news, p.1 < x) → Q (.ref x) { s with heap := h' }) :
    wpG (model prog w) A (call (.type "bytearray") [.int n t]) Q (fun _ _ => False) s := by
  refine call_ba h0 h1 fun h' hx hk => h _ h' ⟨F.ns.at' fun o e => hk _ o e, fun b o e => hk b o (F.keep b o e), F.above⟩ (fun p hp => ?_) fun p hp => Heap.lt_size (N p hp).1
  rcases List.mem_cons.mp hp with rfl | hp
  · exact ⟨hx, Nat.ne_of_gt F.ns.lt, next_is_new F⟩
  · exact ⟨hk _ _ (N p hp).1, (N p hp).2⟩
theorem ba_setU {x : Addr} {bs : Array UInt8} {k v : Int} {t u : Tok} {news' : List (Addr × Obj)} {Q : Unit → Shared → Prop} (F : Fr h₀ L s.heap m) (N : News h₀ L s.heap news)
    (U : Upd x (baObj bs) (baObj (bs.setIfInBounds k.toNat v.toNat.toUInt8)) news news')
    (h0 : 0 ≤ k) (h1 : k < bs.size) (hs : bs.size ≤ 8) (hv : 0 ≤ v) (hv' : v < 256)
    (h : ∀ h', Fr h₀ L h' m → News h₀ L h' news' → Q () { s with heap := h' }) :
    wpAny (model prog w) A (setItem (.ref x) (.int k t) (.int v u)) Q E s := by
  obtain ⟨pre, post, rfl, rfl, a, b⟩ := U.split
  have z := N (x, baObj bs) (List.mem_append.mpr (.inr (.head _)))
  exact ba_setItem z.1 h0 h1 hs hv hv' (h _ (F.change (Heap.SameBut.update ..) z.2.1 z.2.2) (news_set N a b (Heap.SameBut.update ..) (Heap.get?_update_self _ z.1 rfl)))
theorem wpG_callWithT {M : Model} {env : Env} {pos : Pos} {T : String} {e : Expr} {rest : List Expr} {Q : Value → Shared → Prop}
    (h : wpG M A (spliced (backTo pos (starEach (e :: rest) env))) (fun vs s₁ => wpG M A (call (.type T) vs) Q E s₁) E s)
    (he : starEach (e :: rest) env = (false, eval e env) :: starEach rest env := by rfl) (hplain : (backTo pos (starEach rest env)).any (·.1) = false := by rfl) :
    wpG M A (callWith pos (.type T) [] (backTo pos (starEach (e :: rest) env)) []) Q E s := by
  rw [he] at h ⊢
  exact wpG_callWith (P := fun _ => True) (by show (false || (backTo pos (starEach rest env)).any (·.1)) = false; rw [hplain]; rfl) (fun _ _ => ⟨.machine, .inr (.inl rfl), Looks.of_pure rfl⟩)
    (wpG_evalArgs (wpG_mono h (fun _ _ x => ⟨trivial, x⟩) fun _ _ x => x))
end
end Mine
end
section
set_option maxRecDepth 100000
namespace Mine
section
variable {prog : Program} {w : World} {A : Around} {E : Value → Shared → Prop} {s : Shared}
theorem tup_index {x : Addr} {t1 t2 t3 t4 t : Tok} {k : Int} {n : Nat} {dd : Option Addr} {sl : Array (Option Value)} {Q : Value → Shared → Prop} (hx : s.heap.get? x = some ⟨.type "tuple", dd, .seq #[.int 1 t1, .int 2 t2, .int 4 t3, .int 8 t4] n, sl⟩)
    (hk : k = 1 ∨ k = 2) (hQ : Q (.int (k - 1) s.toks) { s with toks := s.toks + 1 }) :
    wpAny (model prog w) A (call (.builtin "tuple.index") [.ref x, .int k t]) Q E s := by
  have hT : s.TypeIs (.ref x) "tuple" := ⟨_, hx, rfl⟩
  refine wpAny_call_entry PySem.F.slot_tuple_index hT PySem.F.entry_tuple_index ?_ (PySem.F.args_tuple_index_2 _ _)
  unfold Builtin.«tuple.index»
  simp only [Std.Legacy.Range.forIn_eq_forIn_range']
  wp_walk
  have hz : ([:min #[Value.int 1 t1, Value.int 2 t2, Value.int 4 t3, Value.int 8 t4].size #[Value.int 1 t1, Value.int 2 t2, Value.int 4 t3, Value.int 8 t4].size] : Std.Legacy.Range).size = 4 := by
    simp [Std.Legacy.Range.size]
  rw [hz]
  change wpAny _ _ (List.forIn'.loop [0, 1, 2, 3] _ [0, 1, 2, 3] _ _) _ _ _
  refine wpAny_bind ?_
  rcases hk with rfl | rfl
  · show wpAny _ _ (eqBool (.int 1 t1) (.int 1 t) >>= _) _ _ _
    refine wpAny_bind (wpAny_eqBool_int ?_)
    rw [if_pos (by decide)]
    wp_walk
    exact ⟨_, rfl, hQ⟩
  · show wpAny _ _ (eqBool (.int 1 t1) (.int 2 t) >>= _) _ _ _
    refine wpAny_bind (wpAny_eqBool_int ?_)
    rw [if_neg (by decide)]
    refine wpAny_pure ?_
    refine wpAny_bind ?_
    show wpAny _ _ (eqBool (.int 2 t2) (.int 2 t) >>= _) _ _ _
    refine wpAny_bind (wpAny_eqBool_int ?_)
    rw [if_pos (by decide)]
    wp_walk
    exact ⟨_, rfl, hQ⟩
theorem getMethod_index {x : Addr} {d : Data} {sl : Array (Option Value)} {pl : Sem Bool} {Q : Value × List Value → Shared → Prop} (hx : s.heap.get? x = some ⟨.type "tuple", none, d, sl⟩)
    (h : Q (.builtin "tuple.index", [.ref x]) s) : wpAny (model prog w) A (getMethod (.ref x) (Str.ofString "index") pl) Q E s :=
  getMethod_builtin ⟨_, hx, rfl⟩ PySem.F.plainAttrs_tuple PySem.F.slot_tuple_index PySem.F.type_tuple_index (fun a e => by cases e; exact ⟨_, hx, rfl⟩) h
end
end Mine
end
namespace Mine
theorem bitAnd_14 (x : Int) (h : 0 ≤ x) : Builtin.bitAnd x 16383 = x % 16384 := by
  rw [bitAnd_pp h (by decide)]
  have e : x.toNat &&& (16383 : Int).toNat = x.toNat % 2 ^ 14 := Nat.and_two_pow_sub_one_eq_mod x.toNat 14
  rw [e]
  have : (2 : Nat) ^ 14 = 16384 := by decide
  omega
theorem bitOr_14 (n : Int) (h0 : 0 ≤ n) (h1 : n < 16384) : Builtin.bitOr 16384 n = 16384 + n := by
  rw [bitOr_and, bitAnd_pp (by decide) h0]
  have e : (16384 : Int).toNat &&& n.toNat = 0 := by
    have hp : (16384 : Int).toNat = 2 ^ 14 := by decide
    rw [hp]
    apply Nat.eq_of_testBit_eq
    intro i
    rw [Nat.testBit_and, Nat.testBit_two_pow, Nat.zero_testBit]
    by_cases hi : 14 = i
    · subst hi
      have : n.toNat < 2 ^ 14 := by have : (2 : Nat) ^ 14 = 16384 := by decide
                                    omega
      rw [Nat.testBit_lt_two_pow this]; simp
    · simp [hi]
  rw [e]; simp
theorem bitOr_0 (n : Int) : Builtin.bitOr 0 n = n := by
  rw [bitOr_and, bitAnd_comm, bitAnd_zero]; omega
theorem or_one (n : Int) : Builtin.bitOr ((1 - 1) * 2 ^ (8 * 1 - 2 : Int).toNat) n = n := by
  have e : ((1 - 1) * 2 ^ (8 * 1 - 2 : Int).toNat : Int) = 0 := by decide
  rw [e, bitOr_0]
theorem or_two (n : Int) (h0 : 0 ≤ n) (h1 : n < 16384) : Builtin.bitOr ((2 - 1) * 2 ^ (8 * 2 - 2 : Int).toNat) n = 16384 + n := by
  have e : ((2 - 1) * 2 ^ (8 * 2 - 2 : Int).toNat : Int) = 16384 := by decide
  rw [e, bitOr_14 n h0 h1]
end Mine
namespace Mine
section
variable {prog : Program} {w : World} {A : Around} {E : Value → Shared → Prop} {s : Shared} {h₀ : Heap} {L : Addr} {m : Str → Option Value} {env : Env}
theorem compEnd_tail {I C D : Addr} {s₁ : Shared} {oI oC oD : Obj} {S : List (Addr × Obj) → Prop} {rest : Value → List (Addr × Obj) → Prop} {y : Value} {h' : Heap} {tk : Nat} {news' : List (Addr × Obj)}
    (F : Fr h₀ L h' m) (N : News h₀ L h' ((I, oI) :: (C, oC) :: (D, oD) :: news')) (off : LCg.Off3 I C D news') (hS : S news') (r : rest y news') :
    LCg.CompEnd h₀ L m s₁ I oI C oC D oD S rest y { s₁ with heap := h', toks := tk } := LCg.CompEnd.intro F N news' (fun _ hp => hp) off hS r
def TupAt (ax : Addr) (its : Array Value) (news : List (Addr × Obj)) : Prop := False ∨ ∃ o, (ax, o) ∈ news ∧ o.cls = .type "tuple" ∧ ∃ n, o.data = .seq its n
theorem tupAt_mem {ax : Addr} {its : Array Value} {k : Nat} {news : List (Addr × Obj)} (hm : (ax, ({ cls := .type "tuple", data := .seq its k } : Obj)) ∈ news) : TupAt ax its news := .inr ⟨_, hm, rfl, _, rfl⟩
theorem TupAt.tup {h₀ h : Heap} {L ax : Addr} {its : Array Value} {news : List (Addr × Obj)} (x : TupAt ax its news) (N : News h₀ L h news) : h.IsTuple ax its := by
  rcases x with x | ⟨o, hm, r⟩
  · exact x.elim
  · exact ⟨o, (N _ hm).1, r⟩
theorem tup_st {ax I : Addr} {its : Array Value} : ∀ i (h h' : Heap) (o : Obj) (nw : List (Addr × Obj)), (h.IsTupleIter I ax i ∧ h.IsTuple ax its) → h.get? I = some o → h'.get? I = some o → (∀ b o, h₀.get? b = some o → h'.get? b = some o) → News h₀ L h' nw → TupAt ax its nw → (h'.IsTupleIter I ax i ∧ h'.IsTuple ax its) :=
  fun i h h' o nw st e e' k N S => ⟨by obtain ⟨o', q, r⟩ := st.1; rw [e] at q; cases q; exact ⟨o, e', r⟩, S.tup N⟩
def SrcT (prog : Program) (w : World) (A : Around) (h₀ : Heap) (L : Addr) (m : Str → Option Value) (env : Env) (elt : Expr) (x : Str) (scope : Scope) (cl : List (Str × Addr)) (Q : Value → Shared → Prop) (xv : Value) (s₁ : Shared) : Prop :=
  ∃ ax its news, xv = .ref ax ∧ A.handled = none ∧ Fr h₀ L s₁.heap m ∧ News h₀ L s₁.heap news ∧ TupAt ax its news ∧ its.size ≤ sizeLine ∧
      ∀ g, LCg.CompRest prog w A h₀ L m env elt x scope cl { s₁ with heap := g } (TupAt ax its) (fun i v => its[i]? = some v) (LCg.FinE h₀ L m { s₁ with heap := g } Q) its.size 0 [] news
theorem SrcT.intro {elt : Expr} {x : Str} {scope : Scope} {cl : List (Str × Addr)} {Q : Value → Shared → Prop} {ax : Addr} {its : Array Value} {k : Nat} {news : List (Addr × Obj)} {s₁ : Shared}
    (hh : A.handled = none) (F : Fr h₀ L s₁.heap m) (N : News h₀ L s₁.heap news) (hm : (ax, ({ cls := .type "tuple", data := .seq its k } : Obj)) ∈ news) (hsz : its.size ≤ sizeLine)
    (h : ∀ g, LCg.CompRest prog w A h₀ L m env elt x scope cl { s₁ with heap := g } (TupAt ax its) (fun i v => its[i]? = some v) (LCg.FinE h₀ L m { s₁ with heap := g } Q) its.size 0 [] news) :
    SrcT prog w A h₀ L m env elt x scope cl Q (.ref ax) s₁ := ⟨ax, its, news, rfl, hh, F, N, .inr ⟨_, hm, rfl, _, rfl⟩, hsz, h⟩
theorem ListComp_tup {elt iter : Expr} {x : Str} {px : Pos} {scope : Scope} {cl : List (Str × Addr)} {pos : Pos} {Q : Value → Shared → Prop} (F₀ : Fr h₀ L s.heap m)
    (hclos : closureFor scope env = pure cl) (hcell : ∀ y ∈ scope.names, y.2 ≠ .cell) (hkind : scope.kind = .function)
    (hnames : ∀ y ∈ scope.names, y.2 = .local → scope.names.lookup y.1 = some .local) (hx : scope.names.lookup x = some .local)
    (h : wpAny (model prog w) A (eval iter env) (SrcT prog w A h₀ L m env elt x scope cl Q) E s)
    (hs : ∀ x, foldedSetIterable iter env x = pure x := by intro _; rfl) :
    wpAny (model prog w) A (eval (.ListComp elt [⟨.Name x px, iter, [], 0⟩] scope pos) env) Q E s := by
  rw [eval_ListComp]
  refine wpAny_comprehension_free (use := none) rfl hs hclos hkind hnames (wpAny_mono h (fun xv s₁ h₁ => ?_) fun _ _ e => e)
  obtain ⟨ax, its, news, rfl, hh, F, N, S, hsz, R⟩ := h₁
  have hl := S.tup N
  have hlt : ax < s₁.heap.objs.size := by obtain ⟨_, e, _⟩ := hl; exact Heap.lt_size e
  refine wpAny_pyIter_tuple hl ?_
  have up : ∀ b o, s₁.heap.get? b = some o → (s₁.heap.push { cls := .type "tuple_iterator", data := .fields #[.ref ax, .int 0 0] }).get? b = some o := fun b o e => Heap.get?_push_of_some _ e
  refine LCg.block_U (Walks.tuple hh s₁.heap.objs.size ax (Nat.ne_of_lt hlt) its) hsz (fun i h st => by obtain ⟨o, e, _⟩ := st.1; exact ⟨o, e⟩) tup_st hcell hkind hx ⟨⟨_, Heap.get?_push_size _ rfl, rfl, rfl⟩, by obtain ⟨o, e, r⟩ := hl; exact ⟨o, up _ _ e, r⟩⟩ (fun b hb => ?_)
    (F.keeps up) (N.grown up) (Nat.ne_of_lt F.ns.lt) (next_is_new F) (fun p hp => Nat.ne_of_lt (Heap.lt_size (N p hp).1)) S (R _) ?_
  · show b < (s₁.heap.push _).objs.size
    rw [Heap.size_push]
    rcases List.mem_cons.mp hb with rfl | hb
    · exact Nat.lt_succ_self _
    · rw [List.mem_singleton.mp hb]; exact Nat.lt_succ_of_lt hlt
  · intro D C h tk m' ys news' F' N' o1 hn hC₀ hD₀ hCL hDL hCD offC fin
    refine ⟨m', hn, fun h'' hs'' => fin D h'' tk (F'.change hs'' hCL hC₀) (fun p hp => ?_) o1⟩
    refine ⟨hs''.extBut _ _ ?_ (N' p hp).1, (N' p hp).2⟩
    rcases List.mem_cons.mp hp with rfl | hp
    · exact Ne.symm hCD
    · exact offC p hp
end
end Mine
namespace Mine
section
variable {prog : Program} {w : World} {A : Around} {E : Value → Shared → Prop} {s : Shared} {h₀ : Heap} {env : Env} {body : List Stmt}
theorem over_of {xs : List Str} {m m₀ : Str → Option Value} (hm : ∀ y, xs.contains y = false → m y = m₀ y) : ∃ vs : Str → Option Value, m = fun y => if xs.contains y = true then vs y else m₀ y :=
  ⟨m, funext fun y => by
    cases h : xs.contains y
    · simp only [Bool.false_eq_true, if_false]; exact hm y h
    · simp only [if_true]⟩
theorem forG_rangeO {x : Str} {px : Pos} {r : Addr} {b : Int} {t u v : Tok} {n : Nat} {m₀ : Str → Option Value} {news₀ : List (Addr × Obj)} {Q : Flow → Shared → Prop}
    (xs : List Str) (J : Nat → List (Addr × Obj) → Prop)
    (hh : A.handled = none) (hr : IsRange s.heap r 0 b 1 t u v) (hsmall : Builtin.Range.small 0 b 1 = true) (hn : Builtin.Range.rangeSize 0 b 1 = (n : Int))
    (hx : env.kindOf x = some .local) (hp : (env.scope.kind == .class || (env.scope.kind == .module && env.locals != env.globals)) = false)
    (F : Fr h₀ env.locals s.heap m₀) (N : News h₀ env.locals s.heap news₀) (h0 : J 0 news₀)
    (turn : ∀ (i : Nat) t (vs : Str → Option Value) news₁ h tk (I : Addr) (it : Obj), i < n → J i news₁ → (∀ p ∈ news₁, p.1 ≠ I) → Fr h₀ env.locals h (fun y => if y = x then some (.int (i : Int) t) else if xs.contains y = true then vs y else m₀ y) → News h₀ env.locals h ((I, it) :: news₁) →
      wpG (model prog w) A (execs body env) (TurnEnd h₀ env.locals (I, it) (fun m' news' => (∀ y, xs.contains y = false → m' y = m₀ y) ∧ J (i + 1) news') { s with heap := h, toks := tk } Q) (fun _ _ => False) { s with heap := h, toks := tk })
    (done : ∀ (vs : Str → Option Value) news₁ h tk, J n news₁ → Fr h₀ env.locals h (fun y => if xs.contains y = true then vs y else m₀ y) → News h₀ env.locals h news₁ → Q .next { s with heap := h, toks := tk }) :
    wpAny (model prog w) A (pyIter (.ref r)) (fun it s₂ => codeG (model prog w) A (.forLoop (.Name x px) it body [] env) (fun r s' => match r with | .ok f => Q f s' | .error _ => False) s₂) E s := by
  refine forG_range hh hr hsmall hn hx hp F N (fun i m news => (∀ y, xs.contains y = false → m y = m₀ y) ∧ J i news) ⟨fun _ _ => rfl, h0⟩ ?_ ?_
  · intro i t m₁ news₁ h tk I it hi hJ hne F₁ N₁ _
    obtain ⟨vs, rfl⟩ := over_of hJ.1
    exact turn i t vs news₁ h tk I it hi hJ.2 hne F₁ N₁
  · intro m₁ news₁ h tk hJ F₁ N₁
    obtain ⟨vs, rfl⟩ := over_of hJ.1
    exact done vs news₁ h tk hJ.2 F₁ N₁
end
end Mine
namespace Mine
theorem call_cellsG {prog : Program} {w : World} {A : Around} {R : Result → Shared → Prop} {s : Shared} {name : Str} {params : Arguments} {body : List Stmt} {scope : Scope}
    {pm cd doc : Value} {a : Addr} {o : Obj} {args : List Value} {binds : List (Str × Value)}
    (hroom : A.depth < recursionLimit) (ho : s.heap.get? a = some o) (hdata : o.data = .func (Calls.docDef name params body scope pm cd doc)) (hlim : s.heap.NoLimit) (hcd : s.heap.CodeRec cd name)
    (hbind : bindArgs (Calls.docDef name params body scope pm cd doc) ⟨args, []⟩ = pure binds)
    (hkind : ∀ x ∈ binds, scope.names.lookup x.1 = some .local ∨ (scope.names.lookup x.1 = some .cell ∧ ((cellsFrom (s.heap.objs.size + 1) scope.names []).lookup x.1).isSome = true))
    (hnd : ((cellsFrom 0 scope.names []).map (·.1)).Nodup)
    (h : ∀ h₁ tk cells, Fr s.heap s.heap.objs.size h₁ (bindL (envOfC name scope s.heap.objs.size a cd).kindOf binds fun _ => none) → News s.heap s.heap.objs.size h₁ cells →
      CellsAre (bindC (envOfC name scope s.heap.objs.size a cd).kindOf binds fun _ => none) (cellsFrom (s.heap.objs.size + 1) scope.names []) cells →
      wpG (model prog w) (A.deeper (envOfC name scope s.heap.objs.size a cd)) (execs body (envOfC name scope s.heap.objs.size a cd))
        (fun f s' => R (.ok (.ret (match f with | .ret v => v | _ => .none))) s') (fun _ _ => False)
        { s with heap := h₁, toks := tk })
    (hco : scope.isCoroutine = false := by rfl) (hgen : scope.isGenerator = false := by rfl) (hk : scope.kind = .function := by rfl) :
    codeG (model prog w) A (.call (.ref a) ⟨args, []⟩) R s := by
  refine codeG_function (fd := Calls.docDef name params body scope pm cd doc) hroom ho hdata hco hgen rfl hcd ?_
  rw [hbind]
  refine wpAny_pure (wpAny_newFunctionEnv_cells hk hkind fun env he s' x => ?_)
  subst he
  refine ⟨hlim.keeps x.toInCall.keep, codeG_func ?_⟩
  obtain ⟨h₁, tk, rfl, _⟩ := x.done
  have hk₁ := x.toInCall.keep
  obtain ⟨cells, NC, Y⟩ := Cl.news (h₀ := s.heap) (Nat.le_refl _) fun n c hm => ⟨x.cell n c (lookup_of_mem_nodup (cellsFrom_names scope.names 0 (s.heap.objs.size + 1) [] [] rfl ▸ hnd) hm), x.above n c hm⟩
  exact h h₁ tk cells ⟨x.toInCall.ns, hk₁, Nat.le_refl _⟩ NC Y
end Mine
namespace Mine
section
variable {prog : Program} {w : World} {A : Around} {E : Value → Shared → Prop} {R : Result → Shared → Prop} {s : Shared} {h₀ : Heap} {L : Addr} {m : Str → Option Value} {env : Env}
abbrev noE : Value → Shared → Prop := fun _ _ => False
def compDone (Q : Value → Shared → Prop) (acc : Value) (C : Addr) (r : Result) (s' : Shared) : Prop :=
  match r with
  | .ok _ => ∃ m, s'.heap.Ns C m ∧ ∀ h', Heap.SameBut C s'.heap h' → Q acc { s' with heap := h' }
  | .error _ => False
theorem wpG_comprehension {e : Expr} {scope : Scope} {pos : Pos} {newAcc first : Sem Value} {g : Comprehension} {gs : List Comprehension} {cl : List (Str × Addr)} {Q : Value → Shared → Prop}
    (hh : A.handled = none) (hcl : clausesOf e = g :: gs) (hs : ∀ x, foldedSetIterable g.iter env x = pure x) (hclos : closureFor scope env = pure cl) (hkind : scope.kind = .function)
    (hnames : ∀ x ∈ scope.names, x.2 = .local → scope.names.lookup x.1 = some .local) (hok : ∀ it acc cenv, okCode (.compStart e 0 it acc cenv) = true)
    (h : wpAny (model prog w) A first (fun x s₁ => wpAny (model prog w) A (pyIter x) (fun it s₂ => wpAny (model prog w) A newAcc (fun acc s₃ =>
      wpAny (model prog w) A (newFunctionEnv scope env.globals cl [] env.qual none .none (some env)) (fun cenv s₄ =>
        codeG (model prog w) A (.compStart e 0 it acc { cenv with scope := relabel scope env }) (compDone Q acc cenv.locals) s₄) noE s₃) noE s₂) noE s₁) noE s) :
    wpG (model prog w) A (comprehension e scope env pos newAcc false first none) Q noE s := by
  have hm : A.mark none = A := by cases A; simp [Around.mark]
  unfold comprehension
  rw [hclos, hcl]
  refine wpG_bind (wpG_of (wpAny_mono h (fun x s₁ h₁ => wpG_bind (wpG_standAt (wpG_bind ?_))) fun _ _ f => f))
  rw [hs x]
  refine wpG_pure (wpG_bind (wpG_holding (wpG_of (wpAny_mono h₁ (fun it s₂ h₂ => ?_) fun _ _ f => f))))
  refine wpG_bind (wpG_of (wpAny_mono h₂ (fun acc s₃ h₃ => wpG_bind (wpG_pure (wpG_bind (wpG_of (wpAny_mono h₃ (fun cenv s₄ h₄ => ?_) fun _ _ f => f))))) fun _ _ f => f))
  dsimp only
  have hv : ∀ x ∈ (scope.names.filter fun x => (x.2 == .local || x.2 == .cell) && x.1 != (".0" : Str)).reverse, x.2 = .local →
      Env.kindOf { cenv with scope := relabel scope env } x.1 = some .local := fun x hx hl => lookup_relabel_local (hnames x (List.mem_filter.mp (List.mem_reverse.mp hx)).1 hl)
  refine wpG_holding (wpG_bind (wpG_attempt (wpG_holding (wpG_run ?_ (hok _ _ _)))))
  rw [hm]
  refine codeG_mono h₄ fun r s' hr => ?_
  cases r with
  | ok f =>
    obtain ⟨m', hn, hr⟩ := hr
    exact wpG_bind (wpG_holding (wpG_of (wpAny_comp_letGo (cenv := { cenv with scope := relabel scope env }) hkind _ s' m' hv hn fun h' m'' _ hs' => wpG_pure (hr h' hs'))))
  | error x => exact hr.elim
theorem codeG_compLoop {elt target iter : Expr} {scope : Scope} {pos : Pos} {it acc : Value} (I : Nat → Shared → Prop)
    (turn : ∀ n s, I n s → wpG (model prog w) A (pyNext it) (fun r s₁ => match r with
      | none => R (.ok .next) s₁
      | some v => wpG (model prog w) A (assign target env v) (fun _ s₂ => wpG (model prog w) A (eval elt env) (fun x s₃ =>
          wpG (model prog w) A (call (.builtin "list.append") [acc, x]) (fun _ s₄ => ∃ m, m < n ∧ I m s₄) noE s₃) noE s₂) noE s₁) noE s)
    (n : Nat) (h : I n s) (ht : ∀ v, letOwnedTupleGo target it v = pure () := by intro _; rfl) :
    codeG (model prog w) A (.compLoop (.ListComp elt [⟨target, iter, [], 0⟩] scope pos) 0 it acc env) R s := by
  refine codeG_loop rfl I (fun n s hI => ?_) rfl n h
  show wpG _ A ((compTurn (.ListComp elt [⟨target, iter, [], 0⟩] scope pos) 0 it acc env).onRaise (fun x => do noteFrame x env; theTreesLotGoes x)) _ _ s
  refine wpG_onRaise ?_
  rw [compTurn_list1]
  refine wpG_bind (wpG_standAt (wpG_bind (wpG_mono (turn n s hI) (fun r s₁ h₁ => ?_) fun _ _ f => f)))
  cases r with
  | none => exact wpG_pure h₁
  | some v =>
    dsimp only
    rw [ht v]
    refine wpG_bind (wpG_pure (wpG_bind (wpG_mono h₁ (fun _ s₂ h₂ => ?_) fun _ _ f => f)))
    exact wpG_bind (wpG_bind (wpG_mono h₂ (fun x s₃ h₃ => wpG_bind (wpG_mono h₃ (fun _ s₄ h₄ => wpG_pure (wpG_pure ⟨rfl, h₄⟩)) fun _ _ f => f)) fun _ _ f => f))
theorem codeG_compStart {elt target iter : Expr} {scope : Scope} {pos : Pos} {it acc : Value}
    (h0 : codeG (model prog w) A (.compLoop (.ListComp elt [⟨target, iter, [], 0⟩] scope pos) 0 it acc env) R s)
    (h : wpAny (model prog w) A (pyIter it) (fun it' s' => codeG (model prog w) A (.compLoop (.ListComp elt [⟨target, iter, [], 0⟩] scope pos) 0 it' acc env) R s') noE s) :
    codeG (model prog w) A (.compStart (.ListComp elt [⟨target, iter, [], 0⟩] scope pos) 0 it acc env) R s := by
  refine codeG_of_tree ?_
  show wpG _ _ ((compStart (.ListComp elt [⟨target, iter, [], 0⟩] scope pos) 0 it acc env).onRaise (fun x => do noteFrame x env; standAt theWindowsPlace)) _ _ s
  refine wpG_onRaise (wpG_of ?_)
  unfold compStart
  show wpAny _ _ (ask >>= _) _ _ s
  refine wpAny_bind (wpAny_askSetting (wpAny_ite ?_))
  split
  · first
      | exact wpAny_bind (wpAny_pure (wpAny_pure ⟨rfl, rfl, h0⟩))
      | exact wpAny_pure ⟨rfl, rfl, h0⟩
  · refine wpAny_bind (wpAny_rule ?_)
    show wpAny _ _ (standAt iter.pos >>= _) _ _ s
    exact wpAny_bind (wpAny_standAt (wpAny_bind (wpAny_mono h (fun it' s' h' => wpAny_pure ⟨rfl, rfl, h'⟩) fun _ _ x => x)))
abbrev srcO (its : List Value) (k : Nat) : Obj := { cls := .type "list", data := .seq its.toArray k }
def TurnC (h₀ : Heap) (L : Addr) (m : Str → Option Value) (I : Addr) (oI : Obj) (C : Addr) (oC : Obj) (D : Addr) (ys : List Value) (src : Addr × Obj) (s₁ : Shared) (J : List Value → List (Addr × Obj) → Prop) (y : Value) (s₂ : Shared) : Prop :=
  ∃ h' tk' news'', s₂ = { s₁ with heap := h', toks := tk' } ∧ Fr h₀ L h' m ∧ News h₀ L h' ((I, oI) :: (C, oC) :: (D, LCg.lst ys) :: src :: news'') ∧ (∀ p ∈ src :: news'', p.1 ≠ I ∧ p.1 ≠ C ∧ p.1 ≠ D) ∧ J (ys ++ [y]) news''
theorem TurnC.mk {I C D : Addr} {oI oC : Obj} {ys : List Value} {src : Addr × Obj} {s₁ : Shared} {J : List Value → List (Addr × Obj) → Prop} {y : Value} {h' : Heap} {tk' : Nat} {news'' : List (Addr × Obj)}
    (F : Fr h₀ L h' m) (N : News h₀ L h' ((I, oI) :: (C, oC) :: (D, LCg.lst ys) :: src :: news'')) (off : ∀ p ∈ src :: news'', p.1 ≠ I ∧ p.1 ≠ C ∧ p.1 ≠ D) (hJ : J (ys ++ [y]) news'') :
    TurnC h₀ L m I oI C oC D ys src s₁ J y { s₁ with heap := h', toks := tk' } := ⟨h', tk', news'', rfl, F, N, off, hJ⟩
def SrcG (prog : Program) (w : World) (A : Around) (h₀ : Heap) (L : Addr) (m : Str → Option Value) (env : Env) (elt : Expr) (x : Str) (scope : Scope) (cl : List (Str × Addr)) (Q : Value → Shared → Prop) (xv : Value) (s₁ : Shared) : Prop :=
  ∃ (ax : Addr) (its : List Value) (k : Nat) (news : List (Addr × Obj)) (J : Nat → List Value → List (Addr × Obj) → Prop), xv = .ref ax ∧ Fr h₀ L s₁.heap m ∧ News h₀ L s₁.heap ((ax, srcO its k) :: news) ∧ its.length ≤ 8 ∧ J 0 [] news ∧
    (∀ i v ys news' I oI C oC D m₂ h tk, its[i]? = some v → J i ys news' → LCg.NsObj oC m₂ → m₂ x = some v → Fr h₀ L h m → News h₀ L h ((I, oI) :: (C, oC) :: (D, LCg.lst ys) :: (ax, srcO its k) :: news') → (∀ p ∈ (ax, srcO its k) :: news', p.1 ≠ I ∧ p.1 ≠ C ∧ p.1 ≠ D) → (I ≠ C ∧ I ≠ D ∧ C ≠ D) →
      wpG (model prog w) A (eval elt (compEnvC scope cl C env)) (TurnC h₀ L m I oI C oC D ys (ax, srcO its k) s₁ (J (i + 1))) noE { s₁ with heap := h, toks := tk }) ∧
    (∀ ys news' D h tk, J its.length ys news' → Fr h₀ L h m → News h₀ L h ((D, LCg.lst ys) :: news') → (∀ p ∈ news', p.1 ≠ D) → Q (.ref D) { s₁ with heap := h, toks := tk })
theorem getLt {h : Heap} {a : Addr} {o : Obj} (e : h.get? a = some o) : @LT.lt Nat _ a h.objs.size := Heap.lt_size e
theorem ne9 {a b : Addr} (h : @Ne Nat a b) : a ≠ b := h
set_option maxHeartbeats 1000000 in
theorem wpG_ListComp {elt iter : Expr} {x : Str} {px : Pos} {scope : Scope} {cl : List (Str × Addr)} {pos : Pos} {Q : Value → Shared → Prop}
    (_F : Fr h₀ L s.heap m) (hh : A.handled = none) (hclos : closureFor scope env = pure cl) (hcell : ∀ y ∈ scope.names, y.2 ≠ .cell) (hkind : scope.kind = .function)
    (hnames : ∀ y ∈ scope.names, y.2 = .local → scope.names.lookup y.1 = some .local) (hx : scope.names.lookup x = some .local)
    (h : wpAny (model prog w) A (eval iter env) (SrcG prog w A h₀ L m env elt x scope cl Q) noE s)
    (hs : ∀ x, foldedSetIterable iter env x = pure x := by intro _; rfl) :
    wpG (model prog w) A (eval (.ListComp elt [⟨.Name x px, iter, [], 0⟩] scope pos) env) Q noE s := by
  rw [eval_ListComp]
  refine wpG_comprehension hh rfl hs hclos hkind hnames (fun _ _ _ => rfl) (wpAny_mono h (fun xv s₁ h₁ => ?_) fun _ _ f => f)
  obtain ⟨ax, its, k, news, J, rfl, F, N, hsz, hJ, turn, done⟩ := h₁
  have hax := N (ax, srcO its k) (.head _)
  have hl : s₁.heap.IsList ax its.toArray := ⟨_, hax.1, rfl, _, rfl⟩
  refine wpAny_pyIter_list hl ?_
  refine wpAny_newObj_type (wpAny_newFunctionEnv hcell (by intro y hy; simp at hy) (fun h₁ hns₁ hsb₁ => ?_) hkind)
  dsimp only at hns₁ hsb₁ ⊢
  generalize hH1 : s₁.heap.push { cls := .type "list_iterator", data := .fields #[.ref ax, .int 0 0] } = H1 at hns₁ hsb₁ ⊢
  generalize hH2 : H1.push { cls := .type "list", dict := none, data := .seq ([] : List Value).toArray } = H2 at hns₁ hsb₁ ⊢
  have z1 : H1.objs.size = s₁.heap.objs.size + 1 := by rw [← hH1, Heap.size_push]
  have z2 : H2.objs.size = H1.objs.size + 1 := by rw [← hH2, Heap.size_push]
  have hID : (s₁.heap.objs.size : Addr) ≠ H1.objs.size := ne9 (by omega)
  have hIC : (s₁.heap.objs.size : Addr) ≠ H2.objs.size := ne9 (by omega)
  have hDC : (H1.objs.size : Addr) ≠ H2.objs.size := ne9 (by omega)
  have up : ∀ b o, s₁.heap.get? b = some o → h₁.get? b = some o := fun b o e => hsb₁.extBut b o (ne9 (by have := getLt e; omega)) (Heap.get?_push_of_some _ (by rw [← hH2]; exact Heap.get?_push_of_some _ (by rw [← hH1]; exact Heap.get?_push_of_some _ e)))
  have hI₁ : h₁.get? s₁.heap.objs.size = some { cls := .type "list_iterator", data := .fields #[.ref ax, .int 0 0] } := hsb₁.extBut _ _ hIC (Heap.get?_push_of_some _ (by rw [← hH2]; exact Heap.get?_push_of_some _ (by rw [← hH1]; exact Heap.get?_push_size _ rfl)))
  have hD₁ : h₁.get? H1.objs.size = some (LCg.lst []) := hsb₁.extBut _ _ hDC (Heap.get?_push_of_some _ (by rw [← hH2]; exact Heap.get?_push_size _ rfl))
  have old₀ : ∀ a : Addr, @LE.le Nat _ s₁.heap.objs.size a → h₀.get? a = none := fun a ha => by
    cases e : h₀.get? a with
    | none => rfl
    | some o' => have := getLt (F.keep a o' e); omega
  have hLlt : @LT.lt Nat _ L s₁.heap.objs.size := F.ns.lt
  have hLI : L ≠ s₁.heap.objs.size := ne9 (by omega)
  have hLD : L ≠ H1.objs.size := ne9 (by omega)
  have hLC : L ≠ H2.objs.size := ne9 (by omega)
  have hI₀ := old₀ s₁.heap.objs.size (Nat.le_refl _)
  have hD₀ := old₀ H1.objs.size (by omega)
  have hC₀ := old₀ H2.objs.size (by omega)
  have W := Walks.list (prog := prog) (w := w) hh s₁.heap.objs.size ax (ne9 (by have := getLt hax.1; omega)) its.toArray
  have hxk : Env.kindOf (compEnvC scope cl H2.objs.size env) x = some .local := lookup_relabel_local hx
  have hst₁ : h₁.IsListIter s₁.heap.objs.size ax 0 ∧ h₁.IsList ax its.toArray := ⟨⟨_, hI₁, rfl, rfl⟩, _, up _ _ hax.1, rfl, _, rfl⟩
  have loop : ∀ s₃ : Shared, s₃ = { s₁ with heap := h₁, toks := s₁.toks + ([] : List (Str × Value)).length } →
      codeG (model prog w) A (.compLoop (.ListComp elt [⟨.Name x px, iter, [], 0⟩] scope pos) 0 (.ref s₁.heap.objs.size) (.ref H1.objs.size) (compEnvC scope cl H2.objs.size env))
        (compDone Q (.ref H1.objs.size) H2.objs.size) s₃ := by
    rintro s₃ rfl
    refine codeG_compLoop (fun n s' => ∃ h' tk i ys m' news', s' = { s₁ with heap := h', toks := tk } ∧ i ≤ its.length ∧ ys.length = i ∧ n = its.length + 1 - i ∧ (h'.IsListIter s₁.heap.objs.size ax i ∧ h'.IsList ax its.toArray) ∧ Fr h₀ L h' m ∧ h'.Ns H2.objs.size m' ∧
        News h₀ L h' ((H1.objs.size, LCg.lst ys) :: (ax, srcO its k) :: news') ∧ (∀ p ∈ (ax, srcO its k) :: news', p.1 ≠ s₁.heap.objs.size ∧ p.1 ≠ H2.objs.size ∧ p.1 ≠ H1.objs.size) ∧ J i ys news') ?_ (its.length + 1)
      ⟨h₁, _, 0, [], _, news, rfl, Nat.zero_le _, rfl, rfl, hst₁, F.keeps up, hns₁, fun p hp => ?_, fun p hp => ?_, hJ⟩
    · rintro n s' ⟨h', tk, i, ys, m', news', rfl, hi, hyl, rfl, hst, F', hn', N', off', hJ'⟩
      by_cases hlt : i < its.length
      · refine wpG_of (W.item i _ _ _ (by simpa using hlt) hst fun v h₂ tk₂ hv hst₂ hk₂ => ?_)
        have hk₂' : ∀ b o, b ≠ s₁.heap.objs.size → h'.get? b = some o → h₂.get? b = some o := fun b o hb e => hk₂ b o (by simpa using hb) e
        refine wpG_of (wpAny_assign_Name (wpAny_storeName_local hxk (hn'.at' fun o e => hk₂' _ o (Ne.symm hIC) e) (fun h₃ hn₃ hs₃ => ?_) (by simp [compEnvC, relabel, hkind])))
        have k₃ : ∀ b o, b ≠ s₁.heap.objs.size → b ≠ H2.objs.size → h'.get? b = some o → h₃.get? b = some o := fun b o hb hc e => hs₃.extBut b o hc (hk₂' b o hb e)
        obtain ⟨oI, heI⟩ : ∃ o, h₃.get? s₁.heap.objs.size = some o := by obtain ⟨o, e, _⟩ := hst₂.1; exact ⟨o, hs₃.extBut _ _ hIC e⟩
        obtain ⟨oC, heC, hoC⟩ := LCg.ns_obj hn₃
        have F₃ : Fr h₀ L h₃ m := ⟨F'.ns.at' fun o e => k₃ _ o hLI hLC e, fun b o e => k₃ b o (fun q => by rw [q, hI₀] at e; cases e) (fun q => by rw [q, hC₀] at e; cases e) (F'.keep b o e), F'.above⟩
        have N₃ : News h₀ L h₃ ((s₁.heap.objs.size, oI) :: (H2.objs.size, oC) :: (H1.objs.size, LCg.lst ys) :: (ax, srcO its k) :: news') := fun p hp => by
          rcases List.mem_cons.mp hp with rfl | hp
          · exact ⟨heI, Ne.symm hLI, hI₀⟩
          rcases List.mem_cons.mp hp with rfl | hp
          · exact ⟨heC, Ne.symm hLC, hC₀⟩
          refine ⟨k₃ _ _ ?_ ?_ (N' p hp).1, (N' p hp).2⟩
          · rcases List.mem_cons.mp hp with rfl | hp
            · exact Ne.symm hID
            · exact (off' p hp).1
          · rcases List.mem_cons.mp hp with rfl | hp
            · exact hDC
            · exact (off' p hp).2.1
        have hv' : its[i]? = some v := by simpa using hv
        refine wpG_mono (turn i v ys news' _ oI _ oC _ _ h₃ _ hv' hJ' hoC (by simp) F₃ N₃ off' ⟨hIC, hID, Ne.symm hDC⟩) (fun y s₄ h₄ => ?_) fun _ _ f => f
        obtain ⟨h₄, tk₄, news₄, rfl, F₄, N₄, off₄, hJ₄⟩ := h₄
        have zI := (N₄ _ (.head _)).1
        have zC := (N₄ _ (.tail _ (.head _))).1
        have zD := (N₄ _ (.tail _ (.tail _ (.head _)))).1
        refine wpG_of (append_at (hsz := by show ys.toArray.size ≤ sizeLine; rw [List.size_toArray, hyl, sizeLine_eq]; omega) zD fun h₅ hs₅ hD₅ => ?_)
        refine ⟨its.length + 1 - (i + 1), by omega, h₅, tk₄, i + 1, ys ++ [y], _, news₄, rfl, hlt, by rw [List.length_append, List.length_singleton, hyl], rfl, ⟨?_, ?_⟩, F₄.change hs₅ (Ne.symm hLD) hD₀, (hoC.ns zC).sameBut hs₅ (Ne.symm hDC), fun p hp => ?_, off₄, hJ₄⟩
        · obtain ⟨o2, e, r⟩ := hst₂.1
          have e' := hs₃.extBut _ _ hIC e
          rw [heI] at e'
          cases e'
          exact ⟨_, hs₅.extBut _ _ hID zI, r⟩
        · exact ⟨_, hs₅.extBut _ _ (off₄ _ (.head _)).2.2 (N₄ _ (.tail _ (.tail _ (.tail _ (.head _))))).1, rfl, _, rfl⟩
        · rcases List.mem_cons.mp hp with rfl | hp
          · exact ⟨hD₅.trans (congrArg some (LCg.lst_snoc ys y)), Ne.symm hLD, hD₀⟩
          · have z := N₄ p (.tail _ (.tail _ (.tail _ hp)))
            exact ⟨hs₅.extBut _ _ (off₄ p hp).2.2 z.1, z.2⟩
      · have e : i = its.length := by omega
        subst e
        refine wpG_of (W.done _ _ _ (by simpa using hst) fun h₂ tk₂ hk₂ => ?_)
        have hk₂' : ∀ b o, b ≠ s₁.heap.objs.size → h'.get? b = some o → h₂.get? b = some o := fun b o hb e => hk₂ b o (by simpa using hb) e
        refine ⟨m', hn'.at' fun o e => hk₂' _ o (Ne.symm hIC) e, fun h'' hs'' => done ys news' _ h'' tk₂ hJ' ⟨F'.ns.at' fun o e => hs''.extBut _ _ hLC (hk₂' _ o hLI e), fun b o e => hs''.extBut _ _ (fun q => by rw [q, hC₀] at e; cases e) (hk₂' b o (fun q => by rw [q, hI₀] at e; cases e) (F'.keep b o e)), F'.above⟩ (fun p hp => ?_) fun p hp => (off' p (.tail _ hp)).2.2⟩
        rcases List.mem_cons.mp hp with rfl | hp
        · have z := N' _ (.head _)
          exact ⟨hs''.extBut _ _ hDC (hk₂' _ _ (Ne.symm hID) z.1), z.2⟩
        · have z := N' p (.tail _ (.tail _ hp))
          have o := off' p (.tail _ hp)
          exact ⟨hs''.extBut _ _ o.2.1 (hk₂' _ _ o.1 z.1), z.2⟩
    · rcases List.mem_cons.mp hp with rfl | hp
      · exact ⟨hD₁, Ne.symm hLD, hD₀⟩
      · exact ⟨up _ _ (N p hp).1, (N p hp).2⟩
    · have := getLt (N p hp).1
      exact ⟨ne9 (by omega), ne9 (by omega), ne9 (by omega)⟩
  exact codeG_compStart (loop _ rfl) (W.self 0 _ _ _ hst₁ (loop _ rfl))
end
end Mine
namespace Mine
section
variable {prog : Program} {w : World} {A : Around} {E : Value → Shared → Prop} {R : Result → Shared → Prop} {s : Shared} {h₀ : Heap} {L : Addr} {m : Str → Option Value} {env : Env}
def TestN (h₀ : Heap) (L : Addr) (m : Str → Option Value) (news : List (Addr × Obj)) (s₁ : Shared) (b : Bool) (s₂ : Shared) : Prop :=
  b = false ∧ ∃ h' tk', s₂ = { s₁ with heap := h', toks := tk' } ∧ Fr h₀ L h' m ∧ News h₀ L h' news
theorem TestN.mk {news : List (Addr × Obj)} {s₁ : Shared} {b : Bool} {h' : Heap} {tk' : Nat} (hb : b = false) (F : Fr h₀ L h' m) (N : News h₀ L h' news) : TestN h₀ L m news s₁ b { s₁ with heap := h', toks := tk' } := ⟨hb, h', tk', rfl, F, N⟩
def SrcN (prog : Program) (w : World) (A : Around) (h₀ : Heap) (L : Addr) (m : Str → Option Value) (env : Env) (test : Expr) (x : Str) (scope : Scope) (cl : List (Str × Addr)) (Q : Value → Shared → Prop) (xv : Value) (s₁ : Shared) : Prop :=
  ∃ (r : Addr) (b : Int) (t u v : Tok) (n : Nat) (news : List (Addr × Obj)), xv = .ref r ∧ A.handled = none ∧ Fr h₀ L s₁.heap m ∧ News h₀ L s₁.heap news ∧ IsRange s₁.heap r 0 b 1 t u v ∧ Builtin.Range.small 0 b 1 = true ∧ Builtin.Range.rangeSize 0 b 1 = (n : Int) ∧
    (∀ (i : Nat) t' I oI C oC D m₂ h tk E', i < n → LCg.NsObj oC m₂ → m₂ x = some (.int (i : Int) t') → Fr h₀ L h m → News h₀ L h ((I, oI) :: (C, oC) :: (D, LCg.lst []) :: news) → (∀ p ∈ news, p.1 ≠ I ∧ p.1 ≠ C ∧ p.1 ≠ D) → (I ≠ C ∧ I ≠ D ∧ C ≠ D) →
      wpAny (model prog w) A (isTrue test (compEnvC scope cl C env) (eval test (compEnvC scope cl C env))) (TestN h₀ L m ((I, oI) :: (C, oC) :: (D, LCg.lst []) :: news) s₁) E' { s₁ with heap := h, toks := tk }) ∧
    (∀ D h tk, Fr h₀ L h m → News h₀ L h ((D, LCg.lst []) :: news) → (∀ p ∈ news, p.1 ≠ D) → Q (.ref D) { s₁ with heap := h, toks := tk })
set_option maxHeartbeats 1000000 in
theorem ListComp_none {elt iter test : Expr} {x : Str} {px : Pos} {scope : Scope} {cl : List (Str × Addr)} {pos : Pos} {Q : Value → Shared → Prop}
    (_F : Fr h₀ L s.heap m) (hclos : closureFor scope env = pure cl) (hcell : ∀ y ∈ scope.names, y.2 ≠ .cell) (hkind : scope.kind = .function)
    (hnames : ∀ y ∈ scope.names, y.2 = .local → scope.names.lookup y.1 = some .local) (hx : scope.names.lookup x = some .local)
    (h : wpAny (model prog w) A (eval iter env) (SrcN prog w A h₀ L m env test x scope cl Q) E s)
    (hs : ∀ x, foldedSetIterable iter env x = pure x := by intro _; rfl) :
    wpAny (model prog w) A (eval (.ListComp elt [⟨.Name x px, iter, [test], 0⟩] scope pos) env) Q E s := by
  rw [eval_ListComp]
  refine wpAny_comprehension_free (use := none) rfl hs hclos hkind hnames (wpAny_mono h (fun xv s₁ h₁ => ?_) fun _ _ f => f)
  obtain ⟨r, b, t, u, v, n, news, rfl, hh, F, N, hr, hsmall, hn, turn, done⟩ := h₁
  refine wpAny_pyIter_range hr hsmall ?_
  refine wpAny_newObj_type (wpAny_newFunctionEnv hcell (by intro y hy; simp at hy) (fun h₁ hns₁ hsb₁ => ?_) hkind)
  dsimp only at hns₁ hsb₁ ⊢
  generalize hH1 : s₁.heap.push _ = H1 at hns₁ hsb₁ ⊢
  generalize hH2 : H1.push { cls := .type "list", dict := none, data := .seq ([] : List Value).toArray } = H2 at hns₁ hsb₁ ⊢
  have z1 : H1.objs.size = s₁.heap.objs.size + 1 := by rw [← hH1, Heap.size_push]
  have z2 : H2.objs.size = H1.objs.size + 1 := by rw [← hH2, Heap.size_push]
  have hID : (s₁.heap.objs.size : Addr) ≠ H1.objs.size := ne9 (by omega)
  have hIC : (s₁.heap.objs.size : Addr) ≠ H2.objs.size := ne9 (by omega)
  have hDC : (H1.objs.size : Addr) ≠ H2.objs.size := ne9 (by omega)
  have up : ∀ b o, s₁.heap.get? b = some o → h₁.get? b = some o := fun b o e => hsb₁.extBut b o (ne9 (by have := getLt e; omega)) (Heap.get?_push_of_some _ (by rw [← hH2]; exact Heap.get?_push_of_some _ (by rw [← hH1]; exact Heap.get?_push_of_some _ e)))
  have hI₁ : IsRangeIter h₁ s₁.heap.objs.size (0 + ((0 : Nat) : Int) * 1) ((n : Int) - ((0 : Nat) : Int)) 1 := by
    show h₁.get? _ = some _
    refine hsb₁.extBut _ _ hIC (Heap.get?_push_of_some _ (by rw [← hH2]; exact Heap.get?_push_of_some _ (by rw [← hH1, hn]; simpa using Heap.get?_push_size _ rfl)))
  have hD₁ : h₁.get? H1.objs.size = some (LCg.lst []) := hsb₁.extBut _ _ hDC (Heap.get?_push_of_some _ (by rw [← hH2]; exact Heap.get?_push_size _ rfl))
  have old₀ : ∀ a : Addr, @LE.le Nat _ s₁.heap.objs.size a → h₀.get? a = none := fun a ha => by
    cases e : h₀.get? a with
    | none => rfl
    | some o' => have := getLt (F.keep a o' e); omega
  have hLlt : @LT.lt Nat _ L s₁.heap.objs.size := F.ns.lt
  have hLI : L ≠ s₁.heap.objs.size := ne9 (by omega)
  have hLD : L ≠ H1.objs.size := ne9 (by omega)
  have hLC : L ≠ H2.objs.size := ne9 (by omega)
  have hI₀ := old₀ s₁.heap.objs.size (Nat.le_refl _)
  have hD₀ := old₀ H1.objs.size (by omega)
  have hC₀ := old₀ H2.objs.size (by omega)
  have off : ∀ p ∈ news, p.1 ≠ s₁.heap.objs.size ∧ p.1 ≠ H2.objs.size ∧ p.1 ≠ H1.objs.size := fun p hp => by
    have := getLt (N p hp).1
    exact ⟨ne9 (by omega), ne9 (by omega), ne9 (by omega)⟩
  have W := Walks.range (prog := prog) (w := w) hh s₁.heap.objs.size 0 1 n
  have hxk : Env.kindOf (compEnvC scope cl H2.objs.size env) x = some .local := lookup_relabel_local hx
  have loop : ∀ s₃ : Shared, s₃ = { s₁ with heap := h₁, toks := s₁.toks + ([] : List (Str × Value)).length } →
      codeAny (model prog w) A (.compLoop (.ListComp elt [⟨.Name x px, iter, [test], 0⟩] scope pos) 0 (.ref s₁.heap.objs.size) (.ref H1.objs.size) (compEnvC scope cl H2.objs.size env))
        (compPost (model prog w) A E none Q (.ref H1.objs.size) H2.objs.size) s₃ := by
    rintro s₃ rfl
    refine codeAny_compLoop_tests (fun k s' => ∃ h' tk i m', s' = { s₁ with heap := h', toks := tk } ∧ i ≤ n ∧ k = n + 1 - i ∧ IsRangeIter h' s₁.heap.objs.size (0 + ((i : Nat) : Int) * 1) ((n : Int) - ((i : Nat) : Int)) 1 ∧ Fr h₀ L h' m ∧ h'.Ns H2.objs.size m' ∧
        News h₀ L h' ((H1.objs.size, LCg.lst []) :: news)) ?_ (n + 1)
      ⟨h₁, _, 0, _, rfl, Nat.zero_le _, rfl, hI₁, F.keeps up, hns₁, fun p hp => ?_⟩
    · rintro k s' ⟨h', tk, i, m', rfl, hi, rfl, hst, F', hn', N'⟩
      by_cases hlt : i < n
      · refine W.item i _ _ _ hlt hst fun v₂ h₂ tk₂ hv hst₂ hk₂ => ?_
        have hk₂' : ∀ b o, b ≠ s₁.heap.objs.size → h'.get? b = some o → h₂.get? b = some o := fun b o hb e => hk₂ b o (by simpa using hb) e
        obtain ⟨t', rfl⟩ := hv
        refine wpAny_assign_Name (wpAny_storeName_local hxk (hn'.at' fun o e => hk₂' _ o (Ne.symm hIC) e) (fun h₃ hn₃ hs₃ => ?_) (by simp [compEnvC, relabel, hkind]))
        have k₃ : ∀ b o, b ≠ s₁.heap.objs.size → b ≠ H2.objs.size → h'.get? b = some o → h₃.get? b = some o := fun b o hb hc e => hs₃.extBut b o hc (hk₂' b o hb e)
        have hI₃ : h₃.get? s₁.heap.objs.size = some _ := hs₃.extBut _ _ hIC hst₂
        obtain ⟨oC, heC, hoC⟩ := LCg.ns_obj hn₃
        have F₃ : Fr h₀ L h₃ m := ⟨F'.ns.at' fun o e => k₃ _ o hLI hLC e, fun b o e => k₃ b o (fun q => by rw [q, hI₀] at e; cases e) (fun q => by rw [q, hC₀] at e; cases e) (F'.keep b o e), F'.above⟩
        have N₃ : News h₀ L h₃ ((s₁.heap.objs.size, _) :: (H2.objs.size, oC) :: (H1.objs.size, LCg.lst []) :: news) := fun p hp => by
          rcases List.mem_cons.mp hp with rfl | hp
          · exact ⟨hI₃, Ne.symm hLI, hI₀⟩
          rcases List.mem_cons.mp hp with rfl | hp
          · exact ⟨heC, Ne.symm hLC, hC₀⟩
          refine ⟨k₃ _ _ ?_ ?_ (N' p hp).1, (N' p hp).2⟩
          · rcases List.mem_cons.mp hp with rfl | hp
            · exact Ne.symm hID
            · exact (off p hp).1
          · rcases List.mem_cons.mp hp with rfl | hp
            · exact hDC
            · exact (off p hp).2.1
        refine wpAny_tests_one (wpAny_mono (turn i t' _ _ _ oC _ _ h₃ _ _ hlt hoC (by simp) F₃ N₃ off ⟨hIC, hID, Ne.symm hDC⟩) (fun b₂ s₄ h₄ => ?_) fun _ _ f => f)
        obtain ⟨rfl, h₄, tk₄, rfl, F₄, N₄⟩ := h₄
        simp only [Bool.false_eq_true, if_false]
        have zC := (N₄ _ (.tail _ (.head _))).1
        refine ⟨n + 1 - (i + 1), by omega, h₄, tk₄, i + 1, _, rfl, hlt, rfl, (N₄ _ (.head _)).1, F₄, hoC.ns zC, fun p hp => N₄ p (.tail _ (.tail _ hp))⟩
      · have e : i = n := by omega
        subst e
        refine W.done _ _ _ hst fun h₂ tk₂ hk₂ => ?_
        have hk₂' : ∀ b o, b ≠ s₁.heap.objs.size → h'.get? b = some o → h₂.get? b = some o := fun b o hb e => hk₂ b o (by simpa using hb) e
        refine ⟨m', hn'.at' fun o e => hk₂' _ o (Ne.symm hIC) e, fun h'' hs'' => done _ h'' tk₂ ⟨F'.ns.at' fun o e => hs''.extBut _ _ hLC (hk₂' _ o hLI e), fun b o e => hs''.extBut _ _ (fun q => by rw [q, hC₀] at e; cases e) (hk₂' b o (fun q => by rw [q, hI₀] at e; cases e) (F'.keep b o e)), F'.above⟩ (fun p hp => ?_) fun p hp => (off p hp).2.2⟩
        rcases List.mem_cons.mp hp with rfl | hp
        · have z := N' _ (.head _)
          exact ⟨hs''.extBut _ _ hDC (hk₂' _ _ (Ne.symm hID) z.1), z.2⟩
        · have z := N' p (.tail _ hp)
          have o := off p hp
          exact ⟨hs''.extBut _ _ o.2.1 (hk₂' _ _ o.1 z.1), z.2⟩
    · rcases List.mem_cons.mp hp with rfl | hp
      · exact ⟨hD₁, Ne.symm hLD, hD₀⟩
      · exact ⟨up _ _ (N p hp).1, (N p hp).2⟩
  exact codeAny_compStart_list (loop _ rfl) (W.self 0 _ _ _ hI₁ (loop _ rfl))
end
end Mine
namespace Mine
local macro_rules | `(tactic| k_room) => `(tactic| ktr_room)
local macro_rules | `(tactic| k_units) => `(tactic| ktr_units)
local macro_rules | `(tactic| walk_at $s:str) => `(tactic| k_extra $s)
section
theorem unrEndW_one {h₀ : Heap} {L : Addr} {s₁ : Shared} {h' : Heap} {tk : Nat} {m' : Str → Option Value} {i : Addr} {o : Obj} {own : List (Addr × Obj)} {rest : (Str → Option Value) → List (Addr × Obj) → Prop}
    (F : Fr h₀ L h' m') (N : News h₀ L h' ((i, o) :: own)) (l : ∀ p ∈ own, p.1 < i) (r : rest m' own) : UnrEndW h₀ L s₁ [(i, o)] rest { s₁ with heap := h', toks := tk } :=
  ⟨h', tk, m', own, rfl, F, N, fun p hp q hq => by rw [List.mem_singleton.mp hq]; exact Nat.ne_of_lt (l p hp), r⟩
set_option maxRecDepth 100000 in
set_option maxHeartbeats 8000000 in
theorem vsize_spec : ∀ (w : World) (loose : List Str) (mean : ExcName → Option Value) (mg mb : Str → Option Value) (dp un : Nat) (gd : Option (List Code)) (cn : Str) (cs : Scope) (a : Addr) (ccd : Value) (cl : List (Str × Addr)) (outer : List Env) (A₀ : Around) (base h₀ : Heap) (L : Addr) (m : Str → Option Value) (s : Shared) (Q E : Value → Shared → Prop)
    (n : Int) (tk : Tok) (own : List (Addr × Obj)),
    Below A₀ base outer h₀ → Fr h₀ L s.heap m → (hd.heap_39 w.params).In h₀ → News h₀ L s.heap own →
    Top myView loose mean mg mb h₀ → cs.kind = .function → dp + 8 < recursionLimit → un + 80 < cLine → 0 ≤ n → n < 16384 →
    (∀ t h' tk', Fr h₀ L h' m → News h₀ L h' own → Q (.int (if n < 64 then 1 else 2) t) {s with heap := h', toks := tk'}) →
    wpAny (model PySem.Challenge.rw_tk0092_01.row.prog w) (ktrTop dp un gd cn cs L a ccd cl outer) (call (.ref 83) [.int n tk]) Q E s := by
  k_with_none
  k_with "exec For Name Name cons nil" => (k_here; (rename Fr _ _ _ _ => lF'); (with_unfolding_all refine' For_turnsG lF' ?g ?_; (case g => exact rfl); k_whole))
  k_with "UnrEndW" => (refine unrEndW_one (by assumption) (by assumption) (by assumption) ⟨trivial, ?_⟩)
  w_on
  k_fill
  intro w loose mean mg mb dp un gd cn cs a ccd cl outer A₀ base h₀ L m s Q E n tk own B F X N T hk hd hu h0 h1 hret
  have hMark := kstMark
  refine wpAny_call ?_
  k_dflt cell_enter
  k_steps
  all_goals first
    | (exfalso; (try simp only [decide_eq_true_eq, decide_eq_false_iff_not, Int.reduceMul, Int.reduceSub, Int.reduceToNat, Int.reducePow, Int.one_mul, Nat.reducePow] at *); omega)
    | (have e : n < 64 := by (try simp only [decide_eq_true_eq, decide_eq_false_iff_not, Int.reduceMul, Int.reduceSub, Int.reduceToNat, Int.reducePow, Int.one_mul, Nat.reducePow] at *); omega
       rw [if_pos e] at hret
       refine' hret _ _ _ ?a ?b; (case a => k_asm); (case b => exact fun p hp => (by assumption : News _ _ _ _) p (.tail _ hp)))
    | (have e : ¬ n < 64 := by (try simp only [decide_eq_true_eq, decide_eq_false_iff_not, Int.reduceMul, Int.reduceSub, Int.reduceToNat, Int.reducePow, Int.one_mul, Nat.reducePow] at *); omega
       rw [if_neg e] at hret
       refine' hret _ _ _ ?a ?b; (case a => k_asm); (case b => exact fun p hp => (by assumption : News _ _ _ _) p (.tail _ hp)))
end
section
theorem unrEnd_tail {h₀ : Heap} {L I : Addr} {it : Obj} {rest : (Str → Option Value) → List (Addr × Obj) → Prop} {s₁ : Shared} {h' : Heap} {tk : Nat} {m' : Str → Option Value} {own : List (Addr × Obj)}
    (F : Fr h₀ L h' m') (N : News h₀ L h' ((I, it) :: own)) (l : AllLt I own) (r : rest m' own) : UnrEnd h₀ L s₁ I it rest { s₁ with heap := h', toks := tk } :=
  ⟨h', tk, m', own, rfl, F, N, fun p hp => Nat.ne_of_lt (tb_ltOf l p hp), r⟩
set_option maxRecDepth 100000 in
set_option maxHeartbeats 8000000 in
theorem putw1_spec : ∀ (w : World) (loose : List Str) (mean : ExcName → Option Value) (mg mb : Str → Option Value) (dp un : Nat) (gd : Option (List Code)) (cn : Str) (cs : Scope) (a : Addr) (ccd : Value) (cl : List (Str × Addr)) (outer : List Env) (A₀ : Around) (base h₀ : Heap) (L : Addr) (m : Str → Option Value) (s : Shared) (Q : Value → Shared → Prop)
    (n : Int) (tk tz : Tok) (own : List (Addr × Obj)),
    Below A₀ base outer h₀ → Fr h₀ L s.heap m → (hd.heap_39 w.params).In h₀ → News h₀ L s.heap own →
    Top myView loose mean mg mb h₀ → cs.kind = .function → dp + 8 < recursionLimit → un + 80 < cLine → 0 ≤ n → n < 256 →
    (∀ t h' tk', Fr h₀ L h' m → News h₀ L h' own → Q (.bytes (byteArr [n]) t) {s with heap := h', toks := tk'}) →
    wpG (model PySem.Challenge.rw_tk0092_01.row.prog w) (ktrTop dp un gd cn cs L a ccd cl outer) (call (.ref 69) [.int n tk, .int 1 tz]) Q (fun _ _ => False) s := by
  k_with_none
  k_with "UnrEnd" => (refine unrEnd_tail (by assumption) (by assumption) (by assumption) ?_)
  k_with "setItem ref int" => (k_here; (with_reducible show wpAny _ _ (setItem (Value.ref _) (Value.int _ _) (Value.int _ _)) _ _ _); (refine' ba_setU ?F ?N ?U ?k0 ?k1 ?hs ?v0 ?v1 ?_; (case F => k_asm); (case N => k_asm); (case U => k_upd); (case k0 => decide); (case k1 => (simp; done)); (case hs => (simp; done)); (case v0 => exact fmod_lo _ (by decide)); (case v1 => exact fmod_hi _ (by decide))); intro h' F' N'; (try k_sweep))
  k_with "call type:bytes" => (k_here; (with_reducible show wpAny _ _ (call (Value.type "bytes") [Value.ref _]) _ _ _); (rename News _ _ _ _ => nB); (refine call_bytes_ba (nB (_, _) (by k_mem)).1 (by simp) ?_); intro t' tk')
  w_on
  k_fill
  intro w loose mean mg mb dp un gd cn cs a ccd cl outer A₀ base h₀ L m s Q n tk tz own B F X N T hk hdp hu h0 h1 hret
  have hMark := kstMark
  refine wpG_call ?_
  (refine' defG ?k1 ?k2 ?k3 ?k4 ?k5 ?kA ?kF ?kK ?k6 ?k7 ?k8 ?k9 ?kB ?_ ?c2 ?c3 ?c4 ?c5; (case kA => exact rfl); (case kF => exact rfl); (case kK => assumption); (case k1 => k_asm); (case k2 => k_asm); (case k3 => k_asm); (case k4 => k_asm); (case k5 => k_asm); (case k6 => k_is); (case k7 => k_is); (case k8 => ktr_room); (case k9 => exact BindsTo.of_eq rfl); (case c5 => decide); (case kB => exact locs rfl); (case c2 => exact rfl); (case c3 => exact rfl); (case c4 => exact rfl); k_whole; intro g' L' h' FG' F' N' B' X' T'; (try dsimp only))
  have hz : n.fdiv (2 ^ (8 * 1 : Int).toNat) = 0 := by
    rw [Int.fdiv_eq_ediv_of_nonneg n (by decide)]
    have e : (2 : Int) ^ (8 * 1 : Int).toNat = 256 := by decide
    rw [e]; omega
  refine wpG_execs_cons (wpG_of ?_)
  k_fold
  k_steps
  · exact absurd hz (by assumption)
  refine wpG_execs_cons (wpG_Assign_Name (wpG_Call (wpG_of ?_)))
  k_fold
  k_steps
  refine wpG_callWithT (wpG_of ?_)
  k_fold
  k_steps
  rename Fr _ _ _ _ => F1
  rename News _ _ _ _ => N1
  refine call_baN F1 N1 (by decide) (by decide) ?_
  intro x h2 F2 N2 lx
  have e1 : Array.replicate (1 : Int).toNat (0 : UInt8) = #[0] := by decide
  rw [e1] at N2
  clear F1 N1
  (try k_fold)
  k_steps
  refine wpG_of ?_
  k_fold
  k_steps
  have e2 : (#[0].setIfInBounds (Int.toNat 0) (n.fmod 256).toNat.toUInt8) = byteArr [n] := by
    have e3 : n.fmod 256 = n := by rw [Int.fmod_eq_emod_of_nonneg n (by decide)]; omega
    rw [e3]; rfl
  refine e2 ▸ hret _ _ _ ?_ ?_
  · k_asm
  · exact fun p hp => (by assumption : News _ _ _ _) p (.tail _ hp)
set_option maxRecDepth 100000 in
set_option maxHeartbeats 8000000 in
theorem putw2_spec : ∀ (w : World) (loose : List Str) (mean : ExcName → Option Value) (mg mb : Str → Option Value) (dp un : Nat) (gd : Option (List Code)) (cn : Str) (cs : Scope) (a : Addr) (ccd : Value) (cl : List (Str × Addr)) (outer : List Env) (A₀ : Around) (base h₀ : Heap) (L : Addr) (m : Str → Option Value) (s : Shared) (Q : Value → Shared → Prop)
    (n : Int) (tk tz : Tok) (own : List (Addr × Obj)),
    Below A₀ base outer h₀ → Fr h₀ L s.heap m → (hd.heap_39 w.params).In h₀ → News h₀ L s.heap own →
    Top myView loose mean mg mb h₀ → cs.kind = .function → dp + 8 < recursionLimit → un + 80 < cLine → 0 ≤ n → n < 65536 →
    (∀ t h' tk', Fr h₀ L h' m → News h₀ L h' own → Q (.bytes (byteArr [n.fdiv 256, n.fmod 256]) t) {s with heap := h', toks := tk'}) →
    wpG (model PySem.Challenge.rw_tk0092_01.row.prog w) (ktrTop dp un gd cn cs L a ccd cl outer) (call (.ref 69) [.int n tk, .int 2 tz]) Q (fun _ _ => False) s := by
  k_with_none
  k_with "UnrEnd" => (refine unrEnd_tail (by assumption) (by assumption) (by assumption) ?_)
  k_with "setItem ref int" => (k_here; (with_reducible show wpAny _ _ (setItem (Value.ref _) (Value.int _ _) (Value.int _ _)) _ _ _); (refine' ba_setU ?F ?N ?U ?k0 ?k1 ?hs ?v0 ?v1 ?_; (case F => k_asm); (case N => k_asm); (case U => k_upd); (case k0 => decide); (case k1 => (simp; done)); (case hs => (simp; done)); (case v0 => exact fmod_lo _ (by decide)); (case v1 => exact fmod_hi _ (by decide))); intro h' F' N'; (try k_sweep))
  k_with "call type:bytes" => (k_here; (with_reducible show wpAny _ _ (call (Value.type "bytes") [Value.ref _]) _ _ _); (rename News _ _ _ _ => nB); (refine call_bytes_ba (nB (_, _) (by k_mem)).1 (by simp) ?_); intro t' tk')
  w_on
  k_fill
  intro w loose mean mg mb dp un gd cn cs a ccd cl outer A₀ base h₀ L m s Q n tk tz own B F X N T hk hdp hu h0 h1 hret
  have hMark := kstMark
  refine wpG_call ?_
  (refine' defG ?k1 ?k2 ?k3 ?k4 ?k5 ?kA ?kF ?kK ?k6 ?k7 ?k8 ?k9 ?kB ?_ ?c2 ?c3 ?c4 ?c5; (case kA => exact rfl); (case kF => exact rfl); (case kK => assumption); (case k1 => k_asm); (case k2 => k_asm); (case k3 => k_asm); (case k4 => k_asm); (case k5 => k_asm); (case k6 => k_is); (case k7 => k_is); (case k8 => ktr_room); (case k9 => exact BindsTo.of_eq rfl); (case c5 => decide); (case kB => exact locs rfl); (case c2 => exact rfl); (case c3 => exact rfl); (case c4 => exact rfl); k_whole; intro g' L' h' FG' F' N' B' X' T'; (try dsimp only))
  have hz : n.fdiv (2 ^ (8 * 2 : Int).toNat) = 0 := by
    rw [Int.fdiv_eq_ediv_of_nonneg n (by decide)]
    have e : (2 : Int) ^ (8 * 2 : Int).toNat = 65536 := by decide
    rw [e]; omega
  refine wpG_execs_cons (wpG_of ?_)
  k_fold
  k_steps
  · exact absurd hz (by assumption)
  refine wpG_execs_cons (wpG_Assign_Name (wpG_Call (wpG_of ?_)))
  k_fold
  k_steps
  refine wpG_callWithT (wpG_of ?_)
  k_fold
  k_steps
  rename Fr _ _ _ _ => F1
  rename News _ _ _ _ => N1
  refine call_baN F1 N1 (by decide) (by decide) ?_
  intro x h2 F2 N2 lx
  have e1 : Array.replicate (2 : Int).toNat (0 : UInt8) = #[0, 0] := by decide
  rw [e1] at N2
  clear F1 N1
  (try k_fold)
  k_steps
  refine wpG_of ?_
  k_fold
  k_steps
  have e2 : ((#[0, 0].setIfInBounds (Int.toNat 1) (n.fmod 256).toNat.toUInt8).setIfInBounds (Int.toNat 0) ((n.fdiv 256).fmod 256).toNat.toUInt8) = byteArr [n.fdiv 256, n.fmod 256] := by
    have e3 : (n.fdiv 256).fmod 256 = n.fdiv 256 := by
      rw [Int.fdiv_eq_ediv_of_nonneg n (by decide), Int.fmod_eq_emod_of_nonneg _ (by decide)]; omega
    rw [e3]; rfl
  refine e2 ▸ hret _ _ _ ?_ ?_
  · k_asm
  · exact fun p hp => (by assumption : News _ _ _ _) p (.tail _ hp)
end
section
set_option maxRecDepth 100000 in
set_option maxHeartbeats 8000000 in
theorem put_spec : ∀ (w : World) (loose : List Str) (mean : ExcName → Option Value) (mg mb : Str → Option Value) (dp un : Nat) (gd : Option (List Code)) (cn : Str) (cs : Scope) (a : Addr) (ccd : Value) (cl : List (Str × Addr)) (outer : List Env) (A₀ : Around) (base h₀ : Heap) (L : Addr) (m : Str → Option Value) (s : Shared) (Q : Value → Shared → Prop)
    (n : Int) (tk : Tok) (own : List (Addr × Obj)),
    Below A₀ base outer h₀ → Fr h₀ L s.heap m → (hd.heap_39 w.params).In h₀ → News h₀ L s.heap own →
    Top myView loose mean mg mb h₀ → cs.kind = .function → dp + 10 < recursionLimit → un + 100 < cLine → 0 ≤ n → n < 16384 →
    (∀ t h' tk', Fr h₀ L h' m → News h₀ L h' own → Q (.bytes (byteArr (if n < 64 then [n] else [64 + n.fdiv 256, n.fmod 256])) t) {s with heap := h', toks := tk'}) →
    wpG (model PySem.Challenge.rw_tk0092_01.row.prog w) (ktrTop dp un gd cn cs L a ccd cl outer) (call (.ref 90) [.int n tk, .none]) Q (fun _ _ => False) s := by
  k_with_none
  k_with "call ref" => (k_here; k_dflt (refine' vsize_spec _ _ _ _ _ _ _ _ _ _ _ _ _ _ _ _ _ _ _ _ _ _ _ _ _ ?B ?F ?X ?N ?T ?hk ?dp ?un ?h0 ?h1 ?_; (case B => k_asm); (case F => k_asm); (case X => k_asm); (case N => k_asm); (case T => k_asm); (case hk => exact rfl); (case dp => ktr_room); (case un => ktr_units); (case h0 => omega); (case h1 => omega)); intro t9 h9 tk9 F9 N9; (try k_sweep); (try dsimp only))
  k_with "compareOp NotIn int ref" => (k_here; k_dflt (refine' notin_tuple_ints ?k1 ?k2 ?_; (case k1 => exact tupK (Frag.In.keeps (by k_asm) (Fr.keep (by k_asm))) (by k_is)); (case k2 => (repeat constructor)); k_whole))
  k_with "getMethod ref" => (k_here; k_dflt (refine' getMethod_index ?k1 ?_; (case k1 => exact (Frag.In.keeps (by k_asm) (Fr.keep (by k_asm))) _ _ (by k_is)); k_whole))
  k_with "call builtin:tuple.index" => (k_here; k_dflt (refine' tup_index ?k1 ?k2 ?_; (case k1 => exact (Frag.In.keeps (by k_asm) (Fr.keep (by k_asm))) _ _ (by k_is)); (case k2 => (first | exact .inl rfl | exact .inr rfl)); k_whole))
  w_on
  k_fill
  intro w loose mean mg mb dp un gd cn cs a ccd cl outer A₀ base h₀ L m s Q n tk own B F X N T hk hdp hu h0 h1 hret
  have hMark := kstMark
  refine wpG_call ?_
  (refine' defG ?k1 ?k2 ?k3 ?k4 ?k5 ?kA ?kF ?kK ?k6 ?k7 ?k8 ?k9 ?kB ?_ ?c2 ?c3 ?c4 ?c5; (case kA => exact rfl); (case kF => exact rfl); (case kK => assumption); (case k1 => k_asm); (case k2 => k_asm); (case k3 => k_asm); (case k4 => k_asm); (case k5 => k_asm); (case k6 => k_is); (case k7 => k_is); (case k8 => ktr_room); (case k9 => exact BindsTo.of_eq rfl); (case c5 => decide); (case kB => exact locs rfl); (case c2 => exact rfl); (case c3 => exact rfl); (case c4 => exact rfl); k_whole; intro g' L' h' FG' F' N' B' X' T'; (try dsimp only))
  refine wpG_execs_cons (wpG_of ?_)
  k_fold
  k_steps
  refine wpG_execs_cons (wpG_of ?_)
  k_fold
  k_steps
  by_cases hn : n < 64
  · simp only [if_pos hn] at *
    refine wpG_execs_cons (wpG_of ?_)
    k_fold
    k_steps
    refine wpG_execs_cons (wpG_Return (wpG_Call (wpG_of ?_)))
    k_fold
    k_steps
    refine wpG_callWithK (K := Mine.hd.heap_39 w.params) (by k_is) (wpG_of ?_)
    k_fold
    k_steps
    rw [or_one]
    (refine' putw1_spec _ _ _ _ _ _ _ _ _ _ _ _ _ _ _ _ _ _ _ _ _ _ _ _ _ ?B ?F ?X ?N ?T ?hk ?dp ?un ?h0 ?h1 ?ret; (case B => k_asm); (case F => k_asm); (case X => k_asm); (case N => k_asm); (case T => k_asm); (case hk => exact rfl); (case dp => ktr_room); (case un => ktr_units); (case h0 => omega); (case h1 => omega))
    intro t9 h9 tk9 F9 N9
    k_steps
    refine hret _ _ _ ?_ ?_ <;> k_asm
  · simp only [if_neg hn] at *
    refine wpG_execs_cons (wpG_of ?_)
    k_fold
    k_steps
    refine wpG_execs_cons (wpG_Return (wpG_Call (wpG_of ?_)))
    k_fold
    k_steps
    refine wpG_callWithK (K := Mine.hd.heap_39 w.params) (by k_is) (wpG_of ?_)
    k_fold
    k_steps
    rw [or_two n h0 h1]
    (refine' putw2_spec _ _ _ _ _ _ _ _ _ _ _ _ _ _ _ _ _ _ _ _ _ _ _ _ _ ?Bz ?Fz ?Xz ?Nz ?Tz ?hkz ?dpz ?unz ?h0z ?h1z ?retz; (case Bz => k_asm); (case Fz => k_asm); (case Xz => k_asm); (case Nz => k_asm); (case Tz => k_asm); (case hkz => exact rfl); (case dpz => ktr_room); (case unz => ktr_units); (case h0z => omega); (case h1z => omega))
    intro t9 h9 tk9 F9 N9
    have e9 : [Int.fdiv (16384 + n) 256, Int.fmod (16384 + n) 256] = [64 + n.fdiv 256, n.fmod 256] := by
      rw [Int.fdiv_eq_ediv_of_nonneg _ (by decide), Int.fdiv_eq_ediv_of_nonneg _ (by decide), Int.fmod_eq_emod_of_nonneg _ (by decide), Int.fmod_eq_emod_of_nonneg _ (by decide)]
      congr 1
      · omega
      · congr 1; omega
    rw [e9]
    k_steps
    refine hret _ _ _ ?_ ?_ <;> k_asm
end
section
theorem u8 (n : Int) (h0 : 0 ≤ n) (h1 : n < 256) : (n.toNat.toUInt8.toNat : Int) = n := by
  have e : n.toNat.toUInt8.toNat = n.toNat % 256 := by simp [Nat.toUInt8]
  rw [e]; omega
theorem neOf {own : List (Addr × Obj)} {r : Addr} (h : ∀ p ∈ own, p.1 < r) : ∀ p ∈ own, p.1 ≠ r := fun p hp => Nat.ne_of_lt (h p hp)
theorem bitAnd_63 (x : Int) (h : 0 ≤ x) : Builtin.bitAnd x 63 = x % 64 := by
  rw [bitAnd_pp h (by decide)]
  have e : x.toNat &&& (63 : Int).toNat = x.toNat % 2 ^ 6 := Nat.and_two_pow_sub_one_eq_mod x.toNat 6
  rw [e]
  have : (2 : Nat) ^ 6 = 64 := by decide
  omega
theorem and_one (n : Int) (h0 : 0 ≤ n) (h1 : n < 64) : Builtin.bitAnd (0 * 256 + n) (1 * 2 ^ (8 * 1 - 2 : Int).toNat - 1) = n := by
  have e : (1 * 2 ^ (8 * 1 - 2 : Int).toNat - 1 : Int) = 63 := by decide
  rw [e, bitAnd_63 _ (by omega)]; omega
theorem and_two (n : Int) (h0 : 0 ≤ n) (h1 : n < 16384) : Builtin.bitAnd ((0 * 256 + (64 + n.fdiv 256)) * 256 + n.fmod 256) (1 * 2 ^ (8 * 2 - 2 : Int).toNat - 1) = n := by
  have e : (1 * 2 ^ (8 * 2 - 2 : Int).toNat - 1 : Int) = 16383 := by decide
  rw [e, Int.fdiv_eq_ediv_of_nonneg _ (by decide), Int.fmod_eq_emod_of_nonneg _ (by decide), bitAnd_14 _ (by omega)]; omega
set_option maxRecDepth 100000 in
set_option maxHeartbeats 8000000 in
theorem get1_spec : ∀ (w : World) (loose : List Str) (mean : ExcName → Option Value) (mg mb : Str → Option Value) (dp un : Nat) (gd : Option (List Code)) (cn : Str) (cs : Scope) (a : Addr) (ccd : Value) (cl : List (Str × Addr)) (outer : List Env) (A₀ : Around) (base h₀ : Heap) (L : Addr) (m : Str → Option Value) (s : Shared) (Q E : Value → Shared → Prop)
    (n : Int) (b : Array UInt8) (tk tz : Tok) (own : List (Addr × Obj)),
    Below A₀ base outer h₀ → Fr h₀ L s.heap m → (hd.heap_39 w.params).In h₀ → News h₀ L s.heap own →
    Top myView loose mean mg mb h₀ → cs.kind = .function → dp + 10 < recursionLimit → un + 100 < cLine → 0 ≤ n → n < 64 → KBw.bInts b = [n] →
    (∀ r t1 t2 h' tk', Fr h₀ L h' m → News h₀ L h' ((r, { cls := .type "tuple", data := .seq [Value.int n t1, Value.int 1 t2].toArray }) :: own) → (∀ p ∈ own, p.1 ≠ r) → Q (.ref r) {s with heap := h', toks := tk'}) →
    wpAny (model PySem.Challenge.rw_tk0092_01.row.prog w) (ktrTop dp un gd cn cs L a ccd cl outer) (call (.ref 97) [.bytes b tk, .int 0 tz]) Q E s := by
  k_with_none
  k_with "subscriptTail" => (k_here; (with_reducible show wpAny _ _ (subscriptTail _ _ (Value.ref _) (Value.int (Int.fdiv _ _) _)) _ _ _); rw [(by assumption : Int.fdiv _ (2 ^ Int.toNat 6) = _)])
  k_with "exec For Name Subscript cons nil" => (k_here; (rename Fr _ _ _ _ => lF'); (with_unfolding_all refine' For_invVF lF' ?k1 ?k2 ?_; (case k1 => exact rfl); (case k2 => exact rfl); k_whole))
  k_with "pyIter bytes" => ((with_reducible show wpAny _ _ (pyIter (Value.bytes _ _)) (fun it s₂ => LoopAtV _ _ _ _ _ _ _ _ _ it s₂) _ _); (rename KBw.bInts (KBy.picked _ _ _) = _ => kq); (rename Fr _ _ _ _ => lF'); (rename News _ _ _ _ => lN'); (with_unfolding_all refine iter_bytesUnr (l := [_]) (by rfl) lF' lN' (kq.trans (by rfl)) ?_); clear lF' lN'; intro i' l1; (try k_lt l1))
  k_with "UnrEnd" => (refine unrEnd_tail (by assumption) (by assumption) (by first | assumption | exact allLt_of (by assumption)) ?_)
  w_on
  k_fill
  intro w loose mean mg mb dp un gd cn cs a ccd cl outer A₀ base h₀ L m s Q E n b tk tz own B F X N T hk hdp hu h0 h1 hb hret
  have hMark := kstMark
  refine wpAny_call ?_
  k_dflt cell_enter
  have hz : n.fdiv (2 ^ Int.toNat 6) = 0 := by
    rw [Int.fdiv_eq_ediv_of_nonneg n (by decide)]
    have e : (2 : Int) ^ Int.toNat 6 = 64 := by decide
    rw [e]; omega
  have hl : (b.size : Int) = 1 := by have := KBw.ints_length b; rw [hb] at this; simp at this; omega
  k_steps
  · exfalso; first | (simp at *; done) | (simp at *; omega)
  all_goals (rename News _ _ _ _ => nA; rw [and_one n h0 h1] at nA; exact hret _ _ _ _ _ (by k_asm) nA (neOf (by first | assumption | exact tb_ltOf (by assumption))))
end
section
set_option maxRecDepth 100000 in
set_option maxHeartbeats 8000000 in
theorem get2_spec : ∀ (w : World) (loose : List Str) (mean : ExcName → Option Value) (mg mb : Str → Option Value) (dp un : Nat) (gd : Option (List Code)) (cn : Str) (cs : Scope) (a : Addr) (ccd : Value) (cl : List (Str × Addr)) (outer : List Env) (A₀ : Around) (base h₀ : Heap) (L : Addr) (m : Str → Option Value) (s : Shared) (Q E : Value → Shared → Prop)
    (n : Int) (b : Array UInt8) (tk tz : Tok) (own : List (Addr × Obj)),
    Below A₀ base outer h₀ → Fr h₀ L s.heap m → (hd.heap_39 w.params).In h₀ → News h₀ L s.heap own →
    Top myView loose mean mg mb h₀ → cs.kind = .function → dp + 10 < recursionLimit → un + 100 < cLine → 0 ≤ n → n < 16384 → KBw.bInts b = [64 + n.fdiv 256, n.fmod 256] →
    (∀ r t1 t2 h' tk', Fr h₀ L h' m → News h₀ L h' ((r, { cls := .type "tuple", data := .seq [Value.int n t1, Value.int 2 t2].toArray }) :: own) → (∀ p ∈ own, p.1 ≠ r) → Q (.ref r) {s with heap := h', toks := tk'}) →
    wpAny (model PySem.Challenge.rw_tk0092_01.row.prog w) (ktrTop dp un gd cn cs L a ccd cl outer) (call (.ref 97) [.bytes b tk, .int 0 tz]) Q E s := by
  k_with_none
  k_with "subscriptTail" => (k_here; (with_reducible show wpAny _ _ (subscriptTail _ _ (Value.ref _) (Value.int (Int.fdiv _ _) _)) _ _ _); rw [(by assumption : Int.fdiv _ (2 ^ Int.toNat 6) = _)])
  k_with "exec For Name Subscript cons nil" => (k_here; (rename Fr _ _ _ _ => lF'); (with_unfolding_all refine' For_invVF lF' ?k1 ?k2 ?_; (case k1 => exact rfl); (case k2 => exact rfl); k_whole))
  k_with "pyIter bytes" => ((with_reducible show wpAny _ _ (pyIter (Value.bytes _ _)) (fun it s₂ => LoopAtV _ _ _ _ _ _ _ _ _ it s₂) _ _); (rename KBw.bInts (KBy.picked _ _ _) = _ => kq); (rename Fr _ _ _ _ => lF'); (rename News _ _ _ _ => lN'); (with_unfolding_all refine iter_bytesUnr (l := [_, _]) (by rfl) lF' lN' (kq.trans (by rfl)) ?_); clear lF' lN'; intro i' l1; (try k_lt l1))
  k_with "UnrEnd" => (refine unrEnd_tail (by assumption) (by assumption) (by first | assumption | exact allLt_of (by assumption)) ?_)
  w_on
  k_fill
  intro w loose mean mg mb dp un gd cn cs a ccd cl outer A₀ base h₀ L m s Q E n b tk tz own B F X N T hk hdp hu h0 h1 hb hret
  have hMark := kstMark
  refine wpAny_call ?_
  k_dflt cell_enter
  have hz : (64 + n.fdiv 256).fdiv (2 ^ Int.toNat 6) = 1 := by
    rw [Int.fdiv_eq_ediv_of_nonneg _ (by decide), Int.fdiv_eq_ediv_of_nonneg _ (by decide)]
    have e : (2 : Int) ^ Int.toNat 6 = 64 := by decide
    rw [e]; omega
  have hl : (b.size : Int) = 2 := by have := KBw.ints_length b; rw [hb] at this; simp at this; omega
  k_steps
  all_goals first
  | (exfalso; exact absurd ‹((([64 + n.fdiv 256, n.fmod 256] : List Int).length : Nat) : Int) < 0 + 2› (by simp))
  | (exfalso; exact absurd ‹((([64 + n.fdiv 256, n.fmod 256] : List Int).length : Nat) : Int) ≤ 0› (by simp))
  | (rename News _ _ _ _ => nA; rw [and_two n h0 h1] at nA; exact hret _ _ _ _ _ (by k_asm) nA (neOf (by first | assumption | exact tb_ltOf (by assumption))))
end
section
theorem bInts_byteArr (l : List Int) (h : ∀ x ∈ l, 0 ≤ x ∧ x < 256) : KBw.bInts (byteArr l) = l := by
  simp only [KBw.bInts, byteArr]
  induction l with
  | nil => rfl
  | cons a l ih =>
    have e := ih fun x hx => h x (.tail _ hx)
    have e0 := u8 a (h a (.head _)).1 (h a (.head _)).2
    simp_all
theorem get_spec : ∀ (w : World) (loose : List Str) (mean : ExcName → Option Value) (mg mb : Str → Option Value) (dp un : Nat) (gd : Option (List Code)) (cn : Str) (cs : Scope) (a : Addr) (ccd : Value) (cl : List (Str × Addr)) (outer : List Env) (A₀ : Around) (base h₀ : Heap) (L : Addr) (m : Str → Option Value) (s : Shared) (Q E : Value → Shared → Prop)
    (n : Int) (tk tz : Tok) (own : List (Addr × Obj)),
    Below A₀ base outer h₀ → Fr h₀ L s.heap m → (hd.heap_39 w.params).In h₀ → News h₀ L s.heap own →
    Top myView loose mean mg mb h₀ → cs.kind = .function → dp + 10 < recursionLimit → un + 100 < cLine → 0 ≤ n → n < 16384 →
    (∀ r t1 t2 z h' tk', Fr h₀ L h' m → News h₀ L h' ((r, { cls := .type "tuple", data := .seq [Value.int n t1, Value.int z t2].toArray }) :: own) → (∀ p ∈ own, p.1 ≠ r) → Q (.ref r) {s with heap := h', toks := tk'}) →
    wpAny (model PySem.Challenge.rw_tk0092_01.row.prog w) (ktrTop dp un gd cn cs L a ccd cl outer) (call (.ref 97) [.bytes (byteArr (if n < 64 then [n] else [64 + n.fdiv 256, n.fmod 256])) tk, .int 0 tz]) Q E s := by
  intro w loose mean mg mb dp un gd cn cs a ccd cl outer A₀ base h₀ L m s Q E n tk tz own B F X N T hk hdp hu h0 h1 hret
  by_cases hn : n < 64
  · rw [if_pos hn]
    exact get1_spec w loose mean mg mb dp un gd cn cs a ccd cl outer A₀ base h₀ L m s Q E n _ tk tz own B F X N T hk hdp hu h0 hn (bInts_byteArr _ (by simp; omega)) (fun r t1 t2 h' tk' F N l => hret r t1 t2 1 h' tk' F N l)
  · rw [if_neg hn]
    refine get2_spec w loose mean mg mb dp un gd cn cs a ccd cl outer A₀ base h₀ L m s Q E n _ tk tz own B F X N T hk hdp hu h0 h1 (bInts_byteArr _ ?_) (fun r t1 t2 h' tk' F N l => hret r t1 t2 2 h' tk' F N l)
    have e1 : n.fdiv 256 = n / 256 := Int.fdiv_eq_ediv_of_nonneg _ (by decide)
    have e2 : n.fmod 256 = n % 256 := Int.fmod_eq_emod_of_nonneg _ (by decide)
    intro x hx
    simp only [List.mem_cons, List.not_mem_nil, or_false] at hx
    rcases hx with rfl | rfl <;> omega
end
section
def optIs (o : Option Int) (v : Value) : Prop := match o with | none => v = .none | some n => ∃ t, v = .int n t
abbrev cdObj (P : Params) (x1 x2 x3 : Tok) (cl cu : Int) (y1 y2 : Tok) (ta : Value) : Obj :=
  dictOf [⟨PyData.keyHash P (Str.ofString "limit"), .str (Str.ofString "limit") x1, .int cl y1⟩, ⟨PyData.keyHash P (Str.ofString "used"), .str (Str.ofString "used") x2, .int cu y2⟩, ⟨PyData.keyHash P (Str.ofString "told_at"), .str (Str.ofString "told_at") x3, ta⟩] 3
abbrev wdObj (P : Params) (x1 x2 x3 x4 x5 : Tok) (size wl wg wu : Int) (y1 y2 y3 y4 : Tok) : Obj :=
  dictOf [⟨PyData.keyHash P (Str.ofString "size"), .str (Str.ofString "size") x1, .int size y1⟩, ⟨PyData.keyHash P (Str.ofString "limit"), .str (Str.ofString "limit") x2, .int wl y2⟩, ⟨PyData.keyHash P (Str.ofString "got"), .str (Str.ofString "got") x3, .int wg y3⟩, ⟨PyData.keyHash P (Str.ofString "used"), .str (Str.ofString "used") x4, .int wu y4⟩, ⟨PyData.keyHash P (Str.ofString "owes_limit"), .str (Str.ofString "owes_limit") x5, .bool false⟩] 5
theorem min_two_M {prog : Program} {w : World} {A : Around} {E : Value → Shared → Prop} {s : Shared} {h₀ : Heap} {L : Addr} {m : Str → Option Value} {news : List (Addr × Obj)} {a b : Int} {t u : Tok} {Q : Value → Shared → Prop} (hh : A.handled = none) (F : Fr h₀ L s.heap m) (N : News h₀ L s.heap news)
    (h : ∀ h' tk t', Fr h₀ L h' m → News h₀ L h' news → Q (.int (min a b) t') { s with heap := h', toks := tk }) :
    wpAny (model prog w) A (call (.builtin "min") [.int a t, .int b u]) Q E s :=
  min_two_N hh F N fun h' tk F' N' => by
    have e : (if b < a then b else a) = min a b := by omega
    rw [e]; exact h h' tk _ F' N'
set_option maxRecDepth 100000 in
set_option maxHeartbeats 8000000 in
theorem blocked_spec : ∀ (w : World) (loose : List Str) (mean : ExcName → Option Value) (mg mb : Str → Option Value) (dp un : Nat) (gd : Option (List Code)) (cn : Str) (cs : Scope) (a : Addr) (ccd : Value) (cl : List (Str × Addr)) (outer : List Env) (A₀ : Around) (base h₀ : Heap) (L : Addr) (m : Str → Option Value) (s : Shared) (Q E : Value → Shared → Prop)
    (c cd : Addr) (x1 x2 x3 y1 y2 : Tok) (climit cused : Int) (ta : Option Int) (v : Value) (own : List (Addr × Obj)),
    Below A₀ base outer h₀ → Fr h₀ L s.heap m → (hd.heap_39 w.params).In h₀ →
    News h₀ L s.heap ((c, instObj 149 cd) :: (cd, cdObj w.params x1 x2 x3 climit cused y1 y2 v) :: own) →
    Top myView loose mean mg mb h₀ → cs.kind = .function → dp + 8 < recursionLimit → un + 80 < cLine →
    OwnOff own [c, cd] → cd < c → optIs ta v →
    (∀ b v' h' tk', optIs (if 0 < climit - cused ∨ ta = some climit then none else some climit) b → optIs (if 0 < climit - cused ∨ ta = some climit then ta else some climit) v' → Fr h₀ L h' m → News h₀ L h' ((c, instObj 149 cd) :: (cd, cdObj w.params x1 x2 x3 climit cused y1 y2 v') :: own) → Q b {s with heap := h', toks := tk'}) →
    wpAny (model PySem.Challenge.rw_tk0092_01.row.prog w) (ktrTop dp un gd cn cs L a ccd cl outer) (call (.ref 139) [.ref c]) Q E s := by
  k_with_none
  k_with "call builtin:min" => ((with_reducible show wpAny _ _ (call (Value.builtin _) [Value.int _ _, Value.int _ _]) _ _ _); (rename News _ _ _ _ => N'); (with_unfolding_all apply min_two_M); (case hh => with_unfolding_all rfl); (case N => exact N'); (case F => assumption); clear N'; intro _ _ _ _ _)
  w_on
  k_fill
  intro w loose mean mg mb dp un gd cn cs a ccd cl outer A₀ base h₀ L m s Q E c cd x1 x2 x3 y1 y2 climit cused ta v own B F X N T hk hdp hu hoff o1 hv hret
  have hMark := kstMark
  replace o1 := ltN o1
  cases ta with
  | none =>
    cases hv
    refine wpAny_call ?_
    k_dflt cell_enter
    k_steps
    all_goals (refine' hret _ _ _ _ ?b ?v ?F ?N; (case F => k_asm); (case N => k_asm); (case b => (split <;> rename_i hz <;> simp only [Option.some.injEq, reduceCtorEq, or_false] at hz <;> first | exact rfl | exact ⟨_, rfl⟩ | (exfalso; omega))); (case v => (split <;> rename_i hz <;> simp only [Option.some.injEq, reduceCtorEq, or_false] at hz <;> first | exact rfl | exact ⟨_, rfl⟩ | (exfalso; omega))))
  | some t =>
    obtain ⟨tv, rfl⟩ := hv
    refine wpAny_call ?_
    k_dflt cell_enter
    k_steps
    all_goals (refine' hret _ _ _ _ ?b ?v ?F ?N; (case F => k_asm); (case N => k_asm); (case b => (split <;> rename_i hz <;> simp only [Option.some.injEq, reduceCtorEq, or_false] at hz <;> first | exact rfl | exact ⟨_, rfl⟩ | (exfalso; omega))); (case v => (split <;> rename_i hz <;> simp only [Option.some.injEq, reduceCtorEq, or_false] at hz <;> first | exact rfl | exact ⟨_, rfl⟩ | (exfalso; omega))))
set_option maxRecDepth 100000 in
set_option maxHeartbeats 8000000 in
theorem raise_spec : ∀ (w : World) (loose : List Str) (mean : ExcName → Option Value) (mg mb : Str → Option Value) (dp un : Nat) (gd : Option (List Code)) (cn : Str) (cs : Scope) (a : Addr) (ccd : Value) (cl : List (Str × Addr)) (outer : List Env) (A₀ : Around) (base h₀ : Heap) (L : Addr) (m : Str → Option Value) (s : Shared) (Q E : Value → Shared → Prop)
    (c cd : Addr) (x1 x2 x3 y1 y2 : Tok) (climit cused n : Int) (tn : Tok) (v : Value) (own : List (Addr × Obj)),
    Below A₀ base outer h₀ → Fr h₀ L s.heap m → (hd.heap_39 w.params).In h₀ →
    News h₀ L s.heap ((c, instObj 149 cd) :: (cd, cdObj w.params x1 x2 x3 climit cused y1 y2 v) :: own) →
    Top myView loose mean mg mb h₀ → cs.kind = .function → dp + 8 < recursionLimit → un + 80 < cLine →
    OwnOff own [c, cd] → cd < c → climit ≤ n →
    (∀ b y1' h' tk', Fr h₀ L h' m → News h₀ L h' ((c, instObj 149 cd) :: (cd, cdObj w.params x1 x2 x3 n cused y1' y2 v) :: own) → Q (.bool b) {s with heap := h', toks := tk'}) →
    wpAny (model PySem.Challenge.rw_tk0092_01.row.prog w) (ktrTop dp un gd cn cs L a ccd cl outer) (call (.ref 132) [.ref c, .int n tn]) Q E s := by
  k_with_none
  k_with "call builtin:min" => ((with_reducible show wpAny _ _ (call (Value.builtin _) [Value.int _ _, Value.int _ _]) _ _ _); (rename News _ _ _ _ => N'); (with_unfolding_all apply min_two_M); (case hh => with_unfolding_all rfl); (case N => exact N'); (case F => assumption); clear N'; intro _ _ _ _ _)
  w_on
  k_fill
  intro w loose mean mg mb dp un gd cn cs a ccd cl outer A₀ base h₀ L m s Q E c cd x1 x2 x3 y1 y2 climit cused n tn v own B F X N T hk hdp hu hoff o1 hle hret
  have hMark := kstMark
  replace o1 := ltN o1
  refine wpAny_call ?_
  k_dflt cell_enter
  k_steps
  · have e : climit = n := by omega
    subst e
    exact hret _ _ _ _ (by k_asm) (by k_asm)
  · exact hret _ _ _ _ (by k_asm) (by k_asm)
set_option maxRecDepth 100000 in
set_option maxHeartbeats 8000000 in
theorem limit_spec : ∀ (w : World) (loose : List Str) (mean : ExcName → Option Value) (mg mb : Str → Option Value) (dp un : Nat) (gd : Option (List Code)) (cn : Str) (cs : Scope) (a : Addr) (ccd : Value) (cl : List (Str × Addr)) (outer : List Env) (A₀ : Around) (base h₀ : Heap) (L : Addr) (m : Str → Option Value) (s : Shared) (Q E : Value → Shared → Prop)
    (wi wd : Addr) (x1 x2 x3 x4 x5 y1 y2 y3 y4 : Tok) (size wl wg wu : Int) (own : List (Addr × Obj)),
    Below A₀ base outer h₀ → Fr h₀ L s.heap m → (hd.heap_39 w.params).In h₀ →
    News h₀ L s.heap ((wi, instObj 198 wd) :: (wd, wdObj w.params x1 x2 x3 x4 x5 size wl wg wu y1 y2 y3 y4) :: own) →
    Top myView loose mean mg mb h₀ → cs.kind = .function → dp + 8 < recursionLimit → un + 80 < cLine →
    OwnOff own [wi, wd] → wd < wi → wl < 16384 → wu + size < 16384 →
    (2 * (wl - wu) < size → ∀ t y h' tk', Fr h₀ L h' m → News h₀ L h' ((wi, instObj 198 wd) :: (wd, wdObj w.params x1 x2 x3 x4 x5 size (wu + size) wg wu y1 y y3 y4) :: own) → Q (.int (wu + size) t) {s with heap := h', toks := tk'}) →
    (¬ 2 * (wl - wu) < size → ∀ h' tk', Fr h₀ L h' m → News h₀ L h' ((wi, instObj 198 wd) :: (wd, wdObj w.params x1 x2 x3 x4 x5 size wl wg wu y1 y2 y3 y4) :: own) → Q .none {s with heap := h', toks := tk'}) →
    wpAny (model PySem.Challenge.rw_tk0092_01.row.prog w) (ktrTop dp un gd cn cs L a ccd cl outer) (call (.ref 188) [.ref wi]) Q E s := by
  k_with_none
  k_with "call builtin:min" => ((with_reducible show wpAny _ _ (call (Value.builtin _) [Value.int _ _, Value.int _ _]) _ _ _); (rename News _ _ _ _ => N'); (with_unfolding_all apply min_two_M); (case hh => with_unfolding_all rfl); (case N => exact N'); (case F => assumption); clear N'; intro _ _ _ _ _)
  w_on
  k_fill
  intro w loose mean mg mb dp un gd cn cs a ccd cl outer A₀ base h₀ L m s Q E wi wd x1 x2 x3 x4 x5 y1 y2 y3 y4 size wl wg wu own B F X N T hk hdp hu hoff o1 hle hle2 hret hret2
  have hMark := kstMark
  replace o1 := ltN o1
  refine wpAny_call ?_
  k_dflt cell_enter
  k_steps
  · have e : min (wu + size) 4611686018427387903 = wu + size := by omega
    rename News _ _ _ _ => nA
    rw [e] at nA ⊢
    exact hret (by omega) _ _ _ _ (by k_asm) nA
  · exact hret2 (by omega) _ _ (by k_asm) (by k_asm)
end
section
theorem newsTail {h₀ h : Heap} {L : Addr} {p : Addr × Obj} {own : List (Addr × Obj)} (N : News h₀ L h (p :: own)) : News h₀ L h own := kst_newsOf N fun q hq => List.mem_cons_of_mem _ hq
theorem newsDrop2 {h₀ h : Heap} {L : Addr} {r p : Addr × Obj} {own : List (Addr × Obj)} (N : News h₀ L h (r :: p :: own)) : News h₀ L h (r :: own) := kst_newsOf N fun q hq => by simp only [List.mem_cons] at hq ⊢; grind
theorem toC {h₀ h : Heap} {L : Addr} {p c d w x : Addr × Obj} {own : List (Addr × Obj)} (N : News h₀ L h (p :: c :: d :: w :: x :: own)) : News h₀ L h (c :: d :: p :: w :: x :: own) := kst_newsOf N (by intro q hq; simp only [List.mem_cons] at hq ⊢; grind)
theorem ofC {h₀ h : Heap} {L : Addr} {p c d w x : Addr × Obj} {own : List (Addr × Obj)} (N : News h₀ L h (c :: d :: p :: w :: x :: own)) : News h₀ L h (p :: c :: d :: w :: x :: own) := kst_newsOf N (by intro q hq; simp only [List.mem_cons] at hq ⊢; grind)
theorem toW {h₀ h : Heap} {L : Addr} {p c d w x : Addr × Obj} {own : List (Addr × Obj)} (N : News h₀ L h (p :: c :: d :: w :: x :: own)) : News h₀ L h (w :: x :: p :: c :: d :: own) := kst_newsOf N (by intro q hq; simp only [List.mem_cons] at hq ⊢; grind)
theorem ofW {h₀ h : Heap} {L : Addr} {p c d w x : Addr × Obj} {own : List (Addr × Obj)} (N : News h₀ L h (w :: x :: p :: c :: d :: own)) : News h₀ L h (p :: c :: d :: w :: x :: own) := kst_newsOf N (by intro q hq; simp only [List.mem_cons] at hq ⊢; grind)
theorem blocked_P : ∀ (w : World) (loose : List Str) (mean : ExcName → Option Value) (mg mb : Str → Option Value) (dp un : Nat) (gd : Option (List Code)) (cn : Str) (cs : Scope) (a : Addr) (ccd : Value) (cl : List (Str × Addr)) (outer : List Env) (A₀ : Around) (base h₀ : Heap) (L : Addr) (m : Str → Option Value) (s : Shared) (Q E : Value → Shared → Prop)
    (p c cd wi wd : Addr) (tp iw ow : Obj) (x1 x2 x3 y1 y2 : Tok) (climit cused : Int) (ta : Option Int) (v : Value) (own : List (Addr × Obj)),
    Below A₀ base outer h₀ → Fr h₀ L s.heap m → (hd.heap_39 w.params).In h₀ →
    News h₀ L s.heap ((p, tp) :: (c, instObj 149 cd) :: (cd, cdObj w.params x1 x2 x3 climit cused y1 y2 v) :: (wi, iw) :: (wd, ow) :: own) →
    Top myView loose mean mg mb h₀ → cs.kind = .function → dp + 8 < recursionLimit → un + 80 < cLine →
    (∀ tp iw ow, OwnOff ((p, tp) :: (wi, iw) :: (wd, ow) :: own) [c, cd]) → @LT.lt Nat _ cd c → optIs ta v →
    (∀ b v' h' tk', optIs (if 0 < climit - cused ∨ ta = some climit then none else some climit) b → optIs (if 0 < climit - cused ∨ ta = some climit then ta else some climit) v' → Fr h₀ L h' m → News h₀ L h' ((p, tp) :: (c, instObj 149 cd) :: (cd, cdObj w.params x1 x2 x3 climit cused y1 y2 v') :: (wi, iw) :: (wd, ow) :: own) → Q b {s with heap := h', toks := tk'}) →
    wpAny (model PySem.Challenge.rw_tk0092_01.row.prog w) (ktrTop dp un gd cn cs L a ccd cl outer) (call (.ref 139) [.ref c]) Q E s := by
  intro w loose mean mg mb dp un gd cn cs a ccd cl outer A₀ base h₀ L m s Q E p c cd wi wd tp iw ow x1 x2 x3 y1 y2 climit cused ta v own B F X N T hk hdp hu hoff o1 hv hret
  exact blocked_spec w loose mean mg mb dp un gd cn cs a ccd cl outer A₀ base h₀ L m s Q E c cd x1 x2 x3 y1 y2 climit cused ta v _ B F X (toC N) T hk hdp hu (hoff _ _ _) o1 hv (fun b v' h' tk' q r F' N' => hret b v' h' tk' q r F' (ofC N'))
theorem raise_P : ∀ (w : World) (loose : List Str) (mean : ExcName → Option Value) (mg mb : Str → Option Value) (dp un : Nat) (gd : Option (List Code)) (cn : Str) (cs : Scope) (a : Addr) (ccd : Value) (cl : List (Str × Addr)) (outer : List Env) (A₀ : Around) (base h₀ : Heap) (L : Addr) (m : Str → Option Value) (s : Shared) (Q E : Value → Shared → Prop)
    (p c cd wi wd : Addr) (tp iw ow : Obj) (x1 x2 x3 y1 y2 : Tok) (climit cused n : Int) (tn : Tok) (v : Value) (own : List (Addr × Obj)),
    Below A₀ base outer h₀ → Fr h₀ L s.heap m → (hd.heap_39 w.params).In h₀ →
    News h₀ L s.heap ((p, tp) :: (c, instObj 149 cd) :: (cd, cdObj w.params x1 x2 x3 climit cused y1 y2 v) :: (wi, iw) :: (wd, ow) :: own) →
    Top myView loose mean mg mb h₀ → cs.kind = .function → dp + 8 < recursionLimit → un + 80 < cLine →
    (∀ tp iw ow, OwnOff ((p, tp) :: (wi, iw) :: (wd, ow) :: own) [c, cd]) → @LT.lt Nat _ cd c → climit ≤ n →
    (∀ b y1' h' tk', Fr h₀ L h' m → News h₀ L h' ((p, tp) :: (c, instObj 149 cd) :: (cd, cdObj w.params x1 x2 x3 n cused y1' y2 v) :: (wi, iw) :: (wd, ow) :: own) → Q (.bool b) {s with heap := h', toks := tk'}) →
    wpAny (model PySem.Challenge.rw_tk0092_01.row.prog w) (ktrTop dp un gd cn cs L a ccd cl outer) (call (.ref 132) [.ref c, .int n tn]) Q E s := by
  intro w loose mean mg mb dp un gd cn cs a ccd cl outer A₀ base h₀ L m s Q E p c cd wi wd tp iw ow x1 x2 x3 y1 y2 climit cused n tn v own B F X N T hk hdp hu hoff o1 hle hret
  exact raise_spec w loose mean mg mb dp un gd cn cs a ccd cl outer A₀ base h₀ L m s Q E c cd x1 x2 x3 y1 y2 climit cused n tn v _ B F X (toC N) T hk hdp hu (hoff _ _ _) o1 hle (fun b y1' h' tk' F' N' => hret b y1' h' tk' F' (ofC N'))
theorem limit_P : ∀ (w : World) (loose : List Str) (mean : ExcName → Option Value) (mg mb : Str → Option Value) (dp un : Nat) (gd : Option (List Code)) (cn : Str) (cs : Scope) (a : Addr) (ccd : Value) (cl : List (Str × Addr)) (outer : List Env) (A₀ : Around) (base h₀ : Heap) (L : Addr) (m : Str → Option Value) (s : Shared) (Q E : Value → Shared → Prop)
    (p c cd wi wd : Addr) (tp ic oc : Obj) (x1 x2 x3 x4 x5 y1 y2 y3 y4 : Tok) (size wl wg wu : Int) (own : List (Addr × Obj)),
    Below A₀ base outer h₀ → Fr h₀ L s.heap m → (hd.heap_39 w.params).In h₀ →
    News h₀ L s.heap ((p, tp) :: (c, ic) :: (cd, oc) :: (wi, instObj 198 wd) :: (wd, wdObj w.params x1 x2 x3 x4 x5 size wl wg wu y1 y2 y3 y4) :: own) →
    Top myView loose mean mg mb h₀ → cs.kind = .function → dp + 8 < recursionLimit → un + 80 < cLine →
    (∀ tp ic oc, OwnOff ((p, tp) :: (c, ic) :: (cd, oc) :: own) [wi, wd]) → @LT.lt Nat _ wd wi → wl < 16384 → wu + size < 16384 →
    (2 * (wl - wu) < size → ∀ t y h' tk', Fr h₀ L h' m → News h₀ L h' ((p, tp) :: (c, ic) :: (cd, oc) :: (wi, instObj 198 wd) :: (wd, wdObj w.params x1 x2 x3 x4 x5 size (wu + size) wg wu y1 y y3 y4) :: own) → Q (.int (wu + size) t) {s with heap := h', toks := tk'}) →
    (¬ 2 * (wl - wu) < size → ∀ h' tk', Fr h₀ L h' m → News h₀ L h' ((p, tp) :: (c, ic) :: (cd, oc) :: (wi, instObj 198 wd) :: (wd, wdObj w.params x1 x2 x3 x4 x5 size wl wg wu y1 y2 y3 y4) :: own) → Q .none {s with heap := h', toks := tk'}) →
    wpAny (model PySem.Challenge.rw_tk0092_01.row.prog w) (ktrTop dp un gd cn cs L a ccd cl outer) (call (.ref 188) [.ref wi]) Q E s := by
  intro w loose mean mg mb dp un gd cn cs a ccd cl outer A₀ base h₀ L m s Q E p c cd wi wd tp ic oc x1 x2 x3 x4 x5 y1 y2 y3 y4 size wl wg wu own B F X N T hk hdp hu hoff o1 hle hle2 hret hret2
  exact limit_spec w loose mean mg mb dp un gd cn cs a ccd cl outer A₀ base h₀ L m s Q E wi wd x1 x2 x3 x4 x5 y1 y2 y3 y4 size wl wg wu _ B F X (toW N) T hk hdp hu (hoff _ _ _) o1 hle hle2 (fun z t y h' tk' F' N' => hret z t y h' tk' F' (ofW N')) (fun z h' tk' F' N' => hret2 z h' tk' F' (ofW N'))
end
section
set_option maxRecDepth 100000 in
set_option maxHeartbeats 8000000 in
theorem turn_spec : ∀ (w : World) (loose : List Str) (mean : ExcName → Option Value) (mg mb : Str → Option Value) (dp un : Nat) (gd : Option (List Code)) (cn : Str) (cs : Scope) (a : Addr) (ccd : Value) (cl : List (Str × Addr)) (outer : List Env) (A₀ : Around) (base h₀ : Heap) (L : Addr) (m : Str → Option Value) (s : Shared) (Q : Value → Shared → Prop)
    (p c cd wi wd : Addr) (x1 x2 x3 x4 x5 x6 x7 x8 y1 y2 y3 y4 y5 y6 y7 z2 z3 : Tok) (size climit cused wl wg wu written many : Int) (ta : Option Int) (v : Value) (comes : Bool) (own : List (Addr × Obj)),
    Below A₀ base outer h₀ → Fr h₀ L s.heap m → (hd.heap_39 w.params).In h₀ →
    News h₀ L s.heap ((p, { cls := .type "tuple", data := .seq [Value.ref c, Value.ref wi, Value.int size y7].toArray }) :: (c, instObj 149 cd) :: (cd, cdObj w.params x1 x2 x3 climit cused y1 y2 v) :: (wi, instObj 198 wd) :: (wd, wdObj w.params x4 x5 x6 x7 x8 size wl wg wu y3 y4 y5 y6) :: own) →
    Top myView loose mean mg mb h₀ → cs.kind = .function → dp + 20 < recursionLimit → un + 200 < cLine →
    OwnOff own [p, c, cd, wi, wd] → @LT.lt Nat _ cd c → @LT.lt Nat _ c wd → @LT.lt Nat _ wd wi → @LT.lt Nat _ wi p → optIs ta v →
    1 ≤ size → cused = wg → 0 ≤ wu → wu ≤ wg → wg ≤ climit → climit ≤ wl → wl ≤ wu + size → size ≤ 2 * (wl - wu) → wl < 16384 → cused ≤ written → written + size < 16384 → 0 ≤ many →
    (∀ r t b v' v'' y1' y2' y4' y5' y6' h' tk', optIs (if 0 < climit - min written climit ∨ ta = some climit then none else some climit) b → optIs (if 0 < climit - min written climit ∨ ta = some climit then ta else some climit) v' →
      optIs (if 2 * (wl - (wu + min many (min written climit - wu))) < size then some (wu + min many (min written climit - wu) + size) else none) v'' → Fr h₀ L h' m →
      News h₀ L h' ((r, { cls := .type "tuple", data := .seq [Value.int (min written climit - cused) t, b, v''].toArray }) :: (p, { cls := .type "tuple", data := .seq [Value.ref c, Value.ref wi, Value.int size y7].toArray }) :: (c, instObj 149 cd) :: (cd, cdObj w.params x1 x2 x3 (if comes = true then (if 2 * (wl - (wu + min many (min written climit - wu))) < size then wu + min many (min written climit - wu) + size else wl) else climit) (min written climit) y1' y2' v') ::
        (wi, instObj 198 wd) :: (wd, wdObj w.params x4 x5 x6 x7 x8 size (if 2 * (wl - (wu + min many (min written climit - wu))) < size then wu + min many (min written climit - wu) + size else wl) (min written climit) (wu + min many (min written climit - wu)) y3 y4' y5' y6') :: own) →
      (∀ q ∈ own, q.1 ≠ r) → r ≠ p → r ≠ c → r ≠ cd → r ≠ wi → r ≠ wd → Q (.ref r) {s with heap := h', toks := tk'}) →
    wpG (model PySem.Challenge.rw_tk0092_01.row.prog w) (ktrTop dp un gd cn cs L a ccd cl outer) (call (.ref 223) [.ref p, .int written z2, .int many z3, .bool comes]) Q (fun _ _ => False) s := by
  k_with_none
  k_with "call builtin:min" => ((with_reducible show wpAny _ _ (call (Value.builtin _) [Value.int _ _, Value.int _ _]) _ _ _); (rename News _ _ _ _ => N'); (with_unfolding_all apply min_two_M); (case hh => with_unfolding_all rfl); (case N => exact N'); (case F => assumption); clear N'; intro _ _ _ _ _)
  k_with "call ref" => (k_here; (first | (k_dflt (refine' blocked_P _ _ _ _ _ _ _ _ _ _ _ _ _ _ _ _ _ _ _ _ _ _ _ _ _ _ _ _ _ _ _ _ _ _ _ _ _ _ _ _ ?B ?F ?X ?N ?T ?hk ?dp ?un ?off ?lt ?hv ?_; (case B => k_asm); (case F => k_asm); (case X => k_asm); (case N => k_asm); (case T => k_asm); (case hk => exact rfl); (case dp => ktr_room); (case un => ktr_units); (case off => assumption); (case lt => assumption); (case hv => assumption))) | (k_dflt (refine' limit_P _ _ _ _ _ _ _ _ _ _ _ _ _ _ _ _ _ _ _ _ _ _ _ _ _ _ _ _ _ _ _ _ _ _ _ _ _ _ _ _ _ _ _ _ ?B ?F ?X ?N ?T ?hk ?dp ?un ?off ?lt ?l1 ?l2 ?_ ?_; (case B => k_asm); (case F => k_asm); (case X => k_asm); (case N => k_asm); (case T => k_asm); (case hk => exact rfl); (case dp => ktr_room); (case un => ktr_units); (case off => assumption); (case lt => assumption); (case l1 => omega); (case l2 => omega)))); all_goals (intros; (try k_sweep); (try dsimp only)))
  w_on
  k_fill
  intro w loose mean mg mb dp un gd cn cs a ccd cl outer A₀ base h₀ L m s Q p c cd wi wd x1 x2 x3 x4 x5 x6 x7 x8 y1 y2 y3 y4 y5 y6 y7 z2 z3 size climit cused wl wg wu written many ta v comes own B F X N T hk hdp hu hoff o1 o2 o3 o4 hv i1 i2 i3 i4 i5 i6 i7 i8 i9 i10 i11 i12 hret
  have hMark := kstMark
  subst i2
  have e1 : cused + (min written climit - cused) = min written climit := by omega
  have hoffC : ∀ tp iw ow, OwnOff ((p, tp) :: (wi, iw) :: (wd, ow) :: own) [c, cd] := fun tp iw ow => by
    intro q hq b hb
    simp only [List.mem_cons, List.not_mem_nil, or_false] at hq hb
    rcases hq with rfl | rfl | rfl | hq
    iterate 3 (rcases hb with rfl | rfl <;> refine neN ?_ <;> dsimp only <;> omega)
    exact hoff q hq b (by rcases hb with rfl | rfl <;> simp)
  have hoffW : ∀ tp ic oc, OwnOff ((p, tp) :: (c, ic) :: (cd, oc) :: own) [wi, wd] := fun tp ic oc => by
    intro q hq b hb
    simp only [List.mem_cons, List.not_mem_nil, or_false] at hq hb
    rcases hq with rfl | rfl | rfl | hq
    iterate 3 (rcases hb with rfl | rfl <;> refine neN ?_ <;> dsimp only <;> omega)
    exact hoff q hq b (by rcases hb with rfl | rfl <;> simp)
  refine wpG_call ?_
  (refine' defG ?k1 ?k2 ?k3 ?k4 ?k5 ?kA ?kF ?kK ?k6 ?k7 ?k8 ?k9 ?kB ?_ ?c2 ?c3 ?c4 ?c5; (case kA => exact rfl); (case kF => exact rfl); (case kK => assumption); (case k1 => k_asm); (case k2 => k_asm); (case k3 => k_asm); (case k4 => k_asm); (case k5 => k_asm); (case k6 => k_is); (case k7 => k_is); (case k8 => ktr_room); (case k9 => exact BindsTo.of_eq rfl); (case c5 => decide); (case kB => exact locs rfl); (case c2 => exact rfl); (case c3 => exact rfl); (case c4 => exact rfl); k_whole; intro g' L' h' FG' F' N' B' X' T'; (try dsimp only))
  iterate 6
    refine wpG_execs_cons (wpG_of ?_)
    k_fold
    k_steps
  iterate 3
    all_goals (refine wpG_execs_cons (wpG_of ?_); k_fold; k_steps)
    all_goals try (exfalso; omega; done)
  all_goals cases comes
  all_goals (refine wpG_execs_cons (wpG_If (wpG_of ?_)); k_fold; k_steps)
  · refine wpG_execs_nil ?_
    refine wpG_execs_cons (wpG_of ?_)
    k_fold
    k_steps
    have hl : 2 * (wl - (wu + min many (min written climit - wu))) < size := by omega
    simp only [if_pos hl, if_true, if_false, Bool.false_eq_true] at hret
    rename News _ _ _ _ => nA
    rename (_ ∧ _ ∧ _ ∧ _ ∧ _ ∧ _) => lA
    obtain ⟨_, a0, a1, a2, a3, a4, a5⟩ := lA
    rw [e1] at nA
    refine hret _ _ _ _ _ _ _ _ _ _ _ _ ?b1 ?v1 ?t1 ?F1 (newsDrop2 nA) (fun q hq => Nat.ne_of_lt (tb_ltOf a5 q hq)) (Nat.ne_of_gt a0) (Nat.ne_of_gt a1) (Nat.ne_of_gt a2) (Nat.ne_of_gt a3) (Nat.ne_of_gt a4)
    · rw [← e1]; assumption
    · rw [← e1]; assumption
    · exact ⟨_, rfl⟩
    · k_asm
  · refine wpG_execs_cons (wpG_Expr (wpG_CallAttr ?_))
    k_fold
    k_steps
    refine wpG_callWithK (K := Mine.hd.heap_39 w.params) (by k_is) (wpG_args_cons (wpG_Subscript (wpG_Call (wpG_of ?_))))
    k_fold
    k_steps
    refine wpG_callWithK (K := Mine.hd.heap_39 w.params) (by k_is) (wpG_args_cons (wpG_Call (wpG_of ?_)))
    k_fold
    k_steps
    refine wpG_callWithK (K := Mine.hd.heap_39 w.params) (by k_is) (wpG_of ?_)
    k_fold
    k_steps
    (refine' put_spec _ _ _ _ _ _ _ _ _ _ _ _ _ _ _ _ _ _ _ _ _ _ _ _ ?Bp2 ?Fp2 ?Xp2 ?Np2 ?Tp2 ?hkp2 ?dpp2 ?unp2 ?h0p2 ?h1p2 ?retp2; (case Bp2 => k_asm); (case Fp2 => k_asm); (case Xp2 => k_asm); (case Np2 => k_asm); (case Tp2 => k_asm); (case hkp2 => exact rfl); (case dpp2 => ktr_room); (case unp2 => ktr_units); (case h0p2 => omega); (case h1p2 => omega))
    intro t9 h9 tk9 F9 N9
    refine wpG_of ?_
    k_fold
    k_steps
    refine wpG_of ?_
    (refine' get_spec _ _ _ _ _ _ _ _ _ _ _ _ _ _ _ _ _ _ _ _ _ _ _ _ _ _ ?Bg2 ?Fg2 ?Xg2 ?Ng2 ?Tg2 ?hkg2 ?dpg2 ?ung2 ?h0g2 ?h1g2 ?retg2; (case Bg2 => k_asm); (case Fg2 => k_asm); (case Xg2 => k_asm); (case Ng2 => k_asm); (case Tg2 => k_asm); (case hkg2 => exact rfl); (case dpg2 => ktr_room); (case ung2 => ktr_units); (case h0g2 => omega); (case h1g2 => omega))
    intro r9 t8 t7 z7 h8 tk8 F8 N8 l8
    k_steps
    refine wpG_args_nil ?_
    k_steps
    refine wpG_of ?_
    rename News _ _ _ _ => nA
    have nB := newsTail (newsTail nA)
    (refine' raise_P _ _ _ _ _ _ _ _ _ _ _ _ _ _ _ _ _ _ _ _ _ _ _ _ _ _ _ _ _ _ _ _ _ _ _ _ _ _ _ _ _ ?Br2 ?Fr2 ?Xr2 nB ?Tr2 ?hkr2 ?dpr2 ?unr2 ?offr2 ?ltr2 ?le2 ?retr2; (case Br2 => k_asm); (case Fr2 => k_asm); (case Xr2 => k_asm); (case Tr2 => k_asm); (case hkr2 => exact rfl); (case dpr2 => ktr_room); (case unr2 => ktr_units); (case offr2 => assumption); (case ltr2 => assumption); (case le2 => omega))
    intro b9 y9 h10 tk10 F10 N10
    dsimp only
    refine wpG_execs_nil ?_
    refine wpG_execs_cons (wpG_of ?_)
    k_fold
    k_steps
    have hl : 2 * (wl - (wu + min many (min written climit - wu))) < size := by omega
    simp only [if_pos hl, if_true, if_false, Bool.false_eq_true] at hret
    rename News _ _ _ _ => nA
    rename (_ ∧ _ ∧ _ ∧ _ ∧ _ ∧ _) => lA
    obtain ⟨a0, a1, a2, a3, a4, a5⟩ := lA
    rw [e1] at nA
    refine hret _ _ _ _ _ _ _ _ _ _ _ _ ?b2 ?v2 ?t2 ?F2 nA (fun q hq => Nat.ne_of_lt (tb_ltOf a5 q hq)) (Nat.ne_of_gt a0) (Nat.ne_of_gt a1) (Nat.ne_of_gt a2) (Nat.ne_of_gt a3) (Nat.ne_of_gt a4)
    · rw [← e1]; assumption
    · rw [← e1]; assumption
    · exact ⟨_, rfl⟩
    · k_asm
  · refine wpG_execs_nil ?_
    refine wpG_execs_cons (wpG_of ?_)
    k_fold
    k_steps
    have hl : ¬ 2 * (wl - (wu + min many (min written climit - wu))) < size := by omega
    simp only [if_neg hl, if_true, if_false, Bool.false_eq_true] at hret
    rename News _ _ _ _ => nA
    rename (_ ∧ _ ∧ _ ∧ _ ∧ _ ∧ _) => lA
    obtain ⟨_, a0, a1, a2, a3, a4, a5⟩ := lA
    rw [e1] at nA
    refine hret _ _ _ _ _ _ _ _ _ _ _ _ ?b3 ?v3 ?t3 ?F3 (newsDrop2 nA) (fun q hq => Nat.ne_of_lt (tb_ltOf a5 q hq)) (Nat.ne_of_gt a0) (Nat.ne_of_gt a1) (Nat.ne_of_gt a2) (Nat.ne_of_gt a3) (Nat.ne_of_gt a4)
    · rw [← e1]; assumption
    · rw [← e1]; assumption
    · exact rfl
    · k_asm
  · refine wpG_execs_cons (wpG_Expr (wpG_CallAttr ?_))
    k_fold
    k_steps
    refine wpG_callWithK (K := Mine.hd.heap_39 w.params) (by k_is) (wpG_args_cons (wpG_Subscript (wpG_Call (wpG_of ?_))))
    k_fold
    k_steps
    refine wpG_callWithK (K := Mine.hd.heap_39 w.params) (by k_is) (wpG_args_cons (wpG_Call (wpG_of ?_)))
    k_fold
    k_steps
    refine wpG_callWithK (K := Mine.hd.heap_39 w.params) (by k_is) (wpG_of ?_)
    k_fold
    k_steps
    (refine' put_spec _ _ _ _ _ _ _ _ _ _ _ _ _ _ _ _ _ _ _ _ _ _ _ _ ?Bp4 ?Fp4 ?Xp4 ?Np4 ?Tp4 ?hkp4 ?dpp4 ?unp4 ?h0p4 ?h1p4 ?retp4; (case Bp4 => k_asm); (case Fp4 => k_asm); (case Xp4 => k_asm); (case Np4 => k_asm); (case Tp4 => k_asm); (case hkp4 => exact rfl); (case dpp4 => ktr_room); (case unp4 => ktr_units); (case h0p4 => omega); (case h1p4 => omega))
    intro t9 h9 tk9 F9 N9
    refine wpG_of ?_
    k_fold
    k_steps
    refine wpG_of ?_
    (refine' get_spec _ _ _ _ _ _ _ _ _ _ _ _ _ _ _ _ _ _ _ _ _ _ _ _ _ _ ?Bg4 ?Fg4 ?Xg4 ?Ng4 ?Tg4 ?hkg4 ?dpg4 ?ung4 ?h0g4 ?h1g4 ?retg4; (case Bg4 => k_asm); (case Fg4 => k_asm); (case Xg4 => k_asm); (case Ng4 => k_asm); (case Tg4 => k_asm); (case hkg4 => exact rfl); (case dpg4 => ktr_room); (case ung4 => ktr_units); (case h0g4 => omega); (case h1g4 => omega))
    intro r9 t8 t7 z7 h8 tk8 F8 N8 l8
    k_steps
    refine wpG_args_nil ?_
    k_steps
    refine wpG_of ?_
    rename News _ _ _ _ => nA
    have nB := newsTail (newsTail nA)
    (refine' raise_P _ _ _ _ _ _ _ _ _ _ _ _ _ _ _ _ _ _ _ _ _ _ _ _ _ _ _ _ _ _ _ _ _ _ _ _ _ _ _ _ _ ?Br4 ?Fr4 ?Xr4 nB ?Tr4 ?hkr4 ?dpr4 ?unr4 ?offr4 ?ltr4 ?le4 ?retr4; (case Br4 => k_asm); (case Fr4 => k_asm); (case Xr4 => k_asm); (case Tr4 => k_asm); (case hkr4 => exact rfl); (case dpr4 => ktr_room); (case unr4 => ktr_units); (case offr4 => assumption); (case ltr4 => assumption); (case le4 => omega))
    intro b9 y9 h10 tk10 F10 N10
    dsimp only
    refine wpG_execs_nil ?_
    refine wpG_execs_cons (wpG_of ?_)
    k_fold
    k_steps
    have hl : ¬ 2 * (wl - (wu + min many (min written climit - wu))) < size := by omega
    simp only [if_neg hl, if_true, if_false, Bool.false_eq_true] at hret
    rename News _ _ _ _ => nA
    rename (_ ∧ _ ∧ _ ∧ _ ∧ _ ∧ _) => lA
    obtain ⟨a0, a1, a2, a3, a4, a5⟩ := lA
    rw [e1] at nA
    refine hret _ _ _ _ _ _ _ _ _ _ _ _ ?b4 ?v4 ?t4 ?F4 nA (fun q hq => Nat.ne_of_lt (tb_ltOf a5 q hq)) (Nat.ne_of_gt a0) (Nat.ne_of_gt a1) (Nat.ne_of_gt a2) (Nat.ne_of_gt a3) (Nat.ne_of_gt a4)
    · rw [← e1]; assumption
    · rw [← e1]; assumption
    · exact rfl
    · k_asm
end
section
def PairAt (P : Params) (size cl cu wl wg wu : Int) (ta : Option Int) (p : Addr) (R : List (Addr × Obj)) : Prop :=
  ∃ (c cd wi wd : Addr) (x1 x2 x3 x4 x5 x6 x7 x8 y1 y2 y3 y4 y5 y6 y7 : Tok) (v : Value), R = [(p, { cls := .type "tuple", data := .seq [Value.ref c, Value.ref wi, Value.int size y7].toArray }), (c, instObj 149 cd), (cd, cdObj P x1 x2 x3 cl cu y1 y2 v), (wi, instObj 198 wd), (wd, wdObj P x4 x5 x6 x7 x8 size wl wg wu y3 y4 y5 y6)] ∧
    @LT.lt Nat _ cd c ∧ @LT.lt Nat _ c wd ∧ @LT.lt Nat _ wd wi ∧ @LT.lt Nat _ wi p ∧ optIs ta v
theorem permN {h₀ h : Heap} {L : Addr} {p c d w x : Addr × Obj} {own : List (Addr × Obj)} (N : News h₀ L h (p :: w :: x :: c :: d :: own)) : News h₀ L h ([p, c, d, w, x] ++ own) := kst_newsOf N (by intro q hq; simp only [List.mem_append, List.mem_cons, List.not_mem_nil, or_false] at hq ⊢; grind)
set_option maxRecDepth 100000 in
set_option maxHeartbeats 8000000 in
theorem pair_spec : ∀ (w : World) (loose : List Str) (mean : ExcName → Option Value) (mg mb : Str → Option Value) (dp un : Nat) (gd : Option (List Code)) (cn : Str) (cs : Scope) (a : Addr) (ccd : Value) (cl : List (Str × Addr)) (outer : List Env) (A₀ : Around) (base h₀ : Heap) (L : Addr) (m : Str → Option Value) (s : Shared) (Q E : Value → Shared → Prop)
    (size : Int) (tk : Tok) (own : List (Addr × Obj)),
    Below A₀ base outer h₀ → Fr h₀ L s.heap m → (hd.heap_39 w.params).In h₀ →
    News h₀ L s.heap own →
    Top myView loose mean mg mb h₀ → cs.kind = .function → dp + 8 < recursionLimit → un + 80 < cLine →
    (∀ p R h' tk', PairAt w.params size size 0 size 0 0 none p R → OwnOff own (R.map (·.1)) → Fr h₀ L h' m → News h₀ L h' (R ++ own) → Q (.ref p) {s with heap := h', toks := tk'}) →
    wpAny (model PySem.Challenge.rw_tk0092_01.row.prog w) (ktrTop dp un gd cn cs L a ccd cl outer) (call (.ref 216) [.int size tk]) Q E s := by
  k_with_none
  w_on
  k_fill
  intro w loose mean mg mb dp un gd cn cs a ccd cl outer A₀ base h₀ L m s Q E size tk own B F X N T hk hdp hu hret
  have hMark := kstMark
  refine wpAny_call ?_
  k_dflt cell_enter
  k_steps
  all_goals (rename News _ _ _ _ => nA)
  rename (_ ∧ _ ∧ _ ∧ _ ∧ AllLt _ _) => lC
  obtain ⟨c1, c2, c3, c4, c5⟩ := lC
  rename (_ ∧ _ ∧ AllLt _ _) => lB
  obtain ⟨b1, b2, b3⟩ := lB
  rename ∀ q : Addr × Obj, q ∈ own → _ => lA
  refine hret _ _ _ _ ⟨_, _, _, _, _, _, _, _, _, _, _, _, _, _, _, _, _, _, _, _, rfl, ?o1, ?o2, ?o3, ?o4, rfl⟩ ?off (by k_asm) (permN nA)
  · assumption
  · exact b1
  · assumption
  · exact c1
  · intro q hq b hb
    have k1 := tb_ltOf c5 q hq
    have k2 := tb_ltOf b3 q hq
    have k3 := lA q hq
    simp only [List.map_cons, List.map_nil, List.mem_cons, List.not_mem_nil, or_false] at hb
    rcases hb with rfl | rfl | rfl | rfl | rfl
    · exact Nat.ne_of_lt k1
    · exact Nat.ne_of_lt (Nat.lt_trans k3 (by assumption))
    · exact Nat.ne_of_lt k3
    · exact Nat.ne_of_lt (Nat.lt_trans k2 (by assumption))
    · exact Nat.ne_of_lt k2
theorem turn_R : ∀ (w : World) (loose : List Str) (mean : ExcName → Option Value) (mg mb : Str → Option Value) (dp un : Nat) (gd : Option (List Code)) (cn : Str) (cs : Scope) (a : Addr) (ccd : Value) (kl : List (Str × Addr)) (outer : List Env) (A₀ : Around) (base h₀ : Heap) (L : Addr) (m : Str → Option Value) (s : Shared) (Q : Value → Shared → Prop)
    (p : Addr) (R own : List (Addr × Obj)) (size cl cu wl wg wu written many : Int) (ta : Option Int) (comes : Bool) (z2 z3 : Tok),
    Below A₀ base outer h₀ → Fr h₀ L s.heap m → (hd.heap_39 w.params).In h₀ →
    News h₀ L s.heap (R ++ own) →
    Top myView loose mean mg mb h₀ → cs.kind = .function → dp + 20 < recursionLimit → un + 200 < cLine →
    PairAt w.params size cl cu wl wg wu ta p R → OwnOff own (R.map (·.1)) → 1 ≤ size → cu = wg → 0 ≤ wu → wu ≤ wg → wg ≤ cl → cl ≤ wl → wl ≤ wu + size → size ≤ 2 * (wl - wu) → wl < 16384 → cu ≤ written → written + size < 16384 → 0 ≤ many →
    (∀ r R' t b v'' h' tk', PairAt w.params size (if comes = true then (if 2 * (wl - (wu + min many (min written cl - wu))) < size then (wu + min many (min written cl - wu)) + size else wl) else cl) (min written cl) (if 2 * (wl - (wu + min many (min written cl - wu))) < size then (wu + min many (min written cl - wu)) + size else wl) (min written cl) (wu + min many (min written cl - wu)) (if 0 < cl - min written cl ∨ ta = some cl then ta else some cl) p R' → R'.map (·.1) = R.map (·.1) →
      optIs (if 0 < cl - min written cl ∨ ta = some cl then none else some cl) b → optIs (if 2 * (wl - (wu + min many (min written cl - wu))) < size then some ((wu + min many (min written cl - wu)) + size) else none) v'' → Fr h₀ L h' m →
      News h₀ L h' ((r, { cls := .type "tuple", data := .seq [Value.int (min written cl - cu) t, b, v''].toArray }) :: (R' ++ own)) → (∀ q ∈ R' ++ own, q.1 ≠ r) → Q (.ref r) {s with heap := h', toks := tk'}) →
    wpG (model PySem.Challenge.rw_tk0092_01.row.prog w) (ktrTop dp un gd cn cs L a ccd kl outer) (call (.ref 223) [.ref p, .int written z2, .int many z3, .bool comes]) Q (fun _ _ => False) s := by
  intro w loose mean mg mb dp un gd cn cs a ccd kl outer A₀ base h₀ L m s Q p R own size cl cu wl wg wu written many ta comes z2 z3 B F X N T hk hdp hu hp hoff i1 i2 i3 i4 i5 i6 i7 i8 i9 i10 i11 i12 hret
  obtain ⟨c, cd, wi, wd, x1, x2, x3, x4, x5, x6, x7, x8, y1, y2, y3, y4, y5, y6, y7, v, rfl, o1, o2, o3, o4, hv⟩ := hp
  exact turn_spec w loose mean mg mb dp un gd cn cs a ccd kl outer A₀ base h₀ L m s Q p c cd wi wd x1 x2 x3 x4 x5 x6 x7 x8 y1 y2 y3 y4 y5 y6 y7 z2 z3 size cl cu wl wg wu written many ta v comes own B F X N T hk hdp hu hoff o1 o2 o3 o4 hv i1 i2 i3 i4 i5 i6 i7 i8 i9 i10 i11 i12
    (fun r t b v' v'' y1' y2' y4' y5' y6' h' tk' ob ov ot F' N' l n1 n2 n3 n4 n5 => hret r _ t b v'' h' tk' ⟨c, cd, wi, wd, x1, x2, x3, x4, x5, x6, x7, x8, y1', y2', y3, y4', y5', y6', y7, v', rfl, o1, o2, o3, o4, ov⟩ rfl ob ot F' N' (fun q hq => by
      simp only [List.mem_append, List.mem_cons, List.not_mem_nil, or_false] at hq
      rcases hq with (rfl | rfl | rfl | rfl | rfl) | hq
      · exact n1.symm
      · exact n2.symm
      · exact n3.symm
      · exact n4.symm
      · exact n5.symm
      · exact l q hq))
end
section
theorem newsIn2 {h₀ h : Heap} {L : Addr} {x y : Addr × Obj} {R own : List (Addr × Obj)} (N : News h₀ L h (R ++ (x :: y :: own))) : News h₀ L h (x :: y :: (R ++ own)) := kst_newsOf N (by intro q hq; simp only [List.mem_append, List.mem_cons] at hq ⊢; grind)
theorem offIn2 {x y : Addr × Obj} {R own : List (Addr × Obj)} (h : OwnOff (x :: y :: own) (R.map (·.1))) (ho : OwnOff own [x.1, y.1]) : OwnOff (R ++ own) [x.1, y.1] := by
  intro q hq b hb
  rcases List.mem_append.mp hq with hq | hq
  · simp only [List.mem_cons, List.not_mem_nil, or_false] at hb
    rcases hb with rfl | rfl
    · exact (h x (by simp) q.1 (List.mem_map_of_mem hq)).symm
    · exact (h y (by simp) q.1 (List.mem_map_of_mem hq)).symm
  · exact ho q hq b hb
theorem pair_E : ∀ (w : World) (loose : List Str) (mean : ExcName → Option Value) (mg mb : Str → Option Value) (dp un : Nat) (gd : Option (List Code)) (cn : Str) (cs : Scope) (a : Addr) (ccd : Value) (cl : List (Str × Addr)) (outer : List Env) (A₀ : Around) (base h₀ : Heap) (L : Addr) (m : Str → Option Value) (s : Shared) (Q E : Value → Shared → Prop)
    (size : Int) (tk : Tok) (x y : Addr × Obj) (own : List (Addr × Obj)),
    Below A₀ base outer h₀ → Fr h₀ L s.heap m → (hd.heap_39 w.params).In h₀ → News h₀ L s.heap (x :: y :: own) →
    Top myView loose mean mg mb h₀ → cs.kind = .function → dp + 8 < recursionLimit → un + 80 < cLine → OwnOff own [x.1, y.1] →
    (∀ p R h' tk', PairAt w.params size size 0 size 0 0 none p R → OwnOff (x :: y :: own) (R.map (·.1)) → OwnOff (R ++ own) [x.1, y.1] → Fr h₀ L h' m → News h₀ L h' (x :: y :: (R ++ own)) → Q (.ref p) {s with heap := h', toks := tk'}) →
    wpAny (model PySem.Challenge.rw_tk0092_01.row.prog w) (ktrTop dp un gd cn cs L a ccd cl outer) (call (.ref 216) [.int size tk]) Q E s := by
  intro w loose mean mg mb dp un gd cn cs a ccd cl outer A₀ base h₀ L m s Q E size tk x y own B F X N T hk hdp hu ho hret
  exact pair_spec w loose mean mg mb dp un gd cn cs a ccd cl outer A₀ base h₀ L m s Q E size tk _ B F X N T hk hdp hu (fun p R h' tk' hp hoff F' N' => hret p R h' tk' hp hoff (offIn2 hoff ho) F' (newsIn2 N'))
end
section
theorem ints5 {ys : List Value} {a b c d e f : Int} (h : IntsAre ys (List.map (fun k => f * k) [a, b, c, d, e])) : ∃ u1 u2 u3 u4 u5, ys = [Value.int (f * a) u1, Value.int (f * b) u2, Value.int (f * c) u3, Value.int (f * d) u4, Value.int (f * e) u5] := by
  simp only [List.map_cons, List.map_nil] at h
  cases h with | cons _ _ h => cases h with | cons _ _ h => cases h with | cons _ _ h => cases h with | cons _ _ h => cases h with | cons _ _ h =>
  cases h
  exact ⟨_, _, _, _, _, rfl⟩
theorem off1_ne {D : Addr} : ∀ {l : List (Addr × Obj)}, LCg.Off1 D l → ∀ p ∈ l, p.1 ≠ D
  | [], _, _, hp => (nomatch hp)
  | q :: r, h, p, hp => by
    rcases List.mem_cons.mp hp with rfl | hp
    · exact h.1
    · exact off1_ne h.2 p hp
theorem headN {h₀ h : Heap} {L : Addr} {r : Addr × Obj} {own : List (Addr × Obj)} (N : News h₀ L h (r :: own)) : News h₀ L h (r :: own) := N
set_option maxRecDepth 100000 in
set_option maxHeartbeats 8000000 in
theorem books_spec : ∀ (w : World) (loose : List Str) (mean : ExcName → Option Value) (mg mb : Str → Option Value) (dp un : Nat) (gd : Option (List Code)) (cn : Str) (cs : Scope) (a : Addr) (ccd : Value) (kl : List (Str × Addr)) (outer : List Env) (A₀ : Around) (base h₀ : Heap) (L : Addr) (m : Str → Option Value) (s : Shared) (Q E : Value → Shared → Prop)
    (p c cd wi wd : Addr) (x1 x2 x3 x4 x5 x6 x7 x8 y1 y2 y3 y4 y5 y6 y7 : Tok) (v : Value) (size cl cu wl wg wu : Int) (own : List (Addr × Obj)),
    Below A₀ base outer h₀ → Fr h₀ L s.heap m → (hd.heap_39 w.params).In h₀ →
    News h₀ L s.heap ((p, { cls := .type "tuple", data := .seq [Value.ref c, Value.ref wi, Value.int size y7].toArray }) :: (c, instObj 149 cd) :: (cd, cdObj w.params x1 x2 x3 cl cu y1 y2 v) :: (wi, instObj 198 wd) :: (wd, wdObj w.params x4 x5 x6 x7 x8 size wl wg wu y3 y4 y5 y6) :: own) →
    Top myView loose mean mg mb h₀ → cs.kind = .function → dp + 8 < recursionLimit → un + 80 < cLine →
    (∀ r t1 t2 t3 t4 t5 n h' tk', Fr h₀ L h' m → News h₀ L h' ((r, listOf [Value.int cu t1, Value.int cl t2, Value.int wg t3, Value.int wu t4, Value.int wl t5].toArray n) :: (p, { cls := .type "tuple", data := .seq [Value.ref c, Value.ref wi, Value.int size y7].toArray }) :: (c, instObj 149 cd) :: (cd, cdObj w.params x1 x2 x3 cl cu y1 y2 v) :: (wi, instObj 198 wd) :: (wd, wdObj w.params x4 x5 x6 x7 x8 size wl wg wu y3 y4 y5 y6) :: own) → (∀ q ∈ own, q.1 ≠ r) → r ≠ p → r ≠ c → r ≠ cd → r ≠ wi → r ≠ wd → Q (.ref r) {s with heap := h', toks := tk'}) →
    wpAny (model PySem.Challenge.rw_tk0092_01.row.prog w) (ktrTop dp un gd cn cs L a ccd kl outer) (call (.ref 230) [.ref p]) Q E s := by
  k_with_none
  w_on
  k_fill
  intro w loose mean mg mb dp un gd cn cs a ccd kl outer A₀ base h₀ L m s Q E p c cd wi wd x1 x2 x3 x4 x5 x6 x7 x8 y1 y2 y3 y4 y5 y6 y7 v size cl cu wl wg wu own B F X N T hk hdp hu hret
  have hMark := kstMark
  refine wpAny_call ?_
  k_dflt cell_enter
  k_steps
  all_goals (rename News _ _ _ _ => nA)
  rename (_ ∧ _ ∧ _ ∧ _ ∧ _ ∧ _) => lA
  obtain ⟨a0, a1, a2, a3, a4, a5⟩ := lA
  exact hret _ _ _ _ _ _ _ _ _ (by k_asm) nA (fun q hq => Nat.ne_of_lt (tb_ltOf a5 q hq)) (Nat.ne_of_gt a0) (Nat.ne_of_gt a1) (Nat.ne_of_gt a2) (Nat.ne_of_gt a3) (Nat.ne_of_gt a4)
set_option maxRecDepth 100000 in
set_option maxHeartbeats 8000000 in
theorem times5_spec : ∀ (w : World) (loose : List Str) (mean : ExcName → Option Value) (mg mb : Str → Option Value) (dp un : Nat) (gd : Option (List Code)) (cn : Str) (cs : Scope) (a : Addr) (ccd : Value) (kl : List (Str × Addr)) (outer : List Env) (A₀ : Around) (base h₀ : Heap) (L : Addr) (m : Str → Option Value) (s : Shared) (Q E : Value → Shared → Prop)
    (r : Addr) (n1 n2 n3 n4 n5 f : Int) (t1 t2 t3 t4 t5 tf : Tok) (n : Nat) (own : List (Addr × Obj)),
    Below A₀ base outer h₀ → Fr h₀ L s.heap m → (hd.heap_39 w.params).In h₀ →
    News h₀ L s.heap ((r, listOf [Value.int n1 t1, Value.int n2 t2, Value.int n3 t3, Value.int n4 t4, Value.int n5 t5].toArray n) :: own) →
    Top myView loose mean mg mb h₀ → cs.kind = .function → dp + 8 < recursionLimit → un + 80 < cLine →
    0 ≤ f → f ≤ 4 → (∀ q u1 u2 u3 u4 u5 n' h' tk', Fr h₀ L h' m → News h₀ L h' ((q, listOf [Value.int (f * n1) u1, Value.int (f * n2) u2, Value.int (f * n3) u3, Value.int (f * n4) u4, Value.int (f * n5) u5].toArray n') :: (r, listOf [Value.int n1 t1, Value.int n2 t2, Value.int n3 t3, Value.int n4 t4, Value.int n5 t5].toArray n) :: own) → (∀ x ∈ own, x.1 ≠ q) → q ≠ r → Q (.ref q) {s with heap := h', toks := tk'}) →
    wpAny (model PySem.Challenge.rw_tk0092_01.row.prog w) (ktrTop dp un gd cn cs L a ccd kl outer) (call (.ref 235) [.ref r, .int f tf]) Q E s := by
  k_with_none
  w_on
  k_fill
  intro w loose mean mg mb dp un gd cn cs a ccd kl outer A₀ base h₀ L m s Q E r n1 n2 n3 n4 n5 f t1 t2 t3 t4 t5 tf n own B F X N T hk hdp hu f0 f4 hret
  have hMark := kstMark
  refine wpAny_call ?_
  k_dflt (refine' code_defC ?k1 ?k2 ?k3 ?k4 ?k5 ?kA ?kF ?kK ?k6 ?k7 ?k8 ?k9 ?kB ?kD ?_ ?c2 ?c3 ?c4; (case kA => exact rfl); (case kF => exact rfl); (case kK => assumption); (case k1 => k_asm); (case k2 => k_asm); (case k3 => k_asm); (case k4 => k_asm); (case k5 => k_asm); (case k6 => k_is); (case k7 => k_is); (case k8 => ktr_room); (case k9 => exact BindsTo.of_eq rfl); (case kB => exact rfl); (case kD => decide +kernel); (case c2 => exact rfl); (case c3 => exact rfl); (case c4 => exact rfl); k_whole; intro g' L' h' tk' cells' FG' F' N' Y' B' X' T' l1; (try k_lt l1); k_cells Y'; (try simp only [List.cons_append, List.nil_append] at N'); (try dsimp only); (try k_lift B'); (try k_fold))
  k_steps
  rename IntsAre _ _ => hI
  rename News _ _ _ _ => nA
  obtain ⟨u1, u2, u3, u4, u5, rfl⟩ := ints5 hI
  rename (_ ≠ _ ∧ _ ≠ _ ∧ LCg.Off1 _ _) => lA
  exact hret _ _ _ _ _ _ _ _ _ (by k_asm) (newsDrop2 nA) (off1_ne lA.2.2) lA.2.1.symm
end
section
theorem newsRot {h₀ h : Heap} {L : Addr} {i p c d w x : Addr × Obj} {own : List (Addr × Obj)} (N : News h₀ L h (i :: p :: c :: d :: w :: x :: own)) : News h₀ L h ([p, c, d, w, x] ++ (i :: own)) := kst_newsOf N (by intro q hq; simp only [List.mem_append, List.mem_cons, List.not_mem_nil, or_false] at hq ⊢; grind)
theorem newsBack {h₀ h : Heap} {L : Addr} {r i : Addr × Obj} {R own : List (Addr × Obj)} (N : News h₀ L h (r :: (R ++ (i :: own)))) : News h₀ L h (i :: (R ++ own)) := kst_newsOf N (by intro q hq; simp only [List.mem_append, List.mem_cons] at hq ⊢; grind)
theorem backNe {I p c d w x : Addr} {o1 o2 o3 o4 o5 : Obj} {R own : List (Addr × Obj)} (hne : ∀ q ∈ (p, o1) :: (c, o2) :: (d, o3) :: (w, o4) :: (x, o5) :: own, q.1 ≠ I) (hR : R.map (·.1) = [p, c, d, w, x]) : ∀ q ∈ R ++ own, q.1 ≠ I := by
  intro q hq
  rcases List.mem_append.mp hq with hq | hq
  · have hm : q.1 ∈ R.map (·.1) := List.mem_map_of_mem hq
    rw [hR] at hm
    simp only [List.mem_cons, List.not_mem_nil, or_false] at hm
    rcases hm with e | e | e | e | e <;> rw [e]
    · exact hne (_, o1) (by simp)
    · exact hne (_, o2) (by simp)
    · exact hne (_, o3) (by simp)
    · exact hne (_, o4) (by simp)
    · exact hne (_, o5) (by simp)
  · exact hne q (by simp [hq])
theorem offCons {I p c d w x : Addr} {it o1 o2 o3 o4 o5 : Obj} {own : List (Addr × Obj)} (hne : ∀ q ∈ (p, o1) :: (c, o2) :: (d, o3) :: (w, o4) :: (x, o5) :: own, q.1 ≠ I) (ho : OwnOff own [p, c, d, w, x]) : OwnOff ((I, it) :: own) [p, c, d, w, x] := by
  intro q hq b hb
  rcases List.mem_cons.mp hq with rfl | hq
  · simp only [List.mem_cons, List.not_mem_nil, or_false] at hb
    rcases hb with rfl | rfl | rfl | rfl | rfl
    · exact (hne (_, o1) (by simp)).symm
    · exact (hne (_, o2) (by simp)).symm
    · exact (hne (_, o3) (by simp)).symm
    · exact (hne (_, o4) (by simp)).symm
    · exact (hne (_, o5) (by simp)).symm
  · exact ho q hq b hb
set_option maxRecDepth 100000 in
set_option maxHeartbeats 8000000 in
theorem rest_spec : ∀ (w : World) (loose : List Str) (mean : ExcName → Option Value) (mg mb : Str → Option Value) (dp un : Nat) (gd : Option (List Code)) (cn : Str) (cs : Scope) (a : Addr) (ccd : Value) (kl : List (Str × Addr)) (outer : List Env) (A₀ : Around) (base h₀ : Heap) (L : Addr) (m : Str → Option Value) (s : Shared) (Q : Value → Shared → Prop)
    (p : Addr) (R own : List (Addr × Obj)) (size cl cu wl wg wu written : Int) (ta : Option Int) (zt : Tok),
    Below A₀ base outer h₀ → Fr h₀ L s.heap m → (hd.heap_39 w.params).In h₀ →
    News h₀ L s.heap (R ++ own) →
    Top myView loose mean mg mb h₀ → cs.kind = .function → dp + 30 < recursionLimit → un + 300 < cLine →
    PairAt w.params size cl cu wl wg wu ta p R → OwnOff own (R.map (·.1)) →
    1 ≤ size → cu = wg → 0 ≤ wu → wu ≤ wg → wg ≤ cl → cl ≤ wl → wl ≤ wu + size → size ≤ 2 * (wl - wu) → wl < 16384 → cu ≤ written → written + size < 16384 →
    (∀ h' tk', Fr h₀ L h' m → News h₀ L h' own → Q (.bool true) {s with heap := h', toks := tk'}) →
    wpG (model PySem.Challenge.rw_tk0092_01.row.prog w) (ktrTop dp un gd cn cs L a ccd kl outer) (call (.ref 242) [.ref p, .int written zt]) Q (fun _ _ => False) s := by
  k_with_none
  k_with "call builtin:min" => ((with_reducible show wpAny _ _ (call (Value.builtin _) [Value.int _ _, Value.int _ _]) _ _ _); (rename News _ _ _ _ => N'); (with_unfolding_all apply min_two_M); (case hh => with_unfolding_all rfl); (case N => exact N'); (case F => assumption); clear N'; intro _ _ _ _ _)
  w_on
  k_fill
  intro w loose mean mg mb dp un gd cn cs a ccd kl outer A₀ base h₀ L m s Q p R own size cl cu wl wg wu written ta zt B F X N T hk hdp hu hp hoff i1 i2 i3 i4 i5 i6 i7 i8 i9 i10 i11 hret
  obtain ⟨c, cd, wi, wd, x1, x2, x3, x4, x5, x6, x7, x8, y1, y2, y3, y4, y5, y6, y7, v, rfl, o1, o2, o3, o4, hv⟩ := hp
  have hMark := kstMark
  have hfd : Int.fdiv (size + 1) 2 = (size + 1) / 2 := Int.fdiv_eq_ediv_of_nonneg _ (by decide)
  have hfd1 : 2 * Int.fdiv (size + 1) 2 ≤ size + 1 := by omega
  have hfd2 : size ≤ 2 * Int.fdiv (size + 1) 2 := by omega
  clear hfd
  subst i2
  simp only [List.cons_append, List.nil_append] at N
  simp only [List.map_cons, List.map_nil] at hoff
  refine wpG_call ?_
  (refine' defG ?k1 ?k2 ?k3 ?k4 ?k5 ?kA ?kF ?kK ?k6 ?k7 ?k8 ?k9 ?kB ?_ ?c2 ?c3 ?c4 ?c5; (case kA => exact rfl); (case kF => exact rfl); (case kK => assumption); (case k1 => k_asm); (case k2 => k_asm); (case k3 => k_asm); (case k4 => k_asm); (case k5 => k_asm); (case k6 => k_is); (case k7 => k_is); (case k8 => ktr_room); (case k9 => exact BindsTo.of_eq rfl); (case c5 => decide); (case kB => exact locs rfl); (case c2 => exact rfl); (case c3 => exact rfl); (case c4 => exact rfl); k_whole; intro g' L' h' FG' F' N' B' X' T'; (try dsimp only))
  refine wpG_execs_cons (wpG_If (wpG_isTrue_Compare1 (wpG_Call (wpG_of ?_))))
  k_fold
  k_steps
  refine wpG_callWithK (K := Mine.hd.heap_39 w.params) (by k_is) (wpG_of ?_)
  k_fold
  k_steps
  refine' turn_R _ _ _ _ _ _ _ _ _ _ _ _ _ _ _ _ _ _ _ _ _ p [_, _, _, _, _] own size cl cu wl cu wu cu written ta true _ _ ?Ba ?Fa ?Xa ?Na ?Ta ?hka ?dpa ?una ⟨c, cd, wi, wd, x1, x2, x3, x4, x5, x6, x7, x8, y1, y2, y3, y4, y5, y6, y7, v, rfl, o1, o2, o3, o4, hv⟩ hoff i1 rfl i3 i4 i5 i6 i7 i8 i9 (Int.le_refl _) (by omega) (by omega) ?reta
  case Ba => k_asm
  case Fa => k_asm
  case Xa => k_asm
  case Na => k_asm
  case Ta => k_asm
  case hka => exact rfl
  case dpa => ktr_room
  case una => ktr_units
  intro r R' t b v'' h2 tk2 hp2 hR2 ob ot F2 N2 hr2
  k_steps
  refine wpG_execs_nil ?_
  refine wpG_execs_cons (wpG_For ?_ rfl)
  k_fold
  k_steps
  rename IsRange _ _ _ _ _ _ _ _ => hrg
  rename Fr _ _ _ _ => Fx
  rename News _ _ _ _ => Nx
  have Nx' := newsTail Nx
  refine forG_rangeO (n := (written - 0).toNat) [Str.ofString "turn", Str.ofString "due", Str.ofString "found"]
    (fun i news1 => ∃ u wl1 ta1 R1, PairAt w.params size wl1 u wl1 u u ta1 p R1 ∧ R1.map (·.1) = [p, c, cd, wi, wd] ∧ 0 ≤ u ∧ u ≤ written ∧ size ≤ 2 * (wl1 - u) ∧ wl1 ≤ u + size ∧ (u = written ∨ (i : Int) ≤ u) ∧ news1 = R1 ++ own)
    (by rfl) hrg (small_one (by omega) (by omega) (by omega) (by omega)) (rangeSize_nat _ _) (by rfl) (by rfl) Fx Nx' ?h0 ?turn ?done
  case h0 =>
    have e1 : min cu cl = cu := by omega
    have e2 : wu + min written (cu - wu) = cu := by omega
    rw [e1, e2, if_pos rfl] at hp2
    refine ⟨cu, _, _, R', hp2, hR2, by omega, i10, ?_, ?_, by omega, rfl⟩ <;> split <;> omega
  case turn =>
    intro i t1 vs news1 h9 tk9 I it hi hJ hne F9 N9
    obtain ⟨u, wl1, ta1, R1, hp1, hR1, j0, j1, j2, j3, j4, rfl⟩ := hJ
    obtain ⟨c', cd', wi', wd', z1, z2, z3, z4, z5, z6, z7, z8, q1, q2, q3, q4, q5, q6, q7, v1, rfl, p1, p2, p3, p4, hv1⟩ := hp1
    simp only [List.cons_append, List.nil_append] at N9 hne
    refine wpG_execs_cons (wpG_of ?_)
    k_fold
    k_steps
    refine wpG_execs_cons (wpG_of ?_)
    k_fold
    k_steps
    · show wpG _ _ _ _ _ _
      have ju : u = written := by omega
      subst ju
      refine wpG_execs_cons (wpG_of ?_)
      k_fold
      k_steps
      all_goals (rename News _ _ _ _ => nA; simp only [beq_self_eq_true]; exact hret _ _ (by k_asm) (newsTail (newsTail (newsTail (newsTail (newsTail (newsTail nA)))))))
    · simp only [List.map_cons, List.map_nil, List.cons.injEq, and_true, true_and] at hR1
      obtain ⟨rfl, rfl, rfl, rfl⟩ := hR1
      refine wpG_execs_cons (wpG_Assign_Name (wpG_Call (wpG_of ?_)))
      k_fold
      k_steps
      refine wpG_callWithK (K := Mine.hd.heap_39 w.params) (by k_is) (wpG_of ?_)
      k_fold
      k_steps
      refine' turn_R _ _ _ _ _ _ _ _ _ _ _ _ _ _ _ _ _ _ _ _ _ p [_, _, _, _, _] ((I, it) :: own) size wl1 u wl1 u u written written ta1 true _ _ ?Bb ?Fb ?Xb ?Nb ?Tb ?hkb ?dpb ?unb ⟨c', cd', wi', wd', z1, z2, z3, z4, z5, z6, z7, z8, q1, q2, q3, q4, q5, q6, q7, v1, rfl, p1, p2, p3, p4, hv1⟩ (offCons hne hoff) i1 rfl j0 (Int.le_refl _) (by omega) (Int.le_refl _) j3 j2 (by omega) j1 (by omega) (by omega) ?retb
      case Bb => k_asm
      case Fb => k_asm
      case Xb => k_asm
      case Tb => k_asm
      case Nb => exact newsRot (by k_asm)
      case hkb => exact rfl
      case dpb => ktr_room
      case unb => ktr_units
      intro r8 R8 t8 b8 v8 h8 tk8 hp8 hR8 ob8 ot8 F8 N8 hr8
      k_steps
      refine wpG_execs_cons (wpG_of ?_)
      k_fold
      k_steps
      refine wpG_execs_nil ?_
      have e8 : u + min written (min written wl1 - u) = min written wl1 := by omega
      rw [e8, if_pos rfl] at hp8
      rename Fr _ _ _ _ => Fz
      rename News _ _ _ _ => Nz
      have hR8' : R8.map (·.1) = [p, c', cd', wi', wd'] := hR8
      refine ⟨_, _, _, R8 ++ own, rfl, Fz, newsBack Nz, backNe hne hR8', fun y hy => ?m, min written wl1, _, _, R8, hp8, hR8', by omega, by omega, ?s1, ?s2, by omega, rfl⟩
      case s1 => split <;> omega
      case s2 => split <;> omega
      case m =>
        have hy0 := hy
        simp only [List.contains_cons, List.contains_nil, Bool.or_false, Bool.or_eq_false_iff, beq_eq_false_iff_ne] at hy
        obtain ⟨ya, yb, yc⟩ := hy
        simp only [if_neg ya, if_neg yb, if_neg yc, hy0, Bool.false_eq_true, if_false]
  case done =>
    intro vs news1 h9 tk9 hJ F9 N9
    obtain ⟨u, wl1, ta1, R1, hp1, hR1, j0, j1, j2, j3, j4, rfl⟩ := hJ
    obtain ⟨c', cd', wi', wd', z1, z2, z3, z4, z5, z6, z7, z8, q1, q2, q3, q4, q5, q6, q7, v1, rfl, p1, p2, p3, p4, hv1⟩ := hp1
    simp only [List.cons_append, List.nil_append] at N9
    have ju : u = written := by omega
    subst ju
    refine wpG_execs_cons (wpG_of ?_)
    k_fold
    k_steps
    all_goals (rename News _ _ _ _ => nA; simp only [beq_self_eq_true]; exact hret _ _ (by k_asm) (newsTail (newsTail (newsTail (newsTail (newsTail nA))))))
end
section
set_option maxRecDepth 100000 in
set_option maxHeartbeats 8000000 in
theorem times3_spec : ∀ (w : World) (loose : List Str) (mean : ExcName → Option Value) (mg mb : Str → Option Value) (dp un : Nat) (gd : Option (List Code)) (cn : Str) (cs : Scope) (a : Addr) (ccd : Value) (kl : List (Str × Addr)) (outer : List Env) (A₀ : Around) (base h₀ : Heap) (L : Addr) (m : Str → Option Value) (s : Shared) (Q E : Value → Shared → Prop)
    (r : Addr) (n1 f : Int) (o2 o3 : Option Int) (v2 v3 : Value) (t1 tf : Tok) (own : List (Addr × Obj)),
    Below A₀ base outer h₀ → Fr h₀ L s.heap m → (hd.heap_39 w.params).In h₀ →
    News h₀ L s.heap ((r, { cls := .type "tuple", data := .seq [Value.int n1 t1, v2, v3].toArray }) :: own) →
    Top myView loose mean mg mb h₀ → cs.kind = .function → dp + 8 < recursionLimit → un + 80 < cLine →
    0 ≤ f → f ≤ 4 → optIs o2 v2 → optIs o3 v3 → (∀ q u1 w2 w3 h' tk', optIs (o2.map (f * ·)) w2 → optIs (o3.map (f * ·)) w3 → Fr h₀ L h' m → News h₀ L h' ((q, LCg.lst [Value.int (f * n1) u1, w2, w3]) :: (r, { cls := .type "tuple", data := .seq [Value.int n1 t1, v2, v3].toArray }) :: own) → (∀ x ∈ own, x.1 ≠ q) → q ≠ r → Q (.ref q) {s with heap := h', toks := tk'}) →
    wpAny (model PySem.Challenge.rw_tk0092_01.row.prog w) (ktrTop dp un gd cn cs L a ccd kl outer) (call (.ref 235) [.ref r, .int f tf]) Q E s := by
  k_with_none
  k_with "CompEnd" => (k_dflt (refine compEnd_tail (by k_asm) (by k_asm) (by assumption) (tupAt_mem (by k_mem)) ?_))
  k_with "eval ListComp" => (k_here; k_dflt (refine ListComp_tup (F₀ := by k_asm) (by rfl) (by decide) (by rfl) (by decide) (by rfl) ?_))
  w_on
  k_fill
  intro w loose mean mg mb dp un gd cn cs a ccd kl outer A₀ base h₀ L m s Q E r n1 f o2 o3 v2 v3 t1 tf own B F X N T hk hdp hu f0 f4 h2 h3 hret
  have hMark := kstMark
  refine wpAny_call ?_
  k_dflt (refine' code_defC ?k1 ?k2 ?k3 ?k4 ?k5 ?kA ?kF ?kK ?k6 ?k7 ?k8 ?k9 ?kB ?kD ?_ ?c2 ?c3 ?c4; (case kA => exact rfl); (case kF => exact rfl); (case kK => assumption); (case k1 => k_asm); (case k2 => k_asm); (case k3 => k_asm); (case k4 => k_asm); (case k5 => k_asm); (case k6 => k_is); (case k7 => k_is); (case k8 => ktr_room); (case k9 => exact BindsTo.of_eq rfl); (case kB => exact rfl); (case kD => decide +kernel); (case c2 => exact rfl); (case c3 => exact rfl); (case c4 => exact rfl); k_whole; intro g' L' h' tk' cells' FG' F' N' Y' B' X' T' l1; (try k_lt l1); k_cells Y'; (try simp only [List.cons_append, List.nil_append] at N'); (try dsimp only); (try k_lift B'); (try k_fold))
  k_steps
  k_dflt (refine SrcT.intro (by rfl) (by k_asm) (by k_asm) (by k_mem) (by first | size_fits | exact Nat.le_of_ble_eq_true rfl) ?_)
  intro g9
  k_dflt lcg_lit
  cases o2 <;> cases o3
  · cases h2; cases h3
    k_steps
    all_goals (rename News _ _ _ _ => nA; rename (_ ≠ _ ∧ _ ≠ _ ∧ LCg.Off1 _ _) => lA; exact hret _ _ _ _ _ _ rfl rfl (by k_asm) (newsDrop2 nA) (off1_ne lA.2.2) lA.2.1.symm)
  · cases h2; obtain ⟨t3, rfl⟩ := h3
    k_steps
    all_goals (rename News _ _ _ _ => nA; rename (_ ≠ _ ∧ _ ≠ _ ∧ LCg.Off1 _ _) => lA; exact hret _ _ _ _ _ _ rfl ⟨_, rfl⟩ (by k_asm) (newsDrop2 nA) (off1_ne lA.2.2) lA.2.1.symm)
  · obtain ⟨t2, rfl⟩ := h2; cases h3
    k_steps
    all_goals (rename News _ _ _ _ => nA; rename (_ ≠ _ ∧ _ ≠ _ ∧ LCg.Off1 _ _) => lA; exact hret _ _ _ _ _ _ ⟨_, rfl⟩ rfl (by k_asm) (newsDrop2 nA) (off1_ne lA.2.2) lA.2.1.symm)
  · obtain ⟨t2, rfl⟩ := h2; obtain ⟨t3, rfl⟩ := h3
    k_steps
    all_goals (rename News _ _ _ _ => nA; rename (_ ≠ _ ∧ _ ≠ _ ∧ LCg.Off1 _ _) => lA; exact hret _ _ _ _ _ _ ⟨_, rfl⟩ ⟨_, rfl⟩ (by k_asm) (newsDrop2 nA) (off1_ne lA.2.2) lA.2.1.symm)
end
section
set_option maxRecDepth 100000 in
set_option maxHeartbeats 8000000 in
theorem take_spec : ∀ (w : World) (loose : List Str) (mean : ExcName → Option Value) (mg mb : Str → Option Value) (dp un : Nat) (gd : Option (List Code)) (cn : Str) (cs : Scope) (a : Addr) (ccd : Value) (cl : List (Str × Addr)) (outer : List Env) (A₀ : Around) (base h₀ : Heap) (L : Addr) (m : Str → Option Value) (s : Shared) (Q E : Value → Shared → Prop)
    (box lst : Addr) (vs : List Value) (ns : List Int) (k many : Int) (tk tm : Tok) (n n' : Nat) (own : List (Addr × Obj)),
    Below A₀ base outer h₀ → Fr h₀ L s.heap m → (hd.heap_39 w.params).In h₀ → News h₀ L s.heap ((box, listOf [Value.ref lst, Value.int k tk].toArray n) :: (lst, listOf vs.toArray n') :: own) →
    Top myView loose mean mg mb h₀ → cs.kind = .function → IntsAre vs ns → ns.length ≤ 26 → 0 ≤ k → k ≤ 1000 → 2 ≤ many → many ≤ 7 → dp + 2 < recursionLimit → un + 8 < cLine → lst ≠ box → OwnOff own [box, lst] →
    (∀ v t t' h' tk', 0 ≤ v → v < many → Fr h₀ L h' m → News h₀ L h' ((box, listOf [Value.ref lst, Value.int (k + 1) t'].toArray n) :: (lst, listOf vs.toArray n') :: own) → Q (.int v t) {s with heap := h', toks := tk'}) →
    wpAny (model PySem.Challenge.rw_tk0092_01.row.prog w) (ktrTop dp un gd cn cs L a ccd cl outer) (call (.ref 209) [.ref box, .int many tm]) Q E s := by
  k_with_none
  w_on
  k_fill
  intro w loose mean mg mb dp un gd cn cs a ccd cl outer A₀ base h₀ L m s Q E box lst vs ns k many tk tm n n' own B F X N T hk hi hlen h0 h1 hm hm' hd hu hne hoff hret
  have hMark := kstMark
  refine wpAny_call ?_
  k_dflt cell_enter
  k_steps
  all_goals (refine' hret _ _ _ _ _ (fmod_lo _ (by omega)) (fmod_hi _ (by omega)) ?a ?b; (case a => k_asm); (case b => k_asm))
end
section
structure Inv (sz W cl cu wl wu : Int) : Prop where
  a0 : 0 ≤ wu
  a1 : wu ≤ cu
  a2 : cu ≤ cl
  a3 : cl ≤ wl
  a4 : wl ≤ wu + sz
  a5 : sz ≤ 2 * (wl - wu)
  a6 : cu ≤ W
structure Rel (cl cu wl wu cl1 cu1 wl1 wu1 : Int) : Prop where
  b0 : cl ≤ cl1
  b1 : cu ≤ cu1
  b2 : wl ≤ wl1
  b3 : wu ≤ wu1
theorem Inv.core {sz W W' cl cu wl wu many c' u' l' : Int} (h : Inv sz W cl cu wl wu) (hW : W ≤ W') (hm : 0 ≤ many) (e1 : c' = min W' cl) (e2 : u' = wu + min many (c' - wu)) (e3 : l' = wl ∧ sz ≤ 2 * (wl - u') ∨ l' = u' + sz ∧ 2 * (wl - u') < sz) (comes : Bool) :
    Inv sz W' (if comes = true then l' else cl) c' l' u' := by
  obtain ⟨a0, a1, a2, a3, a4, a5, a6⟩ := h
  cases comes <;> constructor <;> (try simp only [if_true, if_false, Bool.false_eq_true]) <;> omega
theorem if_cases {a b x y : Int} : (if a < b then x else y) = y ∧ b ≤ a ∨ (if a < b then x else y) = x ∧ a < b := by
  by_cases h : a < b
  · exact .inr ⟨if_pos h, h⟩
  · exact .inl ⟨if_neg h, by omega⟩
theorem Inv.turn {sz W W' cl cu wl wu many : Int} (h : Inv sz W cl cu wl wu) (hW : W ≤ W') (hm : 0 ≤ many) (comes : Bool) :
    Inv sz W' (if comes = true then (if 2 * (wl - (wu + min many (min W' cl - wu))) < sz then wu + min many (min W' cl - wu) + sz else wl) else cl) (min W' cl)
      (if 2 * (wl - (wu + min many (min W' cl - wu))) < sz then wu + min many (min W' cl - wu) + sz else wl) (wu + min many (min W' cl - wu)) :=
  h.core hW hm rfl rfl if_cases comes
theorem Rel.core {sz s1 W' cl cu wl wu cl1 cu1 wl1 wu1 many c' u' l' d' v' k' : Int} (r : Rel cl cu wl wu cl1 cu1 wl1 wu1) (h : Inv sz W' l' c' l' u') (g : Inv s1 W' k' d' k' v') (hz : 2 * sz ≤ s1) (e1 : c' = min W' cl) (e2 : u' = wu + min many (c' - wu)) (f1 : d' = min W' cl1) (f2 : v' = wu1 + min many (d' - wu1)) (comes : Bool) :
    Rel (if comes = true then l' else cl) c' l' u' (if comes = true then k' else cl1) d' k' v' := by
  obtain ⟨a0, a1, a2, a3, a4, a5, a6⟩ := h
  obtain ⟨c0, c1, c2, c3, c4, c5, c6⟩ := g
  obtain ⟨b0, b1, b2, b3⟩ := r
  cases comes <;> constructor <;> (try simp only [if_true, if_false, Bool.false_eq_true]) <;> omega
theorem Rel.turn {sz s1 W W' cl cu wl wu cl1 cu1 wl1 wu1 many : Int} (r : Rel cl cu wl wu cl1 cu1 wl1 wu1) (h : Inv sz W cl cu wl wu) (g : Inv s1 W cl1 cu1 wl1 wu1) (hz : 2 * sz ≤ s1) (hW : W ≤ W') (hm : 0 ≤ many) (comes : Bool) :
    Rel (if comes = true then (if 2 * (wl - (wu + min many (min W' cl - wu))) < sz then wu + min many (min W' cl - wu) + sz else wl) else cl) (min W' cl)
      (if 2 * (wl - (wu + min many (min W' cl - wu))) < sz then wu + min many (min W' cl - wu) + sz else wl) (wu + min many (min W' cl - wu))
      (if comes = true then (if 2 * (wl1 - (wu1 + min many (min W' cl1 - wu1))) < s1 then wu1 + min many (min W' cl1 - wu1) + s1 else wl1) else cl1) (min W' cl1)
      (if 2 * (wl1 - (wu1 + min many (min W' cl1 - wu1))) < s1 then wu1 + min many (min W' cl1 - wu1) + s1 else wl1) (wu1 + min many (min W' cl1 - wu1)) := by
  have h1 := h.core hW hm rfl rfl (if_cases (a := 2 * (wl - (wu + min many (min W' cl - wu)))) (b := sz) (x := wu + min many (min W' cl - wu) + sz) (y := wl)) true
  have g1 := g.core hW hm rfl rfl (if_cases (a := 2 * (wl1 - (wu1 + min many (min W' cl1 - wu1)))) (b := s1) (x := wu1 + min many (min W' cl1 - wu1) + s1) (y := wl1)) true
  simp only [if_true] at h1 g1
  exact r.core h1 g1 hz rfl rfl rfl rfl comes
theorem hfp {f : Int} (hf : f = 2 ∨ f = 3 ∨ f = 4) : 0 < f := by omega
theorem min_scale {f a b : Int} (h : 0 < f) : min (f * a) (f * b) = f * min a b := by
  rcases Int.le_total a b with h1 | h1
  · rw [Int.min_eq_left h1, Int.min_eq_left (Int.mul_le_mul_of_nonneg_left h1 (Int.le_of_lt h))]
  · rw [Int.min_eq_right h1, Int.min_eq_right (Int.mul_le_mul_of_nonneg_left h1 (Int.le_of_lt h))]
theorem lt_scale {f a b c : Int} (h : 0 < f) : 2 * (f * a - f * b) < f * c ↔ 2 * (a - b) < c := by
  rw [← Int.mul_sub, Int.mul_left_comm]
  exact Int.mul_lt_mul_left h
theorem scale_cu {f W cl : Int} (hf : f = 2 ∨ f = 3 ∨ f = 4) : min (f * W) (f * cl) = f * min W cl := min_scale (hfp hf)
theorem scale_wu {f W cl wu many : Int} (hf : f = 2 ∨ f = 3 ∨ f = 4) : f * wu + min (f * many) (min (f * W) (f * cl) - f * wu) = f * (wu + min many (min W cl - wu)) := by
  rw [scale_cu hf, ← Int.mul_sub, min_scale (hfp hf), ← Int.mul_add]
theorem scale_wl {f sz W cl wl wu many : Int} (hf : f = 2 ∨ f = 3 ∨ f = 4) :
    (if 2 * (f * wl - (f * wu + min (f * many) (min (f * W) (f * cl) - f * wu))) < f * sz then f * wu + min (f * many) (min (f * W) (f * cl) - f * wu) + f * sz else f * wl) =
      f * (if 2 * (wl - (wu + min many (min W cl - wu))) < sz then wu + min many (min W cl - wu) + sz else wl) := by
  rw [scale_wu hf]
  generalize wu + min many (min W cl - wu) = u
  by_cases h : 2 * (wl - u) < sz
  · rw [if_pos h, if_pos ((lt_scale (hfp hf)).mpr h), Int.mul_add]
  · rw [if_neg h, if_neg fun x => h ((lt_scale (hfp hf)).mp x)]
theorem scale_cl {f a b : Int} (comes : Bool) {x : Int} (hx : x = f * a) : (if comes = true then x else f * b) = f * (if comes = true then a else b) := by
  subst hx; cases comes <;> rfl
theorem scale_told {f sz W cl wl wu many : Int} (hf : f = 2 ∨ f = 3 ∨ f = 4) :
    (if 2 * (f * wl - (f * wu + min (f * many) (min (f * W) (f * cl) - f * wu))) < f * sz then some (f * wu + min (f * many) (min (f * W) (f * cl) - f * wu) + f * sz) else none) =
      (if 2 * (wl - (wu + min many (min W cl - wu))) < sz then some (wu + min many (min W cl - wu) + sz) else none).map (f * ·) := by
  rw [scale_wu hf]
  generalize wu + min many (min W cl - wu) = u
  by_cases h : 2 * (wl - u) < sz
  · rw [if_pos h, if_pos ((lt_scale (hfp hf)).mpr h), Option.map_some]; simp only [Int.mul_add]
  · rw [if_neg h, if_neg fun x => h ((lt_scale (hfp hf)).mp x), Option.map_none]
theorem map_eq {f cl : Int} {ta : Option Int} (hf : f = 2 ∨ f = 3 ∨ f = 4) : ta.map (f * ·) = some (f * cl) ↔ ta = some cl := by
  cases ta with
  | none => simp
  | some t => simp only [Option.map_some, Option.some.injEq]; rcases hf with rfl | rfl | rfl <;> omega
theorem scale_if {f W cl : Int} {ta : Option Int} (hf : f = 2 ∨ f = 3 ∨ f = 4) : (0 < f * cl - min (f * W) (f * cl) ∨ ta.map (f * ·) = some (f * cl)) ↔ (0 < cl - min W cl ∨ ta = some cl) := by
  rw [map_eq hf]
  have : 0 < f * cl - min (f * W) (f * cl) ↔ 0 < cl - min W cl := by rcases hf with rfl | rfl | rfl <;> omega
  rw [this]
theorem scale_block {f W cl : Int} {ta : Option Int} (hf : f = 2 ∨ f = 3 ∨ f = 4) :
    (if 0 < f * cl - min (f * W) (f * cl) ∨ ta.map (f * ·) = some (f * cl) then none else some (f * cl)) = (if 0 < cl - min W cl ∨ ta = some cl then none else some cl).map (f * ·) := by
  by_cases h : 0 < cl - min W cl ∨ ta = some cl
  · rw [if_pos h, if_pos ((scale_if hf).mpr h)]; rfl
  · rw [if_neg h, if_neg (fun x => h ((scale_if hf).mp x))]; rfl
theorem scale_ta {f W cl : Int} {ta : Option Int} (hf : f = 2 ∨ f = 3 ∨ f = 4) :
    (if 0 < f * cl - min (f * W) (f * cl) ∨ ta.map (f * ·) = some (f * cl) then ta.map (f * ·) else some (f * cl)) = (if 0 < cl - min W cl ∨ ta = some cl then ta else some cl).map (f * ·) := by
  by_cases h : 0 < cl - min W cl ∨ ta = some cl
  · rw [if_pos h, if_pos ((scale_if hf).mpr h)]
  · rw [if_neg h, if_neg (fun x => h ((scale_if hf).mp x))]; rfl
theorem Inv.scale {f sz W cl cu wl wu : Int} (h : Inv sz W cl cu wl wu) (hf : f = 2 ∨ f = 3 ∨ f = 4) : Inv (f * sz) (f * W) (f * cl) (f * cu) (f * wl) (f * wu) := by
  obtain ⟨a0, a1, a2, a3, a4, a5, a6⟩ := h
  rcases hf with rfl | rfl | rfl <;> constructor <;> omega
theorem Inv.small {sz W cl cu wl wu : Int} (h : Inv sz W cl cu wl wu) : wl ≤ W + sz := by
  obtain ⟨a0, a1, a2, a3, a4, a5, a6⟩ := h
  omega
theorem mul_small {f a b : Int} (hf : f = 2 ∨ f = 3 ∨ f = 4) (h0 : 0 ≤ a) (h1 : a ≤ b) : 0 ≤ f * a ∧ f * a ≤ 4 * b := by
  rcases hf with rfl | rfl | rfl <;> omega
theorem mul_le {f a b : Int} (hf : f = 2 ∨ f = 3 ∨ f = 4) (h : a ≤ b) : f * a ≤ f * b := by
  rcases hf with rfl | rfl | rfl <;> omega
structure Apart (box lst pl c1 c2 : Addr) (a0 a1 a2 : List Addr) : Prop where
  n1 : @Ne Nat box lst
  n2 : @Ne Nat box pl
  n3 : @Ne Nat box c1
  n4 : @Ne Nat box c2
  n5 : @Ne Nat lst pl
  n6 : @Ne Nat lst c1
  n7 : @Ne Nat lst c2
  n8 : @Ne Nat pl c1
  n9 : @Ne Nat pl c2
  n10 : @Ne Nat c1 c2
  e0 : ∀ a ∈ [box, lst, pl, c1, c2], ∀ b ∈ a0, a ≠ b
  e1 : ∀ a ∈ [box, lst, pl, c1, c2], ∀ b ∈ a1, a ≠ b
  e2 : ∀ a ∈ [box, lst, pl, c1, c2], ∀ b ∈ a2, a ≠ b
  d01 : ∀ a ∈ a0, ∀ b ∈ a1, a ≠ b
  d02 : ∀ a ∈ a0, ∀ b ∈ a2, a ≠ b
  d12 : ∀ a ∈ a1, ∀ b ∈ a2, a ≠ b
theorem mem1 {R : List (Addr × Obj)} {a : List Addr} (e : R.map (·.1) = a) {q : Addr × Obj} (h : q ∈ R) : q.1 ∈ a := e ▸ List.mem_map_of_mem h
theorem Apart.tail {box lst pl c1 c2 : Addr} {a0 a1 a2 : List Addr} {R0 R1 R2 : List (Addr × Obj)} (x : Apart box lst pl c1 c2 a0 a1 a2) (h0 : R0.map (·.1) = a0) (h1 : R1.map (·.1) = a1) (h2 : R2.map (·.1) = a2) :
    OwnOff (R0 ++ (R1 ++ R2)) [box, lst, pl, c1, c2] := by
  intro q hq b hb
  rcases List.mem_append.mp hq with hq | hq
  · exact (x.e0 b hb _ (mem1 h0 hq)).symm
  rcases List.mem_append.mp hq with hq | hq
  · exact (x.e1 b hb _ (mem1 h1 hq)).symm
  · exact (x.e2 b hb _ (mem1 h2 hq)).symm
theorem offSub {own : List (Addr × Obj)} {l l' : List Addr} (h : OwnOff own l) (hs : ∀ a ∈ l', a ∈ l) : OwnOff own l' := fun q hq b hb => h q hq b (hs b hb)
theorem offPut {own : List (Addr × Obj)} {l : List Addr} {q : Addr × Obj} (h : OwnOff own l) (hq : ∀ b ∈ l, q.1 ≠ b) : OwnOff (q :: own) l := fun p hp b hb => by
  rcases List.mem_cons.mp hp with rfl | hp
  · exact hq b hb
  · exact h p hp b hb
theorem offBoth {l r : List (Addr × Obj)} {a : List Addr} (h : OwnOff l a) (g : OwnOff r a) : OwnOff (l ++ r) a := fun p hp b hb => (List.mem_append.mp hp).elim (fun x => h p x b hb) fun x => g p x b hb
structure AtTurn (P : Params) (box lst pl c1 c2 p0 p1 p2 : Addr) (sz s1 f : Int) (a0 a1 a2 : List Addr) (vs : List Value) (nb nl np : Nat) (i : Nat) (k W cl cu wl wu cl1 cu1 wl1 wu1 : Int) (ta ta1 : Option Int) (tk tw : Tok) (oc1 oc2 : Obj) (x2 : Option Value)
    (R0 R1 R2 : List (Addr × Obj)) (news : List (Addr × Obj)) : Prop where
  led : news = (box, listOf [Value.ref lst, Value.int k tk].toArray nb) :: (lst, listOf vs.toArray nl) :: (pl, listOf [Value.ref p0, Value.ref p1, Value.ref p2].toArray np) :: (c1, oc1) :: (c2, oc2) :: (R0 ++ (R1 ++ R2))
  hc1 : oc1.data = .cell (some (.int W tw))
  hc2 : oc2.data = .cell x2
  k0 : 0 ≤ k
  k1 : k ≤ 10 + 4 * (i : Int)
  w0 : 0 ≤ W
  w1 : W ≤ 6 * (i : Int)
  q0 : PairAt P sz cl cu wl cu wu ta p0 R0
  q1 : PairAt P s1 cl1 cu1 wl1 cu1 wu1 ta1 p1 R1
  q2 : PairAt P (f * sz) (f * cl) (f * cu) (f * wl) (f * cu) (f * wu) (ta.map (f * ·)) p2 R2
  r0 : R0.map (·.1) = a0
  r1 : R1.map (·.1) = a1
  r2 : R2.map (·.1) = a2
  v0 : Inv sz W cl cu wl wu
  v1 : Inv s1 W cl1 cu1 wl1 wu1
  rl : Rel cl cu wl wu cl1 cu1 wl1 wu1
inductive LoopJ (P : Params) (box lst pl c1 c2 p0 p1 p2 : Addr) (sz s1 f : Int) (a0 a1 a2 : List Addr) (vs : List Value) (nb nl np : Nat) (i : Nat) (news : List (Addr × Obj)) : Prop
  | mk (k W cl cu wl wu cl1 cu1 wl1 wu1 : Int) (ta ta1 : Option Int) (tk tw : Tok) (oc1 oc2 : Obj) (x2 : Option Value) (R0 R1 R2 : List (Addr × Obj))
      (h : AtTurn P box lst pl c1 c2 p0 p1 p2 sz s1 f a0 a1 a2 vs nb nl np i k W cl cu wl wu cl1 cu1 wl1 wu1 ta ta1 tk tw oc1 oc2 x2 R0 R1 R2 news)
theorem mkApart {box lst D2 c1 c2 pl : Addr} {R0 R1 R2 : List (Addr × Obj)} {o1 o2 o3 o4 o5 o6 o7 o8 o9 o10 o11 o12 o13 o14 o15 o16 o17 o18 : Obj}
    (off1 : ∀ x y z, OwnOff [(D2, x), (c2, y), (c1, z)] [box, lst]) (ne1 : lst ≠ box) (h12 : @LT.lt Nat _ c1 c2)
    (oa : OwnOff [(box, o1), (lst, o2), (D2, o3), (c2, o4), (c1, o5)] (R0.map (·.1))) (ob : OwnOff ((box, o6) :: (lst, o7) :: (R0 ++ [(D2, o8), (c2, o9), (c1, o10)])) (R1.map (·.1)))
    (lp : @LT.lt Nat _ box pl ∧ @LT.lt Nat _ lst pl ∧ AllLt pl (R1 ++ (R0 ++ [(D2, o11), (c2, o12), (c1, o13)])))
    (oc : OwnOff ((pl, o14) :: (box, o15) :: (lst, o16) :: (c1, o17) :: (c2, o18) :: (R0 ++ R1)) (R2.map (·.1))) : Apart box lst pl c1 c2 (R0.map (·.1)) (R1.map (·.1)) (R2.map (·.1)) := by
  have x1 := off1 o1 o1 o1
  obtain ⟨p1, p2, p3⟩ := lp
  have p4 := tb_ltOf p3
  have z1 : @LT.lt Nat _ c1 pl := p4 (c1, o13) (by simp)
  have z2 : @LT.lt Nat _ c2 pl := p4 (c2, o12) (by simp)
  refine ⟨ne1.symm, Nat.ne_of_lt p1, (x1 (c1, o1) (by simp) box (by simp)).symm, (x1 (c2, o1) (by simp) box (by simp)).symm, Nat.ne_of_lt p2, (x1 (c1, o1) (by simp) lst (by simp)).symm, (x1 (c2, o1) (by simp) lst (by simp)).symm, Nat.ne_of_gt z1, Nat.ne_of_gt z2, Nat.ne_of_lt h12, ?_, ?_, ?_, ?_, ?_, ?_⟩
  · intro a ha b hb
    simp only [List.mem_cons, List.not_mem_nil, or_false] at ha
    rcases ha with rfl | rfl | rfl | rfl | rfl
    · exact oa (a, o1) (by simp) b hb
    · exact oa (a, o2) (by simp) b hb
    · obtain ⟨q, hq, rfl⟩ := List.mem_map.mp hb
      exact Nat.ne_of_gt (p4 q (by simp [hq]))
    · exact oa (a, o5) (by simp) b hb
    · exact oa (a, o4) (by simp) b hb
  · intro a ha b hb
    simp only [List.mem_cons, List.not_mem_nil, or_false] at ha
    rcases ha with rfl | rfl | rfl | rfl | rfl
    · exact ob (a, o6) (by simp) b hb
    · exact ob (a, o7) (by simp) b hb
    · obtain ⟨q, hq, rfl⟩ := List.mem_map.mp hb
      exact Nat.ne_of_gt (p4 q (by simp [hq]))
    · exact ob (a, o10) (by simp) b hb
    · exact ob (a, o9) (by simp) b hb
  · intro a ha b hb
    simp only [List.mem_cons, List.not_mem_nil, or_false] at ha
    rcases ha with rfl | rfl | rfl | rfl | rfl
    · exact oc (a, o15) (by simp) b hb
    · exact oc (a, o16) (by simp) b hb
    · exact oc (a, o14) (by simp) b hb
    · exact oc (a, o17) (by simp) b hb
    · exact oc (a, o18) (by simp) b hb
  · intro a ha b hb
    obtain ⟨q, hq, rfl⟩ := List.mem_map.mp ha
    exact ob q (by simp [hq]) b hb
  · intro a ha b hb
    obtain ⟨q, hq, rfl⟩ := List.mem_map.mp ha
    exact oc q (by simp [hq]) b hb
  · intro a ha b hb
    obtain ⟨q, hq, rfl⟩ := List.mem_map.mp ha
    exact oc q (by simp [hq]) b hb
theorem pair_scale {P : Params} {f sz W cl wl wu many : Int} {ta : Option Int} {comes : Bool} {p : Addr} {R : List (Addr × Obj)} (hf : f = 2 ∨ f = 3 ∨ f = 4)
    (h : PairAt P (f * sz) (if comes = true then (if 2 * (f * wl - (f * wu + min (f * many) (min (f * W) (f * cl) - f * wu))) < f * sz then f * wu + min (f * many) (min (f * W) (f * cl) - f * wu) + f * sz else f * wl) else f * cl) (min (f * W) (f * cl))
      (if 2 * (f * wl - (f * wu + min (f * many) (min (f * W) (f * cl) - f * wu))) < f * sz then f * wu + min (f * many) (min (f * W) (f * cl) - f * wu) + f * sz else f * wl) (min (f * W) (f * cl)) (f * wu + min (f * many) (min (f * W) (f * cl) - f * wu))
      (if 0 < f * cl - min (f * W) (f * cl) ∨ ta.map (f * ·) = some (f * cl) then ta.map (f * ·) else some (f * cl)) p R) :
    PairAt P (f * sz) (f * (if comes = true then (if 2 * (wl - (wu + min many (min W cl - wu))) < sz then wu + min many (min W cl - wu) + sz else wl) else cl)) (f * min W cl)
      (f * (if 2 * (wl - (wu + min many (min W cl - wu))) < sz then wu + min many (min W cl - wu) + sz else wl)) (f * min W cl) (f * (wu + min many (min W cl - wu))) ((if 0 < cl - min W cl ∨ ta = some cl then ta else some cl).map (f * ·)) p R := by
  rw [scale_wl hf, scale_cl comes rfl, scale_wu hf, scale_ta hf, scale_cu hf] at h
  exact h
theorem scale_step {f W cl cu : Int} (hf : f = 2 ∨ f = 3 ∨ f = 4) : min (f * W) (f * cl) - f * cu = f * (min W cl - cu) := by rw [scale_cu hf, Int.mul_sub]
end
section
theorem offT {box lst pl c1 c2 I : Addr} {a0 a1 a2 : List Addr} {R0 R1 R2 : List (Addr × Obj)} (x : Apart box lst pl c1 c2 a0 a1 a2) (h0 : R0.map (·.1) = a0) (h1 : R1.map (·.1) = a1) (h2 : R2.map (·.1) = a2)
    (hb : box ≠ I) (hl : lst ≠ I) (oI o o' o'' : Obj) : OwnOff ((I, oI) :: (pl, o) :: (c1, o') :: (c2, o'') :: (R0 ++ (R1 ++ R2))) [box, lst] := by
  have t := x.tail h0 h1 h2
  intro q hq b hb'
  simp only [List.mem_cons, List.not_mem_nil, or_false] at hb'
  rcases List.mem_cons.mp hq with rfl | hq
  · rcases hb' with rfl | rfl
    · exact hb.symm
    · exact hl.symm
  rcases List.mem_cons.mp hq with rfl | hq
  · rcases hb' with rfl | rfl
    · exact Ne.symm x.n2
    · exact Ne.symm x.n5
  rcases List.mem_cons.mp hq with rfl | hq
  · rcases hb' with rfl | rfl
    · exact Ne.symm x.n3
    · exact Ne.symm x.n6
  rcases List.mem_cons.mp hq with rfl | hq
  · rcases hb' with rfl | rfl
    · exact Ne.symm x.n4
    · exact Ne.symm x.n7
  exact t q hq b (by rcases hb' with rfl | rfl <;> simp)
theorem newsT {h₀ h : Heap} {L : Addr} {i b l p c d : Addr × Obj} {own : List (Addr × Obj)} (N : News h₀ L h (i :: b :: l :: p :: c :: d :: own)) : News h₀ L h (b :: l :: i :: p :: c :: d :: own) :=
  kst_newsOf N (by intro q hq; simp only [List.mem_cons] at hq ⊢; grind)
end
section
section
variable {h₀ h : Heap} {L : Addr} {b l i p c d r r' r'' f : Addr × Obj} {A B C : List (Addr × Obj)}
theorem perm1 (N : News h₀ L h (b :: l :: i :: p :: c :: d :: (A ++ B))) : News h₀ L h (A ++ (b :: l :: i :: p :: c :: d :: B)) :=
  kst_newsOf N (by intro q hq; simp only [List.mem_append, List.mem_cons] at hq ⊢; grind)
theorem perm1' (N : News h₀ L h (r :: (A ++ (b :: l :: i :: p :: c :: d :: B)))) : News h₀ L h (b :: l :: i :: p :: c :: d :: r :: (A ++ B)) :=
  kst_newsOf N (by intro q hq; simp only [List.mem_append, List.mem_cons] at hq ⊢; grind)
theorem perm2 (N : News h₀ L h (b :: l :: i :: p :: c :: d :: r :: (A ++ (B ++ C)))) : News h₀ L h (B ++ (b :: l :: i :: p :: c :: d :: r :: (A ++ C))) :=
  kst_newsOf N (by intro q hq; simp only [List.mem_append, List.mem_cons] at hq ⊢; grind)
theorem perm2' (N : News h₀ L h (r' :: (B ++ (b :: l :: i :: p :: c :: d :: r :: (A ++ C))))) : News h₀ L h (b :: l :: i :: p :: c :: d :: r :: r' :: (A ++ (B ++ C))) :=
  kst_newsOf N (by intro q hq; simp only [List.mem_append, List.mem_cons] at hq ⊢; grind)
theorem perm3 (N : News h₀ L h (f :: b :: l :: i :: p :: c :: d :: r :: r' :: (A ++ (B ++ C)))) : News h₀ L h (C ++ (f :: b :: l :: i :: p :: c :: d :: r :: r' :: (A ++ B))) :=
  kst_newsOf N (by intro q hq; simp only [List.mem_append, List.mem_cons] at hq ⊢; grind)
theorem perm3' (N : News h₀ L h (r'' :: (C ++ (f :: b :: l :: i :: p :: c :: d :: r :: r' :: (A ++ B))))) : News h₀ L h (f :: b :: l :: i :: p :: c :: d :: r :: r' :: r'' :: (A ++ (B ++ C))) :=
  kst_newsOf N (by intro q hq; simp only [List.mem_append, List.mem_cons] at hq ⊢; grind)
end
section
variable {box lst pl c1 c2 I r0 r1 f : Addr} {a0 a1 a2 : List Addr} {R0 R1 R2 : List (Addr × Obj)} {o1 o2 o3 o4 o5 o6 o7 o8 o9 : Obj}
theorem offI (x : ∀ a ∈ [box, lst, pl, c1, c2], ∀ b ∈ a0, a ≠ b) (hI : ∀ b ∈ a0, b ≠ I) {T : List (Addr × Obj)} (t : OwnOff T a0) : OwnOff ((box, o1) :: (lst, o2) :: (I, o3) :: (pl, o4) :: (c1, o5) :: (c2, o6) :: T) a0 :=
  offPut (offPut (offPut (offPut (offPut (offPut t (x c2 (by simp))) (x c1 (by simp))) (x pl (by simp))) fun b hb => (hI b hb).symm) (x lst (by simp))) (x box (by simp))
theorem Apart.off0 (x : Apart box lst pl c1 c2 a0 a1 a2) (h1 : R1.map (·.1) = a1) (h2 : R2.map (·.1) = a2) (hI : ∀ b ∈ a0, b ≠ I) :
    OwnOff ((box, o1) :: (lst, o2) :: (I, o3) :: (pl, o4) :: (c1, o5) :: (c2, o6) :: (R1 ++ R2)) a0 :=
  offI x.e0 hI (offBoth (fun q hq b hb => (x.d01 b hb _ (mem1 h1 hq)).symm) fun q hq b hb => (x.d02 b hb _ (mem1 h2 hq)).symm)
theorem Apart.off1 (x : Apart box lst pl c1 c2 a0 a1 a2) (h0 : R0.map (·.1) = a0) (h2 : R2.map (·.1) = a2) (hI : ∀ b ∈ a1, b ≠ I) (hr : ∀ b ∈ a1, b ≠ r0) :
    OwnOff ((box, o1) :: (lst, o2) :: (I, o3) :: (pl, o4) :: (c1, o5) :: (c2, o6) :: (r0, o7) :: (R0 ++ R2)) a1 :=
  offI x.e1 hI (offPut (offBoth (fun q hq b hb => x.d01 _ (mem1 h0 hq) b hb) fun q hq b hb => (x.d12 b hb _ (mem1 h2 hq)).symm) fun b hb => (hr b hb).symm)
theorem Apart.off2 (x : Apart box lst pl c1 c2 a0 a1 a2) (h0 : R0.map (·.1) = a0) (h1 : R1.map (·.1) = a1) (hI : ∀ b ∈ a2, b ≠ I) (hr : ∀ b ∈ a2, b ≠ r0) (hr' : ∀ b ∈ a2, b ≠ r1) (hf : ∀ b ∈ a2, b ≠ f) :
    OwnOff ((f, o9) :: (box, o1) :: (lst, o2) :: (I, o3) :: (pl, o4) :: (c1, o5) :: (c2, o6) :: (r0, o7) :: (r1, o8) :: (R0 ++ R1)) a2 :=
  offPut (offI x.e2 hI (offPut (offPut (offBoth (fun q hq b hb => x.d02 _ (mem1 h0 hq) b hb) fun q hq b hb => x.d12 _ (mem1 h1 hq) b hb) fun b hb => (hr' b hb).symm) fun b hb => (hr b hb).symm)) fun b hb => (hf b hb).symm
theorem neMap {own : List (Addr × Obj)} {R : List (Addr × Obj)} {a : List Addr} {x : Addr} (h : ∀ q ∈ own, q.1 ≠ x) (hR : R.map (·.1) = a) (hs : ∀ q ∈ R, q ∈ own) : ∀ b ∈ a, b ≠ x := by
  subst hR
  intro b hb
  obtain ⟨q, hq, rfl⟩ := List.mem_map.mp hb
  exact h q (hs q hq)
end
theorem ltOfNews {h₀ h : Heap} {L lf : Addr} {o : Obj} {rest : List (Addr × Obj)} (_ : News h₀ L h ((lf, o) :: rest)) (l : AllLt lf rest) : ∀ p ∈ rest, p.1 ≠ lf := fun p hp => Nat.ne_of_lt (tb_ltOf l p hp)
theorem wpG_callWithA {prog : Program} {w : World} {A : Around} {E : Value → Shared → Prop} {s : Shared} {env : Env} {pos : Pos} {id : String} {first : List Value} {e : Expr} {rest : List Expr} {Q : Value → Shared → Prop}
    (h : wpG (model prog w) A (spliced (backTo pos (starEach (e :: rest) env))) (fun vs s₁ => wpG (model prog w) A (call (.builtin id) (first ++ vs)) Q E s₁) E s)
    (he : starEach (e :: rest) env = (false, eval e env) :: starEach rest env := by rfl) (hplain : (backTo pos (starEach rest env)).any (·.1) = false := by rfl) :
    wpG (model prog w) A (callWith pos (.builtin id) first (backTo pos (starEach (e :: rest) env)) []) Q E s := by
  rw [he] at h ⊢
  exact wpG_callWith (P := fun _ => True) (by show (false || (backTo pos (starEach rest env)).any (·.1)) = false; rw [hplain]; rfl) (fun _ _ => ⟨.machine, .inr (.inl rfl), Looks.of_pure rfl⟩)
    (wpG_evalArgs (wpG_mono h (fun _ _ x => ⟨trivial, x⟩) fun _ _ x => x))
theorem hapOf {b l i p c d r r' r'' : Addr × Obj} {A B C C' : List (Addr × Obj)} {x : Addr} (h : ∀ q ∈ b :: l :: i :: p :: c :: d :: r :: r' :: (A ++ (B ++ C)), q.1 ≠ x) (hr : r''.1 ≠ x) (hC : C'.map (·.1) = C.map (·.1)) :
    ∀ q ∈ b :: l :: i :: p :: c :: d :: r :: r' :: r'' :: (A ++ (B ++ C')), q.1 ≠ x := by
  have hC' : ∀ q ∈ C', q.1 ≠ x := by
    intro q hq
    have h1 : q.1 ∈ C.map (·.1) := hC ▸ List.mem_map_of_mem hq
    obtain ⟨y, hy, e⟩ := List.mem_map.mp h1
    rw [← e]
    exact h y (by simp [hy])
  intro q hq
  simp only [List.mem_cons, List.mem_append] at hq h
  grind
theorem append_H {prog : Program} {w : World} {A : Around} {E : Value → Shared → Prop} {s : Shared} {h₀ : Heap} {L : Addr} {m : Str → Option Value} {D : Addr} {x y z : Value} {n : Nat} {rest : List (Addr × Obj)} {Q : Value → Shared → Prop}
    (F : Fr h₀ L s.heap m) (N : News h₀ L s.heap ((D, listOf #[x, y] n) :: rest)) (hap : ∀ p ∈ rest, p.1 ≠ D)
    (h : ∀ h', Fr h₀ L h' m → News h₀ L h' ((D, listOf #[x, y, z] (n + 1)) :: rest) → Q .none { s with heap := h' }) :
    wpAny (model prog w) A (call (.builtin "list.append") [.ref D, z]) Q E s :=
  append_head (its := #[x, y]) F N hap (fun h' F' N' => h h' F' N') (by show 2 ≤ sizeLine; rw [sizeLine_eq]; omega)
abbrev tupO (vs : List Value) : Obj := { cls := .type "tuple", data := .seq vs.toArray }
def optD : Option Int → PyData
  | none => .none
  | some n => .int n
theorem optIs.reads {h : Heap} {o : Option Int} {v : Value} (x : optIs o v) : Reads h v (optD o) [] := by
  cases o with
  | none => cases x; exact .none
  | some n => obtain ⟨t, rfl⟩ := x; exact .int _ _
theorem none_in_tuples {prog : Program} {w : World} {A : Around} {E : Value → Shared → Prop} {s : Shared} {h₀ : Heap} {L : Addr} {news : List (Addr × Obj)} {l a b c : Addr} {n : Nat} {u v x : List Value} {Q : Value → Shared → Prop}
    (N : News h₀ L s.heap news) (m : (l, listOf #[Value.ref a, Value.ref b, Value.ref c] n) ∈ news) (ma : (a, tupO u) ∈ news) (mb : (b, tupO v) ∈ news) (mc : (c, tupO x) ∈ news) (hu : A.in1.units < cLine)
    (h : Q (.bool false) s) : wpAny (model prog w) A (compareOp .In .none (.ref l)) Q E s := by
  have tup : ∀ {y : Addr} {z : List Value}, (y, tupO z) ∈ news → s.heap.IsTuple y z.toArray := fun hm => ⟨_, (N _ hm).1, rfl, _, rfl⟩
  refine SeqAt.in_listAt (items := #[Value.ref a, Value.ref b, Value.ref c]) (fun _ => false) ⟨_, (N _ m).1, rfl, _, rfl⟩ (fun y hy => ?_) (by simpa using h)
  have hy' : y = .ref a ∨ y = .ref b ∨ y = .ref c := by simpa using hy
  rcases hy' with rfl | rfl | rfl
  · exact SeqAt.EqAt.tuple_none (tup ma) hu
  · exact SeqAt.EqAt.tuple_none (tup mb) hu
  · exact SeqAt.EqAt.tuple_none (tup mc) hu
theorem eqv_optD : ∀ o : Option Int, PyData.eqv (optD o) (optD o) = true
  | none => rfl
  | some n => by simp [optD, PyData.eqv]
theorem shaped_opts (x : Int) : ∀ o2 o3 : Option Int, SeqAt.shaped (.list [.int x, optD o2, optD o3]) = true
  | none, none => rfl
  | none, some _ => rfl
  | some _, none => rfl
  | some _, some _ => rfl
theorem ne_opts {prog : Program} {w : World} {A : Around} {E : Value → Shared → Prop} {s : Shared} {h₀ : Heap} {L : Addr} {news : List (Addr × Obj)} {a b : Addr} {n k : Nat} {x : Int} {t u : Tok} {o2 o3 : Option Int} {v2 v3 w2 w3 : Value} {Q : Value → Shared → Prop}
    (N : News h₀ L s.heap news) (ma : (a, listOf #[Value.int x t, v2, v3] n) ∈ news) (mb : (b, listOf #[Value.int x u, w2, w3] k) ∈ news) (h2 : optIs o2 v2) (h3 : optIs o3 v3) (g2 : optIs o2 w2) (g3 : optIs o3 w3) (hu : A.units + 64 < cLine)
    (h : Q (.bool false) s) : wpAny (model prog w) A (compareOp .NotEq (.ref a) (.ref b)) Q E s := by
  refine ne_dataH (da := .list [.int x, optD o2, optD o3]) (db := .list [.int x, optD o2, optD o3]) (reads_list_at (N _ ma).1 rfl rfl (.cons (.int _ _) (.cons h2.reads (.cons h3.reads .nil)))) (reads_list_at (N _ mb).1 rfl rfl (.cons (.int _ _) (.cons g2.reads (.cons g3.reads .nil))))
    (shaped_opts _ _ _) (shaped_opts _ _ _) hu ?_
  simp only [PyData.eqv, PyData.eqvAll, eqv_optD, beq_self_eq_true, Bool.and_true, Bool.not_true]
  exact h
theorem frontN {h₀ h : Heap} {L : Addr} {x : Addr × Obj} {news : List (Addr × Obj)} (N : News h₀ L h news) (hm : x ∈ news) : News h₀ L h (x :: news) := kst_newsOf N fun q hq => by
  rcases List.mem_cons.mp hq with rfl | hq
  · exact hm
  · exact hq
theorem newsC {h₀ h : Heap} {L : Addr} {q r0' m f b l i p c d r1 r2 r3 : Addr × Obj} {T : List (Addr × Obj)} (N : News h₀ L h (q :: r0' :: m :: f :: b :: l :: i :: p :: c :: d :: r1 :: r2 :: r3 :: T)) : News h₀ L h (b :: l :: i :: p :: c :: d :: T) :=
  kst_newsOf N (by intro q hq; simp only [List.mem_cons] at hq ⊢; grind)
end
section
def IsBook (cl cu wl wu : Int) (o : Obj) : Prop := ∃ (t1 t2 t3 t4 t5 : Tok) (n : Nat), o = listOf [Value.int cu t1, Value.int cl t2, Value.int cu t3, Value.int wu t4, Value.int wl t5].toArray n
theorem books_R : ∀ (w : World) (loose : List Str) (mean : ExcName → Option Value) (mg mb : Str → Option Value) (dp un : Nat) (gd : Option (List Code)) (cn : Str) (cs : Scope) (a : Addr) (ccd : Value) (kl : List (Str × Addr)) (outer : List Env) (A₀ : Around) (base h₀ : Heap) (L : Addr) (m : Str → Option Value) (s : Shared) (Q E : Value → Shared → Prop)
    (p : Addr) (R news : List (Addr × Obj)) (size cl cu wl wu : Int) (ta : Option Int),
    Below A₀ base outer h₀ → Fr h₀ L s.heap m → (hd.heap_39 w.params).In h₀ →
    News h₀ L s.heap news →
    Top myView loose mean mg mb h₀ → cs.kind = .function → dp + 8 < recursionLimit → un + 80 < cLine →
    PairAt w.params size cl cu wl cu wu ta p R → (∀ q ∈ R, q ∈ news) →
    (∀ r o h' tk', IsBook cl cu wl wu o → Fr h₀ L h' m → News h₀ L h' ((r, o) :: news) → (∀ q ∈ news, q.1 ≠ r) → Q (.ref r) {s with heap := h', toks := tk'}) →
    wpAny (model PySem.Challenge.rw_tk0092_01.row.prog w) (ktrTop dp un gd cn cs L a ccd kl outer) (call (.ref 230) [.ref p]) Q E s := by
  intro w loose mean mg mb dp un gd cn cs a ccd kl outer A₀ base h₀ L m s Q E p R news size cl cu wl wu ta B F X N T hk hdp hu hp hR hret
  obtain ⟨c, cd, wi, wd, x1, x2, x3, x4, x5, x6, x7, x8, y1, y2, y3, y4, y5, y6, y7, v, rfl, o1, o2, o3, o4, hv⟩ := hp
  refine books_spec w loose mean mg mb dp un gd cn cs a ccd kl outer A₀ base h₀ L m s Q E p c cd wi wd x1 x2 x3 x4 x5 x6 x7 x8 y1 y2 y3 y4 y5 y6 y7 v size cl cu wl cu wu news B F X (kst_newsOf N fun q hq => ?_) T hk hdp hu
    (fun r t1 t2 t3 t4 t5 n h' tk' F' N' l _ _ _ _ _ => hret r _ h' tk' ⟨t1, t2, t3, t4, t5, n, rfl⟩ F' (kst_newsOf N' fun q hq => ?_) l)
  · simp only [List.mem_cons] at hq
    rcases hq with rfl | rfl | rfl | rfl | rfl | hq
    · exact hR _ (by simp)
    · exact hR _ (by simp)
    · exact hR _ (by simp)
    · exact hR _ (by simp)
    · exact hR _ (by simp)
    · exact hq
  · rcases List.mem_cons.mp hq with rfl | hq
    · exact .head _
    · exact .tail _ (.tail _ (.tail _ (.tail _ (.tail _ (.tail _ hq)))))
def BooksJ (B0 B1 B2 : Obj → Prop) (base : List (Addr × Obj)) : Nat → List Value → List (Addr × Obj) → Prop
  | 0, ys, news => ys = [] ∧ news = base
  | 1, ys, news => ∃ a0 o0, B0 o0 ∧ (∀ q ∈ base, q.1 ≠ a0) ∧ ys = [Value.ref a0] ∧ news = (a0, o0) :: base
  | 2, ys, news => ∃ a0 o0 a1 o1, B0 o0 ∧ B1 o1 ∧ (∀ q ∈ base, q.1 ≠ a0) ∧ (∀ q ∈ (a0, o0) :: base, q.1 ≠ a1) ∧ ys = [Value.ref a0, Value.ref a1] ∧ news = (a1, o1) :: (a0, o0) :: base
  | _, ys, news => ∃ a0 o0 a1 o1 a2 o2, B0 o0 ∧ B1 o1 ∧ B2 o2 ∧ (∀ q ∈ base, q.1 ≠ a0) ∧ (∀ q ∈ (a0, o0) :: base, q.1 ≠ a1) ∧ (∀ q ∈ (a1, o1) :: (a0, o0) :: base, q.1 ≠ a2) ∧ ys = [Value.ref a0, Value.ref a1, Value.ref a2] ∧ news = (a2, o2) :: (a1, o1) :: (a0, o0) :: base
theorem nextState {P : Params} {p0 p1 p2 : Addr} {S0 S1 S2 : List (Addr × Obj)} {sz s1 f W W' cl cu wl wu cl1 cu1 wl1 wu1 many : Int} {ta ta1 : Option Int} {comes : Bool} (v0 : Inv sz W cl cu wl wu) (v1 : Inv s1 W cl1 cu1 wl1 wu1) (rl : Rel cl cu wl wu cl1 cu1 wl1 wu1)
    (hz : 2 * sz ≤ s1) (hs : 1 ≤ sz) (hW : W ≤ W') (hm : 0 ≤ many)
    (h0 : PairAt P sz (if comes = true then (if 2 * (wl - (wu + min many (min W' cl - wu))) < sz then wu + min many (min W' cl - wu) + sz else wl) else cl) (min W' cl) (if 2 * (wl - (wu + min many (min W' cl - wu))) < sz then wu + min many (min W' cl - wu) + sz else wl) (min W' cl) (wu + min many (min W' cl - wu)) (if 0 < cl - min W' cl ∨ ta = some cl then ta else some cl) p0 S0)
    (h1 : PairAt P s1 (if comes = true then (if 2 * (wl1 - (wu1 + min many (min W' cl1 - wu1))) < s1 then wu1 + min many (min W' cl1 - wu1) + s1 else wl1) else cl1) (min W' cl1) (if 2 * (wl1 - (wu1 + min many (min W' cl1 - wu1))) < s1 then wu1 + min many (min W' cl1 - wu1) + s1 else wl1) (min W' cl1) (wu1 + min many (min W' cl1 - wu1)) (if 0 < cl1 - min W' cl1 ∨ ta1 = some cl1 then ta1 else some cl1) p1 S1)
    (h2 : PairAt P (f * sz) (f * (if comes = true then (if 2 * (wl - (wu + min many (min W' cl - wu))) < sz then wu + min many (min W' cl - wu) + sz else wl) else cl)) (f * min W' cl) (f * (if 2 * (wl - (wu + min many (min W' cl - wu))) < sz then wu + min many (min W' cl - wu) + sz else wl)) (f * min W' cl) (f * (wu + min many (min W' cl - wu))) ((if 0 < cl - min W' cl ∨ ta = some cl then ta else some cl).map (f * ·)) p2 S2) :
    ∃ cl' cu' wl' wu' ta' dl du el eu tb, PairAt P sz cl' cu' wl' cu' wu' ta' p0 S0 ∧ PairAt P s1 dl du el du eu tb p1 S1 ∧ PairAt P (f * sz) (f * cl') (f * cu') (f * wl') (f * cu') (f * wu') (ta'.map (f * ·)) p2 S2 ∧
      Inv sz W' cl' cu' wl' wu' ∧ Inv s1 W' dl du el eu ∧ Rel cl' cu' wl' wu' dl du el eu :=
  ⟨_, _, _, _, _, _, _, _, _, _, h0, h1, h2, v0.turn hW hm comes, v1.turn hW hm comes, rl.turn v0 v1 hz hW hm comes⟩
theorem offTurn {src x : Addr × Obj} {I C D : Addr} {o1 o2 o3 : Obj} {news : List (Addr × Obj)} (h : ∀ p ∈ src :: news, p.1 ≠ I ∧ p.1 ≠ C ∧ p.1 ≠ D) (l : ∀ q ∈ (I, o1) :: (C, o2) :: (D, o3) :: src :: news, q.1 ≠ x.1) :
    ∀ p ∈ src :: x :: news, p.1 ≠ I ∧ p.1 ≠ C ∧ p.1 ≠ D := by
  intro p hp
  simp only [List.mem_cons] at hp
  rcases hp with rfl | rfl | hp
  · exact h _ (.head _)
  · exact ⟨(l _ (.head _)).symm, (l _ (.tail _ (.head _))).symm, (l _ (.tail _ (.tail _ (.head _)))).symm⟩
  · exact h _ (.tail _ hp)
theorem newsTurn {h₀ h : Heap} {L : Addr} {x i c d src : Addr × Obj} {news : List (Addr × Obj)} (N : News h₀ L h (x :: i :: c :: d :: src :: news)) : News h₀ L h (i :: c :: d :: src :: x :: news) :=
  kst_newsOf N (by intro q hq; simp only [List.mem_cons] at hq ⊢; grind)
theorem drop4 {a b c d x : Addr × Obj} {news : List (Addr × Obj)} (l : ∀ q ∈ a :: b :: c :: d :: news, q.1 ≠ x.1) : ∀ q ∈ news, q.1 ≠ x.1 := fun q hq => l q (.tail _ (.tail _ (.tail _ (.tail _ hq))))
theorem newsP {h₀ h : Heap} {L : Addr} {b l i p c d : Addr × Obj} {T : List (Addr × Obj)} (N : News h₀ L h (b :: l :: i :: p :: c :: d :: T)) : News h₀ L h (i :: b :: l :: p :: c :: d :: T) :=
  kst_newsOf N (by intro q hq; simp only [List.mem_cons] at hq ⊢; grind)
theorem tail4 {h₀ h : Heap} {L : Addr} {a b c d : Addr × Obj} {T : List (Addr × Obj)} (N : News h₀ L h (a :: b :: c :: d :: T)) : News h₀ L h T := kst_newsOf N fun q hq => .tail _ (.tail _ (.tail _ (.tail _ hq)))
theorem neEnd {b l p c d I : Addr} {o1 o2 o3 o4 o5 : Obj} {a0 a1 a2 : List Addr} {R0 R1 R2 : List (Addr × Obj)} (g1 : @Ne Nat b I) (g2 : @Ne Nat l I) (g3 : @Ne Nat p I) (g4 : @Ne Nat c I) (g5 : @Ne Nat d I)
    (i0 : ∀ x ∈ a0, x ≠ I) (i1 : ∀ x ∈ a1, x ≠ I) (i2 : ∀ x ∈ a2, x ≠ I) (h0 : R0.map (·.1) = a0) (h1 : R1.map (·.1) = a1) (h2 : R2.map (·.1) = a2) :
    ∀ q ∈ (b, o1) :: (l, o2) :: (p, o3) :: (c, o4) :: (d, o5) :: (R0 ++ (R1 ++ R2)), q.1 ≠ I := by
  intro q hq
  simp only [List.mem_cons, List.mem_append] at hq
  rcases hq with rfl | rfl | rfl | rfl | rfl | hq | hq | hq
  · exact g1
  · exact g2
  · exact g3
  · exact g4
  · exact g5
  · exact i0 _ (mem1 h0 hq)
  · exact i1 _ (mem1 h1 hq)
  · exact i2 _ (mem1 h2 hq)
def RestsJ (b l p c d : Addr × Obj) (A B C : List (Addr × Obj)) : Nat → List Value → List (Addr × Obj) → Prop
  | 0, ys, news => ys = [] ∧ news = b :: l :: p :: c :: d :: (A ++ (B ++ C))
  | 1, ys, news => ys = [Value.bool true] ∧ news = b :: l :: p :: c :: d :: (B ++ C)
  | _, ys, news => ys = [Value.bool true, Value.bool true] ∧ news = b :: l :: p :: c :: d :: C
section
variable {h₀ h : Heap} {L : Addr} {i c d x b l p c1 c2 : Addr × Obj} {A B C : List (Addr × Obj)}
theorem permR0 (N : News h₀ L h (i :: c :: d :: x :: b :: l :: p :: c1 :: c2 :: (A ++ (B ++ C)))) : News h₀ L h (A ++ (i :: c :: d :: x :: b :: l :: p :: c1 :: c2 :: (B ++ C))) :=
  kst_newsOf N (by intro q hq; simp only [List.mem_append, List.mem_cons] at hq ⊢; grind)
theorem permR1 (N : News h₀ L h (i :: c :: d :: x :: b :: l :: p :: c1 :: c2 :: (B ++ C))) : News h₀ L h (B ++ (i :: c :: d :: x :: b :: l :: p :: c1 :: c2 :: C)) :=
  kst_newsOf N (by intro q hq; simp only [List.mem_append, List.mem_cons] at hq ⊢; grind)
end
section
variable {box lst pl c1 c2 I C D X : Addr} {a0 a1 a2 : List Addr} {R1 R2 news : List (Addr × Obj)} {o1 o2 o3 o4 o5 o6 o7 o8 o9 : Obj}
theorem offR0 (x : ∀ a ∈ [box, lst, pl, c1, c2], ∀ b ∈ a0, a ≠ b) (hi : ∀ b ∈ a0, b ≠ I ∧ b ≠ C ∧ b ≠ D) (hx : ∀ b ∈ a0, b ≠ X) {T : List (Addr × Obj)} (t : OwnOff T a0) :
    OwnOff ((I, o1) :: (C, o2) :: (D, o3) :: (X, o4) :: (box, o5) :: (lst, o6) :: (pl, o7) :: (c1, o8) :: (c2, o9) :: T) a0 :=
  offPut (offPut (offPut (offPut (offPut (offPut (offPut (offPut (offPut t (x c2 (by simp))) (x c1 (by simp))) (x pl (by simp))) (x lst (by simp))) (x box (by simp))) fun b hb => (hx b hb).symm) fun b hb => (hi b hb).2.2.symm) fun b hb => (hi b hb).2.1.symm) fun b hb => (hi b hb).1.symm
theorem hiOf {src : Addr × Obj} {R : List (Addr × Obj)} (h : ∀ p ∈ src :: news, p.1 ≠ I ∧ p.1 ≠ C ∧ p.1 ≠ D) (e : R.map (·.1) = a0) (hs : ∀ q ∈ R, q ∈ news) : ∀ b ∈ a0, b ≠ I ∧ b ≠ C ∧ b ≠ D := by
  subst e
  intro b hb
  obtain ⟨q, hq, rfl⟩ := List.mem_map.mp hb
  exact h q (.tail _ (hs q hq))
end
theorem permR2 {h₀ h : Heap} {L : Addr} {b l p c d : Addr × Obj} {C : List (Addr × Obj)} (N : News h₀ L h (b :: l :: p :: c :: d :: C)) : News h₀ L h (C ++ [b, l, p, c, d]) :=
  kst_newsOf N (by intro q hq; simp only [List.mem_append, List.mem_cons, List.not_mem_nil, or_false] at hq ⊢; grind)
theorem offR2 {box lst pl c1 c2 : Addr} {a0 : List Addr} {o5 o6 o7 o8 o9 : Obj} (x : ∀ a ∈ [box, lst, pl, c1, c2], ∀ b ∈ a0, a ≠ b) : OwnOff [(box, o5), (lst, o6), (pl, o7), (c1, o8), (c2, o9)] a0 :=
  offPut (offPut (offPut (offPut (offPut (fun _ h => nomatch h) (x c2 (by simp))) (x c1 (by simp))) (x pl (by simp))) (x lst (by simp))) (x box (by simp))
end
section

theorem off3 {l D1 D2 c1 c2 : Nat} (q2 : @LT.lt Nat _ D1 l ∧ @LT.lt Nat _ D2 l ∧ @LT.lt Nat _ c1 l ∧ @LT.lt Nat _ c2 l) (q3 : @LT.lt Nat _ D2 D1 ∧ @LT.lt Nat _ c1 D1 ∧ @LT.lt Nat _ c2 D1) (o2 o3 o4 : Obj) : OwnOff [((D2 : Addr), o2), (c1, o3), (c2, o4)] [l, D1] := by
  intro q hq b hb
  simp only [List.mem_cons, List.not_mem_nil, or_false] at hq hb
  obtain ⟨a1, a2, a3, a4⟩ := q2
  obtain ⟨b1, b2, b3⟩ := q3
  rcases hq with rfl | rfl | rfl <;> rcases hb with rfl | rfl <;> apply Nat.ne_of_lt <;> assumption
theorem offA {own R : List (Addr × Obj)} (h : OwnOff own (R.map (·.1))) {q : Addr × Obj} (hq : q ∈ own) : ∀ p ∈ R, p.1 ≠ q.1 := fun p hp => (h q hq p.1 (List.mem_map_of_mem hp)).symm
theorem mk4 {l D1 D2 c1 c2 pl : Addr} {R0 R1 : List (Addr × Obj)} {o1 o2 o3 o4 o5 o6 o7 o8 o9 o10 o11 o12 o13 : Obj} {oD oc1 oc2 opl : Obj}
    (off1 : ∀ x y z, OwnOff [(D2, x), (c2, y), (c1, z)] [l, D1]) (ne1 : D1 ≠ l) (h12 : @LT.lt Nat _ c1 c2)
    (oa : OwnOff [(l, o1), (D1, o2), (D2, o3), (c2, o4), (c1, o5)] (R0.map (·.1))) (ob : OwnOff ((l, o6) :: (D1, o7) :: (R0 ++ [(D2, o8), (c2, o9), (c1, o10)])) (R1.map (·.1)))
    (lp : @LT.lt Nat _ l pl ∧ @LT.lt Nat _ D1 pl ∧ AllLt pl (R1 ++ (R0 ++ [(D2, o11), (c2, o12), (c1, o13)]))) :
    OwnOff ((pl, opl) :: (c1, oc1) :: (c2, oc2) :: (R0 ++ R1)) [l, D1] ∧ OwnOff ((D1, oD) :: (c1, oc1) :: (c2, oc2) :: (R0 ++ R1)) [pl, l] := by
  have x1 := off1 o1 o1 o1
  obtain ⟨p1, p2, p3⟩ := lp
  have p4 := tb_ltOf p3
  have q2 : c2 ≠ l ∧ c2 ≠ D1 := ⟨x1 (c2, o1) (by simp) l (by simp), x1 (c2, o1) (by simp) D1 (by simp)⟩
  have q1 : c1 ≠ l ∧ c1 ≠ D1 := ⟨x1 (c1, o1) (by simp) l (by simp), x1 (c1, o1) (by simp) D1 (by simp)⟩
  have r0 : ∀ p ∈ R0, p.1 ≠ l ∧ p.1 ≠ D1 ∧ p.1 ≠ pl := fun p hp => ⟨offA oa (q := (l, o1)) (by simp) p hp, offA oa (q := (D1, o2)) (by simp) p hp, Nat.ne_of_lt (p4 p (by simp [hp]))⟩
  have r1 : ∀ p ∈ R1, p.1 ≠ l ∧ p.1 ≠ D1 ∧ p.1 ≠ pl := fun p hp => ⟨offA ob (q := (l, o6)) (by simp) p hp, offA ob (q := (D1, o7)) (by simp) p hp, Nat.ne_of_lt (p4 p (by simp [hp]))⟩
  have z1 : @LT.lt Nat _ c1 pl := p4 (c1, o13) (by simp)
  have z2 : @LT.lt Nat _ c2 pl := p4 (c2, o12) (by simp)
  refine ⟨fun q hq b hb => ?_, fun q hq b hb => ?_⟩
  · simp only [List.mem_cons, List.mem_append, List.not_mem_nil, or_false] at hq hb
    rcases hq with rfl | rfl | rfl | hq | hq
    · rcases hb with rfl | rfl
      · exact Nat.ne_of_gt p1
      · exact Nat.ne_of_gt p2
    · rcases hb with rfl | rfl
      · exact q1.1
      · exact q1.2
    · rcases hb with rfl | rfl
      · exact q2.1
      · exact q2.2
    · rcases hb with rfl | rfl
      · exact (r0 _ hq).1
      · exact (r0 _ hq).2.1
    · rcases hb with rfl | rfl
      · exact (r1 _ hq).1
      · exact (r1 _ hq).2.1
  · simp only [List.mem_cons, List.mem_append, List.not_mem_nil, or_false] at hq hb
    rcases hq with rfl | rfl | rfl | hq | hq
    · rcases hb with rfl | rfl
      · exact Nat.ne_of_lt p2
      · exact ne1
    · rcases hb with rfl | rfl
      · exact Nat.ne_of_lt z1
      · exact q1.1
    · rcases hb with rfl | rfl
      · exact Nat.ne_of_lt z2
      · exact q2.1
    · rcases hb with rfl | rfl
      · exact (r0 _ hq).2.2
      · exact (r0 _ hq).1
    · rcases hb with rfl | rfl
      · exact (r1 _ hq).2.2
      · exact (r1 _ hq).1
theorem newsS4 {h₀ h : Heap} {L : Addr} {l D1 D2 c1 c2 pl : Addr × Obj} {R0 R1 : List (Addr × Obj)} (N : News h₀ L h (pl :: l :: D1 :: (R1 ++ (R0 ++ [D2, c2, c1])))) : News h₀ L h (l :: D1 :: pl :: c1 :: c2 :: (R0 ++ R1)) :=
  kst_newsOf N (by intro q hq; simp only [List.mem_append, List.mem_cons, List.not_mem_nil, or_false] at hq ⊢; grind)
theorem newsS6 {h₀ h : Heap} {L : Addr} {l D1 c1 c2 pl : Addr × Obj} {R0 R1 R2 : List (Addr × Obj)} (N : News h₀ L h (pl :: l :: (R2 ++ D1 :: c1 :: c2 :: (R0 ++ R1)))) : News h₀ L h (l :: D1 :: pl :: c1 :: c2 :: (R0 ++ (R1 ++ R2))) :=
  kst_newsOf N (by intro q hq; simp only [List.mem_append, List.mem_cons] at hq ⊢; grind)
theorem two5 {a b c d e : Addr} : ∀ x ∈ [a, b], x ∈ [a, b, c, d, e] := by intro x hx; simp only [List.mem_cons, List.not_mem_nil, or_false] at hx ⊢; grind
theorem apA {box lst pl c1 c2 : Addr} {a0 a1 a2 : List Addr} (x : Apart box lst pl c1 c2 a0 a1 a2) {o : Obj} : ∀ b ∈ [box, lst], (c2, o).1 ≠ b := by
  intro b hb; simp only [List.mem_cons, List.not_mem_nil, or_false] at hb; rcases hb with rfl | rfl
  · exact Ne.symm x.n4
  · exact Ne.symm x.n7
theorem apB {box lst pl c1 c2 : Addr} {a0 a1 a2 : List Addr} (x : Apart box lst pl c1 c2 a0 a1 a2) {o : Obj} : ∀ b ∈ [box, lst], (c1, o).1 ≠ b := by
  intro b hb; simp only [List.mem_cons, List.not_mem_nil, or_false] at hb; rcases hb with rfl | rfl
  · exact Ne.symm x.n3
  · exact Ne.symm x.n6
theorem apC {box lst pl c1 c2 : Addr} {a0 a1 a2 : List Addr} (x : Apart box lst pl c1 c2 a0 a1 a2) {o : Obj} : ∀ b ∈ [box, lst], (pl, o).1 ≠ b := by
  intro b hb; simp only [List.mem_cons, List.not_mem_nil, or_false] at hb; rcases hb with rfl | rfl
  · exact Ne.symm x.n2
  · exact Ne.symm x.n5
theorem apOff {box lst pl c1 c2 : Addr} {a0 a1 a2 : List Addr} {R0 R1 R2 : List (Addr × Obj)} (x : Apart box lst pl c1 c2 a0 a1 a2) (h0 : R0.map (·.1) = a0) (h1 : R1.map (·.1) = a1) (h2 : R2.map (·.1) = a2) (o o' o'' : Obj) :
    OwnOff ((pl, o) :: (c1, o') :: (c2, o'') :: (R0 ++ (R1 ++ R2))) [box, lst] := offPut (offPut (offPut (offSub (x.tail h0 h1 h2) two5) (apA x)) (apB x)) (apC x)
theorem startJ {h₀ h : Heap} {L : Addr} {P : Params} {box lst pl c1 c2 p0 p1 p2 : Addr} {sz s1 f k : Int} {vs : List Value} {nb nl np : Nat} {tk tw : Tok} {R0 R1 R2 : List (Addr × Obj)} {oc1 oc2 : Obj} {x2 : Option Value}
    (P0 : PairAt P sz sz 0 sz 0 0 none p0 R0) (P1 : PairAt P s1 s1 0 s1 0 0 none p1 R1) (P2 : PairAt P (f * sz) (f * sz) 0 (f * sz) 0 0 none p2 R2) (hs : 1 ≤ sz) (hs1 : 2 * sz ≤ s1)
    {opl : Obj} (N : News h₀ L h ((box, listOf [Value.ref lst, Value.int k tk].toArray nb) :: (lst, listOf vs.toArray nl) :: (pl, opl) :: (c1, oc1) :: (c2, oc2) :: (R0 ++ (R1 ++ R2))))
    (h1 : oc1.data = .cell (some (.int 0 tw))) (h2 : oc2.data = .cell x2) (hpl : opl = listOf [Value.ref p0, Value.ref p1, Value.ref p2].toArray np) (k0 : 0 ≤ k) (k1 : k ≤ 10) :
    LoopJ P box lst pl c1 c2 p0 p1 p2 sz s1 f (R0.map (·.1)) (R1.map (·.1)) (R2.map (·.1)) vs nb nl np 0
      ((box, listOf [Value.ref lst, Value.int k tk].toArray nb) :: (lst, listOf vs.toArray nl) :: (pl, opl) :: (c1, oc1) :: (c2, oc2) :: (R0 ++ (R1 ++ R2))) :=
  .mk k 0 sz 0 sz 0 s1 0 s1 0 none none tk tw oc1 oc2 x2 R0 R1 R2
    { led := by rw [hpl], hc1 := h1, hc2 := h2, k0 := k0, k1 := by omega, w0 := Int.le_refl _, w1 := by omega, q0 := P0, q1 := P1, q2 := by rw [Int.mul_zero]; exact P2, r0 := rfl, r1 := rfl, r2 := rfl,
      v0 := ⟨by omega, by omega, by omega, by omega, by omega, by omega, by omega⟩, v1 := ⟨by omega, by omega, by omega, by omega, by omega, by omega, by omega⟩, rl := ⟨by omega, by omega, by omega, by omega⟩ }
theorem forG_law {prog : Program} {w : World} {A : Around} {E : Value → Shared → Prop} {s : Shared} {h₀ : Heap} {env : Env} {body : List Stmt} {x : Str} {px : Pos} {r : Addr} {b : Int} {t u v : Tok} {n : Nat} {m₀ : Str → Option Value} {news₀ : List (Addr × Obj)} {Q : Flow → Shared → Prop}
    {P : Params} {box lst pl c1 c2 p0 p1 p2 : Addr} {sz s1 f : Int} {a0 a1 a2 : List Addr} {vs : List Value} {nb nl np : Nat}
    (hh : A.handled = none) (hr : IsRange s.heap r 0 b 1 t u v) (hsmall : Builtin.Range.small 0 b 1 = true) (hn : Builtin.Range.rangeSize 0 b 1 = (n : Int))
    (hx : env.kindOf x = some .local) (hp : (env.scope.kind == .class || (env.scope.kind == .module && env.locals != env.globals)) = false)
    (F : Fr h₀ env.locals s.heap m₀) (N : News h₀ env.locals s.heap news₀) (h0 : LoopJ P box lst pl c1 c2 p0 p1 p2 sz s1 f a0 a1 a2 vs nb nl np 0 news₀)
    (turn : ∀ (i : Nat) t (ws : Str → Option Value) news₁ h tk (I : Addr) (it : Obj), i < n → LoopJ P box lst pl c1 c2 p0 p1 p2 sz s1 f a0 a1 a2 vs nb nl np i news₁ → (∀ p ∈ news₁, p.1 ≠ I) →
      Fr h₀ env.locals h (fun y => if y = x then some (.int (i : Int) t) else if [Str.ofString "turn", Str.ofString "many", Str.ofString "comes", Str.ofString "found"].contains y = true then ws y else m₀ y) → News h₀ env.locals h ((I, it) :: news₁) →
      wpG (model prog w) A (execs body env) (TurnEnd h₀ env.locals (I, it) (fun m' news' => (∀ y, [Str.ofString "turn", Str.ofString "many", Str.ofString "comes", Str.ofString "found"].contains y = false → m' y = m₀ y) ∧ LoopJ P box lst pl c1 c2 p0 p1 p2 sz s1 f a0 a1 a2 vs nb nl np (i + 1) news') { s with heap := h, toks := tk } Q) (fun _ _ => False) { s with heap := h, toks := tk })
    (done : ∀ (ws : Str → Option Value) news₁ h tk, LoopJ P box lst pl c1 c2 p0 p1 p2 sz s1 f a0 a1 a2 vs nb nl np n news₁ → Fr h₀ env.locals h (fun y => if [Str.ofString "turn", Str.ofString "many", Str.ofString "comes", Str.ofString "found"].contains y = true then ws y else m₀ y) → News h₀ env.locals h news₁ → Q .next { s with heap := h, toks := tk }) :
    wpAny (model prog w) A (pyIter (.ref r)) (fun it s₂ => codeG (model prog w) A (.forLoop (.Name x px) it body [] env) (fun r s' => match r with | .ok f => Q f s' | .error _ => False) s₂) E s :=
  forG_rangeO [Str.ofString "turn", Str.ofString "many", Str.ofString "comes", Str.ofString "found"] (LoopJ P box lst pl c1 c2 p0 p1 p2 sz s1 f a0 a1 a2 vs nb nl np) hh hr hsmall hn hx hp F N h0 turn done
theorem newsS5 {h₀ h : Heap} {L : Addr} {l D1 pl : Addr × Obj} {own : List (Addr × Obj)} (N : News h₀ L h (l :: D1 :: pl :: own)) : News h₀ L h (pl :: l :: D1 :: own) :=
  kst_newsOf N (by intro q hq; simp only [List.mem_cons] at hq ⊢; grind)
set_option maxRecDepth 100000 in
set_option maxHeartbeats 16000000 in
theorem law_holds : PySem.Challenge.rw_tk0092_01.Holds := by
  k_with_none
  k_with "call ref" => (k_here; first | (k_dflt (refine' take_spec _ _ _ _ _ _ _ _ _ _ _ _ _ _ _ _ _ _ _ _ _ _ _ _ _ _ _ _ _ _ _ _ _ (by k_asm) (by k_asm) (by k_asm) (by k_asm) (by k_asm) rfl (by assumption) (by omega) (by omega) (by omega) (by decide) (by decide) (by ktr_room) (by ktr_units) (by assumption) (by first | assumption | exact off4 _ _ _ | exact off7 _ _ _ | exact off3 (by assumption) (by assumption) _ _ _) ?_); intro v9 t9 u9 h9 tk9 l9 m9 F9 N9; (try dsimp only)) | (k_dflt (refine' pair_E _ _ _ _ _ _ _ _ _ _ _ _ _ _ _ _ _ _ _ _ _ _ _ _ _ _ _ (by k_asm) (by k_asm) (by k_asm) (by k_asm) (by k_asm) rfl (by ktr_room) (by ktr_units) (by first | assumption | exact off5 _ _ _) ?_); intro p9 R9 h9 tk9 P9 o9 w9 F9 N9; (try dsimp only at o9 w9); (try dsimp only)))
  w_on
  refine hd ?_
  k_fill
  intro w s₀ s₁ mg mb G Y fa o pm cd doc dV kV ho hdd hcd hD hmg hg args vals as hpre hlay hrd hwl hlo
  have KX := kIn_of Y
  have X := (Ground.X G).1
  have V := (Ground.X G).2
  refine Ground.open G ?_
  intro T B D TE TW
  try (refine guard_noD D (by decide +kernel) ?_; clear D)
  have TA := at_of_top T
  clear hmg
  wrow_args hpre hlay hrd hwl hlo
  refine wpG_call ?_
  have K0 := below_caller (Top.heap T)
  have he := Dflts.none hD rfl
  subst he
  have he := Dflts.noKw hD
  subst he
  refine call_cellsG (by decide) ho (fd_plain hdd) (Top.nolimit T) hcd rfl (kinds_of (by kinds_ok)) (by decide) fun h₁ tk₁ cells F N0 X0 => ?_
  cells_open X0
  clear hdd TA
  k_drop
  refine wpG_execs_cons (wpG_of ?_)
  k_fold
  k_steps
  rename News _ _ _ _ => N1
  have N2 := newsTail N1
  rename (_ < _ ∧ _ < _ ∧ _ < _ ∧ _ < _ ∧ _ < _) => q1
  rename (_ < _ ∧ _ < _ ∧ _ < _ ∧ _ < _) => q2
  rename (_ < _ ∧ _ < _ ∧ _ < _) => q3
  have off1 := off3 q2 q3
  have ne1 := Nat.ne_of_lt q2.1
  refine wpG_execs_cons (wpG_of ?_)
  k_fold
  k_steps
  obtain ⟨vA, hvA⟩ : ∃ x, x = v9 := ⟨_, rfl⟩
  subst hvA
  refine wpG_execs_cons (wpG_Assign_Name (wpG_List (wpG_args_cons (wpG_Call (wpG_of ?_)))))
  k_fold
  k_steps
  refine wpG_callWithK (K := Mine.hd.heap_39 w.params) (by k_is) (wpG_of ?_)
  k_fold
  k_steps
  refine wpG_of ?_
  refine' pair_E _ _ _ _ _ _ _ _ _ _ _ _ _ _ _ _ _ _ _ _ _ _ _ _ _ _ _ (by k_asm) (by k_asm) (by k_asm) (by k_asm) (by k_asm) rfl (by ktr_room) (by ktr_units) (off3 q2 q3 _ _ _) ?_
  intro p0 R0 ha tka P0 oa wa Fa Na
  dsimp only at wa oa
  refine wpG_args_cons (wpG_Call (wpG_of ?_))
  k_fold
  k_steps
  refine wpG_callWithK (K := Mine.hd.heap_39 w.params) (by k_is) (wpG_of ?_)
  k_fold
  k_steps
  refine wpG_of ?_
  refine' pair_E _ _ _ _ _ _ _ _ _ _ _ _ _ _ _ _ _ _ _ _ _ _ _ _ _ _ _ (by k_asm) (by k_asm) (by k_asm) (by k_asm) (by k_asm) rfl (by ktr_room) (by ktr_units) wa ?_
  obtain ⟨vB, hvB⟩ : ∃ x, x = v9 := ⟨_, rfl⟩
  subst hvB
  intro p1 R1 hb tkb P1 ob wb Fb Nb
  dsimp only at wb ob
  refine wpG_args_nil ?_
  k_steps
  rename News _ _ _ _ => N3
  rename (_ ∧ _ ∧ AllLt _ _) => l3
  have c12 : @LT.lt Nat _ (s₁.heap.objs.size + 1) (s₁.heap.objs.size + 1 + 1) := Nat.lt_succ_self _
  have offs := fun o1 o2 o3 o4 => mk4 (opl := o1) (oc1 := o2) (oc2 := o3) (oD := o4) off1 ne1 c12 oa ob l3
  have off4 := fun o1 o2 o3 => (offs o1 o2 o3 o1).1
  have off5 := fun o1 o2 o3 => (offs o1 o2 o3 o1).2
  have N4 := newsS4 N3
  clear N3
  refine wpG_execs_cons (wpG_of ?_)
  k_fold
  k_steps
  rename News _ _ _ _ => N5
  have N6 := newsS5 N5
  obtain ⟨vC, hvC⟩ : ∃ x, x = v9 := ⟨_, rfl⟩
  subst hvC
  clear N5
  refine wpG_execs_cons (wpG_of ?_)
  k_fold
  k_steps
  rename News _ _ _ _ => N7
  have N8 := newsS6 N7
  clear N7
  have o9 := (by assumption : OwnOff (_ :: _ :: _ :: _ :: _ :: (R0 ++ R1)) (List.map _ _))
  have ap := mkApart off1 ne1 c12 oa ob l3 o9
  have off7 := apOff ap rfl rfl rfl
  clear off4 off5 offs
  refine wpG_execs_cons (wpG_For ?_ rfl)
  k_fold
  k_steps
  rename IsRange _ _ _ _ _ _ _ _ => hrg
  rename Fr _ _ _ _ => Fx
  rename News _ _ _ _ => Nx
  obtain ⟨vD, hvD⟩ : ∃ x, x = v9 := ⟨_, rfl⟩
  subst hvD
  have P2 := (by assumption : PairAt w.params ((2 + vC) * (3 + vA)) _ _ _ _ _ _ _ _)
  have hB : 0 ≤ vB ∧ vB < 4 := ⟨by assumption, by assumption⟩
  have hA : 0 ≤ vA ∧ vA < 7 := ⟨by assumption, by assumption⟩
  have hC : 0 ≤ vC ∧ vC < 3 := ⟨by assumption, by assumption⟩
  have hD : 0 ≤ vD ∧ vD < 4 := ⟨by assumption, by assumption⟩
  have dW := (by assumption : _ = Data.cell (some (Value.int 0 _)))
  have J0 := startJ P0 P1 P2 (by omega) (by omega) Nx dW (by assumption) rfl (by omega) (by omega)
  refine forG_law (n := (4 + vD - 0).toNat) (by rfl) hrg (small_one (by omega) (by omega) (by omega) (by omega)) (rangeSize_nat _ _) (by rfl) (by rfl) Fx Nx J0 ?turn ?done
  case turn =>
    intro i t ws news₁ h tk I it hiN hJN hneN FN NN
    k_with_none
    k_with "call ref" => (k_here; first | (k_dflt (refine' take_spec _ _ _ _ _ _ _ _ _ _ _ _ _ _ _ _ _ _ _ _ _ _ _ _ _ _ _ _ _ _ _ _ _ (by k_asm) (by k_asm) (by k_asm) (by k_asm) (by k_asm) rfl (by assumption) (by omega) (by omega) (by omega) (by decide) (by decide) (by ktr_room) (by ktr_units) (by first | assumption | exact Ne.symm ap.n1) (by exact offs _ _ _ _) ?_); intro v9 t9 u9 h9 tk9 l9 m9 F9 N9; (try dsimp only)) | (k_dflt (refine' times3_spec _ _ _ _ _ _ _ _ _ _ _ _ _ _ _ _ _ _ _ _ _ _ _ _ _ _ _ _ _ _ _ _ (by k_asm) (by k_asm) (by k_asm) (frontN (by k_asm) (by k_mem)) (by k_asm) rfl (by ktr_room) (by ktr_units) (by omega) (by omega) (by assumption) (by assumption) ?_); intro q9 u9 w9 x9 h9 tk9 y9 z9 F9 N9 n9 m9; (try dsimp only)))
    k_with "compareOp NotEq ref ref" => (k_here; rename News _ _ _ _ => Nz; k_dflt (refine ne_opts Nz (by k_mem) (by k_mem) ob2 ot2 (by assumption) (by assumption) (by ktr_units) ?_))
    have hJ := (by assumption : LoopJ _ _ _ _ _ _ _ _ _ _ _ _ _ _ _ _ _ _ _ _ _)
    obtain ⟨k, W, cl, cu, wl, wu, cl1, cu1, wl1, wu1, ta, ta1, tk0, tw, oc1, oc2, x2, S0, S1, S2, hj⟩ := hJ
    have led := hj.led
    subst led
    have hi := (by assumption : i < (4 + vD - 0).toNat)
    have hne := (by assumption : ∀ p ∈ (_ :: _ :: _ :: _ :: _ :: (S0 ++ (S1 ++ S2))), p.1 ≠ I)
    have N0 := newsT (by assumption : News _ _ h ((I, it) :: _))
    have offs := offT ap hj.r0 hj.r1 hj.r2 (hne _ (.head _)) (hne _ (.tail _ (.head _)))
    have k0 := hj.k0
    have k1 := hj.k1
    have w0 := hj.w0
    have w1 := hj.w1
    have hc1 := hj.hc1
    have hc2 := hj.hc2
    have e1 := ap.n1
    have e2 := ap.n2
    have e3 := ap.n3
    have e4 := ap.n4
    have e5 := ap.n5
    have e6 := ap.n6
    have e7 := ap.n7
    have e8 := ap.n8
    have e9 := ap.n9
    have e10 := ap.n10
    have g1 : @Ne Nat _ _ := hne _ (.head _)
    have g2 : @Ne Nat _ _ := hne _ (.tail _ (.head _))
    have g3 : @Ne Nat _ _ := hne _ (.tail _ (.tail _ (.head _)))
    have g4 : @Ne Nat _ _ := hne _ (.tail _ (.tail _ (.tail _ (.head _))))
    have g5 : @Ne Nat _ _ := hne _ (.tail _ (.tail _ (.tail _ (.tail _ (.head _)))))
    dsimp only at g1 g2 g3 g4 g5
    have hMark := kstMark
    have tl := ap.tail hj.r0 hj.r1 hj.r2
    refine wpG_execs_cons (wpG_of ?_)
    k_fold
    k_steps
    obtain ⟨vW, hvW⟩ : ∃ x, x = v9 := ⟨_, rfl⟩
    subst hvW
    refine wpG_execs_cons (wpG_of ?_)
    k_fold
    k_steps
    rename News _ _ _ _ => Nq
    have N2 := newsTail Nq
    clear Nq
    have sz1 := hj.v0
    have iI0 := neMap (a := List.map (fun x => x.fst) R0) hne hj.r0 (fun q hq => by simp [hq])
    have iI1 := neMap (a := List.map (fun x => x.fst) R1) hne hj.r1 (fun q hq => by simp [hq])
    have iI2 := neMap (a := List.map (fun x => x.fst) R9) hne hj.r2 (fun q hq => by simp [hq])
    refine wpG_execs_cons (wpG_Assign_Name (wpG_List (wpG_args_cons (wpG_Call (wpG_of ?_)))))
    k_fold
    k_steps
    refine wpG_callWithK (K := Mine.hd.heap_39 w.params) (by k_is) (wpG_of ?_)
    k_fold
    k_steps
    rename News _ _ _ _ => Nq
    have N3 := perm1 Nq
    refine' turn_R _ _ _ _ _ _ _ _ _ _ _ _ _ _ _ _ _ _ _ _ _ p0 S0 _ (3 + vA) cl cu wl cu wu (W + vW) _ ta _ _ _ (by k_asm) (by k_asm) (by k_asm) N3 (by k_asm) rfl (by ktr_room) (by ktr_units) hj.q0 (by rw [hj.r0]; exact ap.off0 hj.r1 hj.r2 iI0) (by omega) rfl hj.v0.a0 hj.v0.a1 hj.v0.a2 hj.v0.a3 hj.v0.a4 hj.v0.a5 ?b1 ?b2 ?b3 ?b4 ?_
    case b1 => have := hj.v0.small; omega
    case b2 => have := hj.v0.a6; omega
    case b3 => omega
    case b4 => assumption
    clear Nq N3 N2
    intro r0 S0' t0 b0 v0 hA tkA hq0 hm0 ob0 ot0 FA NA hr0
    have N3 := perm1' NA
    clear NA
    refine wpG_args_cons (wpG_Call (wpG_of ?_))
    k_fold
    k_steps
    refine wpG_callWithK (K := Mine.hd.heap_39 w.params) (by k_is) (wpG_of ?_)
    k_fold
    k_steps
    rename News _ _ _ _ => Nq
    have N4 := perm2 Nq
    refine' turn_R _ _ _ _ _ _ _ _ _ _ _ _ _ _ _ _ _ _ _ _ _ p1 S1 _ (2 * (3 + vA) + vB) cl1 cu1 wl1 cu1 wu1 (W + vW) _ ta1 _ _ _ (by k_asm) (by k_asm) (by k_asm) N4 (by k_asm) rfl (by ktr_room) (by ktr_units) hj.q1 (by rw [hj.r1]; exact ap.off1 (hm0.trans hj.r0) hj.r2 iI1 (neMap hr0 hj.r1 (fun q hq => by simp [hq]))) (by omega) rfl hj.v1.a0 hj.v1.a1 hj.v1.a2 hj.v1.a3 hj.v1.a4 hj.v1.a5 ?d1 ?d2 ?d3 ?d4 ?_
    case d1 => have := hj.v1.small; omega
    case d2 => have := hj.v1.a6; omega
    case d3 => omega
    case d4 => assumption
    clear Nq N4
    intro r1 S1' t1 b1 v1 hB' tkB hq1 hm1 ob1 ot1 FB NB hr1
    have N4 := perm2' NB
    clear NB
    refine wpG_args_nil ?_
    k_steps
    rename News _ _ _ _ => Nq
    have hlf := ltOfNews Nq (by assumption)
    refine wpG_execs_cons (wpG_Expr (wpG_CallAttr ?_))
    k_fold
    k_steps
    dsimp only
    refine wpG_callWithA (wpG_args_cons (wpG_Call (wpG_of ?_)))
    k_fold
    k_steps
    refine wpG_callWithK (K := Mine.hd.heap_39 w.params) (by k_is) (wpG_of ?_)
    k_fold
    k_steps
    rename News _ _ _ _ => Nq
    have N5 := perm3 Nq
    have hf : 2 + vC = 2 ∨ 2 + vC = 3 ∨ 2 + vC = 4 := by omega
    have sc := hj.v0.scale hf
    have s1' := mul_small (a := W + vW) (b := 42) hf (by omega) (by omega)
    have s2' := mul_small (a := 3 + vA) (b := 9) hf (by omega) (by omega)
    have s3' := mul_small (a := W) (b := 42) hf (by omega) (by omega)
    refine' turn_R _ _ _ _ _ _ _ _ _ _ _ _ _ _ _ _ _ _ _ _ _ p9 S2 _ ((2 + vC) * (3 + vA)) ((2 + vC) * cl) ((2 + vC) * cu) ((2 + vC) * wl) ((2 + vC) * cu) ((2 + vC) * wu) ((2 + vC) * (W + vW)) _ (ta.map ((2 + vC) * ·)) _ _ _ (by k_asm) (by k_asm) (by k_asm) N5 (by k_asm) rfl (by ktr_room) (by ktr_units) hj.q2 (by rw [hj.r2]; exact ap.off2 (hm0.trans hj.r0) (hm1.trans hj.r1) iI2 (neMap hr0 hj.r2 (fun q hq => by simp [hq])) (neMap hr1 hj.r2 (fun q hq => by simp [hq])) (neMap hlf hj.r2 (fun q hq => by simp [hq]))) ?f0 rfl sc.a0 sc.a1 sc.a2 sc.a3 sc.a4 sc.a5 ?f1 ?f2 ?f3 ?f4 ?_
    case f0 => rcases hf with e | e | e <;> rw [e] <;> omega
    case f1 => have := sc.small; omega
    case f2 => exact mul_le hf (by have := hj.v0.a6; omega)
    case f3 => omega
    case f4 => exact (mul_small hf (by assumption) (Int.le_refl _)).1
    clear Nq N5
    intro r2 S2' t2 b2 v2 hC' tkC hq2 hm2 ob2 ot2 FC NC hr2
    rw [scale_step hf] at NC
    rw [scale_block hf] at ob2
    rw [scale_told hf] at ot2
    replace hq2 := pair_scale hf hq2
    have N6 := perm3' NC
    clear NC
    refine wpG_args_nil ?_
    k_steps
    refine wpG_of (append_H (by k_asm) N6 (hapOf hlf (Ne.symm (hr2 _ (List.mem_append_right _ (.head _)))) hm2) ?_)
    clear N6
    intro hD FD ND
    dsimp only
    refine wpG_execs_cons (wpG_If (wpG_of ?_))
    k_fold
    k_steps
    rename News _ _ _ _ => Nq
    refine none_in_tuples Nq (by k_mem) (by k_mem) (by k_mem) (by k_mem) (by ktr_units) ?_
    k_steps
    rename News _ _ _ _ => Nq
    have NB := newsC Nq
    clear Nq
    have hcw := (by assumption : _ = Data.cell (some (Value.int (W + vW) _)))
    refine wpG_execs_nil ?_
    k_with_none
    k_with "call ref" => (k_here; first | (k_dflt (refine' books_R _ _ _ _ _ _ _ _ _ _ _ _ _ _ _ _ _ _ _ _ _ _ _ _ _ _ _ _ _ _ _ (by k_asm) (by k_asm) (by k_asm) (by k_asm) (by k_asm) rfl (by ktr_room) (by ktr_units) (by first | exact p0' | exact p1' | exact p2') (by intro q hq; simp [hq]) ?_); intro r8 o8 h8 tk8 b8 F8 N8 l8; (try dsimp only)) | (k_dflt (refine' times5_spec _ _ _ _ _ _ _ _ _ _ _ _ _ _ _ _ _ _ _ _ _ _ _ _ _ _ _ _ _ _ _ _ _ _ _ _ _ (by k_asm) (by k_asm) (by k_asm) (frontN (by k_asm) (by k_mem)) (by k_asm) rfl (by ktr_room) (by ktr_units) (by omega) (by omega) ?_); intro q9 u1 u2 u3 u4 u5 n9 h9 tk9 F9 N9 l9 m9; (try dsimp only)))
    k_with "eval ListComp" => (k_here; k_dflt (refine ListComp_none (by k_asm) (by rfl) (by decide) (by rfl) (by decide) (by rfl) ?_))
    obtain ⟨cl', cu', wl', wu', ta', dl, du, el, eu, tb, p0', p1', p2', V0, V1, RL⟩ := nextState hj.v0 hj.v1 hj.rl (by omega) (by omega) (by omega) (by assumption) hq0 hq1 hq2
    clear hq0 hq1 hq2
    refine wpG_execs_cons (wpG_Assign_Name (wpG_ListComp (by k_asm) (by rfl) (by rfl) (by decide) (by rfl) (by decide) (by rfl) ?_))
    k_fold
    k_steps
    refine ⟨_, [Value.ref p0, Value.ref p1, Value.ref p9], _, _, BooksJ (IsBook cl' cu' wl' wu') (IsBook dl du el eu) (IsBook ((2 + vC) * cl') ((2 + vC) * cu') ((2 + vC) * wl') ((2 + vC) * wu')) _, rfl, by k_asm, frontN NB (by k_mem), by simp, ⟨rfl, rfl⟩, ?bturn, ?bdone⟩
    case bturn =>
      intro i8 v8 ys8 news8 Ia oI C oC D m8 h8 tk8 hv hJ hNs hm8 hF8 hN8 hoff8 hne8
      rcases i8 with _ | _ | _ | i8
      · obtain ⟨rfl, rfl⟩ := hJ
        obtain rfl : Value.ref p0 = v8 := by simpa using hv
        refine wpG_of ?_
        k_fold
        k_steps
        exact TurnC.mk (by k_asm) (newsTurn N8) (offTurn hoff8 l8) ⟨r8, o8, b8, drop4 (x := (r8, o8)) l8, rfl, rfl⟩
      · obtain ⟨a0, o0, b0, f0, rfl, rfl⟩ := hJ
        obtain rfl : Value.ref p1 = v8 := by simpa using hv
        refine wpG_of ?_
        k_fold
        k_steps
        exact TurnC.mk (by k_asm) (newsTurn N8) (offTurn hoff8 l8) ⟨a0, o0, r8, o8, b0, b8, f0, drop4 (x := (r8, o8)) l8, rfl, rfl⟩
      · obtain ⟨a0, o0, a1, o1, b0, b1, f0, f1, rfl, rfl⟩ := hJ
        obtain rfl : Value.ref p9 = v8 := by simpa using hv
        refine wpG_of ?_
        k_fold
        k_steps
        exact TurnC.mk (by k_asm) (newsTurn N8) (offTurn hoff8 l8) ⟨a0, o0, a1, o1, r8, o8, b0, b1, b8, f0, f1, drop4 (x := (r8, o8)) l8, rfl, rfl⟩
      · simp at hv
    case bdone =>
      intro ys8 news8 D8 h8 tk8 hJ F8 N8 l8
      obtain ⟨a0, o0, a1, o1, a2, o2, ⟨_, _, _, _, _, _, rfl⟩, ⟨_, _, _, _, _, _, rfl⟩, ⟨_, _, _, _, _, _, rfl⟩, f0, f1, f2, rfl, rfl⟩ := hJ
      have i0 : @Ne Nat _ a0 := f0 (s₁.heap.objs.size + 1 + 1, _) (.tail _ (.tail _ (.tail _ (.tail _ (.tail _ (.head _))))))
      have i1 : @Ne Nat _ a1 := f1 (s₁.heap.objs.size + 1 + 1, _) (.tail _ (.tail _ (.tail _ (.tail _ (.tail _ (.tail _ (.head _)))))))
      have i2 : @Ne Nat _ a2 := f2 (s₁.heap.objs.size + 1 + 1, _) (.tail _ (.tail _ (.tail _ (.tail _ (.tail _ (.tail _ (.tail _ (.head _))))))))
      have i3 : @Ne Nat _ D8 := l8 (s₁.heap.objs.size + 1 + 1, _) (.tail _ (.tail _ (.tail _ (.tail _ (.tail _ (.tail _ (.tail _ (.tail _ (.head _)))))))))
      dsimp only at i0 i1 i2 i3
      have tl2 := ap.tail (hm0.trans hj.r0) (hm1.trans hj.r1) (hm2.trans hj.r2)
      dsimp only
      show wpAny _ _ _ _ _ _
      (try k_fold)
      k_steps
      rename News _ _ _ _ => Nb
      refine wpG_execs_cons (wpG_If (wpG_of ?_))
      k_fold
      k_steps
      rename IsRange _ _ _ _ _ _ _ _ => hrg
      rename News _ _ _ _ => Nc
      refine ⟨_, _, _, _, _, 5, _, rfl, by rfl, by k_asm, Nc, hrg, small_one (by omega) (by omega) (by omega) (by omega), by decide, ?tst, ?res⟩
      case tst =>
        intro i7 t7 Ia oI C oC D m7 h7 tk7 E7 hi7 hNs hm7 hF7 hN7 hoff7 hne7
        have v00 := V0.a0
        have v01 := V0.a1
        have v02 := V0.a2
        have v03 := V0.a3
        have rl0 := RL.b0
        have rl1 := RL.b1
        have rl2 := RL.b2
        have rl3 := RL.b3
        rcases i7 with _ | _ | _ | _ | _ | i7
        · replace hm7 : m7 _ = some (Value.int 0 t7) := hm7
          show wpAny _ _ _ _ _ _
          (try k_fold)
          k_steps
          exact TestN.mk (by first | exact decide_eq_false (by omega) | (simp; omega)) (by k_asm) (by k_asm)
        · replace hm7 : m7 _ = some (Value.int 1 t7) := hm7
          show wpAny _ _ _ _ _ _
          (try k_fold)
          k_steps
          exact TestN.mk (by first | exact decide_eq_false (by omega) | (simp; omega)) (by k_asm) (by k_asm)
        · replace hm7 : m7 _ = some (Value.int 2 t7) := hm7
          show wpAny _ _ _ _ _ _
          (try k_fold)
          k_steps
          exact TestN.mk (by first | exact decide_eq_false (by omega) | (simp; omega)) (by k_asm) (by k_asm)
        · replace hm7 : m7 _ = some (Value.int 3 t7) := hm7
          show wpAny _ _ _ _ _ _
          (try k_fold)
          k_steps
          exact TestN.mk (by first | exact decide_eq_false (by omega) | (simp; omega)) (by k_asm) (by k_asm)
        · replace hm7 : m7 _ = some (Value.int 4 t7) := hm7
          show wpAny _ _ _ _ _ _
          (try k_fold)
          k_steps
          exact TestN.mk (by first | exact decide_eq_false (by omega) | (simp; omega)) (by k_asm) (by k_asm)
        · omega
      case res =>
        intro D7 h7 tk7 F7 N7 l7
        show wpAny _ _ _ _ _ _
        (try k_fold)
        k_steps
        refine wpG_execs_nil ?_
        refine wpG_execs_nil ?_
        rename Fr _ _ _ _ => Fz
        rename News _ _ _ _ => Nz
        have Ny := newsP (by first | exact newsTail (newsTail (newsTail (tail4 Nz))) | exact newsTail (newsTail (tail4 (tail4 Nz))) | exact newsTail (newsTail (tail4 Nz)) | exact newsTail (tail4 (tail4 Nz)) | exact tail4 (tail4 Nz) : News _ _ _ ((_, _) :: (_, _) :: (I, it) :: (_, _) :: (_, _) :: (_, _) :: (S0' ++ (S1' ++ S2'))))
        refine ⟨_, _, _, _, rfl, Fz, Ny, neEnd g1 g2 g3 g4 g5 iI0 iI1 iI2 (hm0.trans hj.r0) (hm1.trans hj.r1) (hm2.trans hj.r2), ?fr, .mk _ _ _ _ _ _ _ _ _ _ _ _ _ _ _ _ _ S0' S1' S2' { led := rfl, hc1 := hcw, hc2 := by assumption, k0 := ?k0, k1 := ?k1, w0 := ?w0, w1 := ?w1, q0 := p0', q1 := p1', q2 := p2', r0 := hm0.trans hj.r0, r1 := hm1.trans hj.r1, r2 := hm2.trans hj.r2, v0 := V0, v1 := V1, rl := RL }⟩
        case k0 => omega
        case k1 => omega
        case w0 => omega
        case w1 => omega
        case fr =>
          intro y hy
          have hy0 := hy
          simp only [List.contains_cons, List.contains_nil, Bool.or_false, Bool.or_eq_false_iff, beq_eq_false_iff_ne] at hy
          obtain ⟨ya, yb, yc, yd⟩ := hy
          simp only [if_neg ya, if_neg yb, if_neg yc, if_neg yd, hy0, Bool.false_eq_true, if_false]
  case done =>
    intro ws news₁ h tk hJN FN NN
    k_with_none
    have hJ := (by assumption : LoopJ _ _ _ _ _ _ _ _ _ _ _ _ _ _ _ _ _ _ _ _ _)
    obtain ⟨k, W, cl, cu, wl, wu, cl1, cu1, wl1, wu1, ta, ta1, tk0, tw, oc1, oc2, x2, S0, S1, S2, hj⟩ := hJ
    have led := hj.led
    subst led
    have w0 := hj.w0
    have w1 := hj.w1
    have hc1 := hj.hc1
    have hMark := kstMark
    have tl := ap.tail hj.r0 hj.r1 hj.r2
    have e1 := ap.n1
    have e2 := ap.n2
    have e3 := ap.n3
    have e4 := ap.n4
    have e5 := ap.n5
    have e6 := ap.n6
    have e7 := ap.n7
    have e8 := ap.n8
    have e9 := ap.n9
    have e10 := ap.n10
    refine wpG_execs_cons (wpG_Return (wpG_And (wpG_Compare1 (wpG_ListComp (by k_asm) (by rfl) (by rfl) (by decide) (by rfl) (by decide) (by rfl) ?_))))
    k_fold
    k_steps
    rename News _ _ _ _ => Nd
    have hax := ltOfNews Nd (by assumption)
    refine ⟨_, [Value.ref p0, Value.ref p1], _, _, RestsJ _ _ _ _ _ S0 S1 S2, rfl, by k_asm, Nd, by simp, ⟨rfl, rfl⟩, ?rturn, ?rdone⟩
    case rturn =>
      intro i8 v8 ys8 news8 Ia oI C oC D m8 h8 tk8 hv hJ hNs hm8 hF8 hN8 hoff8 hne8
      rcases i8 with _ | _ | i8
      · obtain ⟨rfl, rfl⟩ := hJ
        obtain rfl : Value.ref p0 = v8 := by simpa using hv
        refine wpG_Call (wpG_of ?_)
        k_fold
        k_steps
        refine wpG_callWithK (K := Mine.hd.heap_39 w.params) (by k_is) (wpG_of ?_)
        k_fold
        k_steps
        refine' rest_spec _ _ _ _ _ _ _ _ _ _ _ _ _ _ _ _ _ _ _ _ _ p0 S0 _ (3 + vA) cl cu wl cu wu W ta _ (by k_asm) (by k_asm) (by k_asm) (permR0 hN8) (by k_asm) rfl (by ktr_room) (by ktr_units) hj.q0 (by rw [hj.r0]; exact offR0 ap.e0 (hiOf hoff8 hj.r0 (fun q hq => by simp [hq])) (neMap hax hj.r0 (fun q hq => by simp [hq])) (offBoth (fun q hq b hb => (ap.d01 b hb _ (mem1 hj.r1 hq)).symm) fun q hq b hb => (ap.d02 b hb _ (mem1 hj.r2 hq)).symm)) ?xs rfl hj.v0.a0 hj.v0.a1 hj.v0.a2 hj.v0.a3 hj.v0.a4 hj.v0.a5 ?xb hj.v0.a6 ?xc ?_
        case xs => omega
        case xb => have := hj.v0.small; omega
        case xc => omega
        intro h9 tk9 F9 N9
        exact TurnC.mk (by k_asm) N9 (fun q hq => hoff8 q (by simp only [List.mem_cons, List.mem_append] at hq ⊢; grind)) ⟨rfl, rfl⟩
      · obtain ⟨rfl, rfl⟩ := hJ
        obtain rfl : Value.ref p1 = v8 := by simpa using hv
        refine wpG_Call (wpG_of ?_)
        k_fold
        k_steps
        refine wpG_callWithK (K := Mine.hd.heap_39 w.params) (by k_is) (wpG_of ?_)
        k_fold
        k_steps
        refine' rest_spec _ _ _ _ _ _ _ _ _ _ _ _ _ _ _ _ _ _ _ _ _ p1 S1 _ (2 * (3 + vA) + vB) cl1 cu1 wl1 cu1 wu1 W ta1 _ (by k_asm) (by k_asm) (by k_asm) (permR1 hN8) (by k_asm) rfl (by ktr_room) (by ktr_units) hj.q1 (by rw [hj.r1]; exact offR0 ap.e1 (hiOf hoff8 hj.r1 (fun q hq => by simp [hq])) (neMap hax hj.r1 (fun q hq => by simp [hq])) (fun q hq b hb => (ap.d12 b hb _ (mem1 hj.r2 hq)).symm)) ?ys rfl hj.v1.a0 hj.v1.a1 hj.v1.a2 hj.v1.a3 hj.v1.a4 hj.v1.a5 ?yb hj.v1.a6 ?yc ?_
        case ys => omega
        case yb => have := hj.v1.small; omega
        case yc => omega
        intro h9 tk9 F9 N9
        exact TurnC.mk (by k_asm) N9 (fun q hq => hoff8 q (by simp only [List.mem_cons, List.mem_append] at hq ⊢; grind)) ⟨rfl, rfl⟩
      · simp at hv
    case rdone =>
      intro ys8 news8 D8 h8 tk8 hJ F8 N8 l8
      obtain ⟨rfl, rfl⟩ := hJ
      show wpAny _ _ _ _ _ _
      (try k_fold)
      k_steps
      refine wpG_Call (wpG_of ?_)
      k_fold
      k_steps
      refine wpG_callWithK (K := Mine.hd.heap_39 w.params) (by k_is) (wpG_of ?_)
      k_fold
      k_steps
      rename News _ _ _ _ => Nz
      have Ny := permR2 (by first | exact newsTail (newsTail Nz) | exact newsTail Nz | exact newsTail (newsTail (newsTail Nz)) : News _ _ _ ((_, _) :: (_, _) :: (_, _) :: (_, _) :: (_, _) :: S2))
      have hf : 2 + vC = 2 ∨ 2 + vC = 3 ∨ 2 + vC = 4 := by omega
      have sc := hj.v0.scale hf
      have s1' := mul_small (a := W) (b := 42) hf (by omega) (by omega)
      have s2' := mul_small (a := 3 + vA) (b := 9) hf (by omega) (by omega)
      refine' rest_spec _ _ _ _ _ _ _ _ _ _ _ _ _ _ _ _ _ _ _ _ _ p9 S2 _ ((2 + vC) * (3 + vA)) ((2 + vC) * cl) ((2 + vC) * cu) ((2 + vC) * wl) ((2 + vC) * cu) ((2 + vC) * wu) ((2 + vC) * W) (ta.map ((2 + vC) * ·)) _ (by k_asm) (by k_asm) (by k_asm) Ny (by k_asm) rfl (by ktr_room) (by ktr_units) hj.q2 (by rw [hj.r2]; exact offR2 ap.e2) ?zs rfl sc.a0 sc.a1 sc.a2 sc.a3 sc.a4 sc.a5 ?zb sc.a6 ?zc ?_
      case zs => rcases hf with e | e | e <;> rw [e] <;> omega
      case zb => have := sc.small; omega
      case zc => omega
      intro h9 tk9 F9 N9
      dsimp only
      refine GoodW.toG ?_
      exact goodW_bool F9 (by assumption) (raisesW_false (by wrow_none_raised)) (by wrow_post)
end
end Mine

theorem PySem.Challenge.cw_tk0092_01_holds : PySem.Challenge.rw_tk0092_01.Holds := by
  exact Mine.law_holds
