import PyProof.Rows.All
import Wide.All
import OpenK.AllK
import Wide.FinOn
import KE.KTryDeep
import PyProof.ExcClass2
import PyProof.InstStoreFacts
import KE.KLam
import PyProof.ExcAttrAll.Exception
import PyProof.NeKinds
import KE.KNestM
import Lean
import PySem.Challenge.RW_np0200_01
set_option maxRecDepth 100000
set_option linter.unusedVariables false
set_option Elab.async false
set_option compiler.extract_closed false
section
namespace Np
open PySem PySem.W PySem.Spec PySem.Calls PyProof.Rows
open Sem (wp)

/-! ### contexts on whose stack no builtin stands that could hold a bytearray -/
def holders : List String := ["bytearray.__contains__", "bytearray.__mod__", "bytearray.__rmod__", "_struct.pack_into.held", "bytearray.find.held"] ++ Builtin.Bytes.decodersThatHold
def okCode : Code → Bool
  | .builtin id _ => !holders.contains id
  | _ => true
def CleanL (l : List (Code × Pos)) : Prop := ∀ x ∈ l, okCode x.1 = true
def Clean (Γ : PySem.Ctx) : Prop := okCode Γ.code = true ∧ CleanL Γ.below
theorem Clean.list {Γ : PySem.Ctx} (h : Clean Γ) (p : Pos) : CleanL ((Γ.code, p) :: Γ.below) := fun x hx => by
  rcases List.mem_cons.mp hx with rfl | hx
  · exact h.1
  · exact h.2 x hx

def wpC {α : Type} (M : Model) (A : Around) (t : Sem α) (Q : α → Shared → Prop) (E : Value → Shared → Prop) (s : Shared) : Prop :=
  ∀ Γ p, Γ.In A → Clean Γ → wp M Γ t (fun a _ s' => Q a s') (fun e _ s' => E e s') p s
def codeC (M : Model) (A : Around) (c : Code) (R : Result → Shared → Prop) (s : Shared) : Prop :=
  ∀ Γ p, Γ.code = c → Γ.Below A → CleanL Γ.below → wpCode M Γ R p s
/-- a tree that runs as the code `c`'s own, the stack below it clean -/
def wpB {α : Type} (M : Model) (A : Around) (c : Code) (t : Sem α) (Q : α → Shared → Prop) (E : Value → Shared → Prop) (s : Shared) : Prop :=
  ∀ Γ p, Γ.code = c → Γ.Below A → CleanL Γ.below → wp M Γ t (fun a _ s' => Q a s') (fun e _ s' => E e s') p s

section
variable {α β : Type} {M : Model} {A : Around} {E : Value → Shared → Prop} {s : Shared}
theorem wpC_of {t : Sem α} {Q : α → Shared → Prop} (h : wpAny M A t Q E s) : wpC M A t Q E s := fun Γ p hΓ _ => h Γ p hΓ
theorem wpC_pure {a : α} {Q : α → Shared → Prop} (h : Q a s) : wpC M A (pure a) Q E s := fun _ _ _ _ => h
theorem wpC_mono {t : Sem α} {Q Q' : α → Shared → Prop} {E' : Value → Shared → Prop} (h : wpC M A t Q E s) (hQ : ∀ a s, Q a s → Q' a s) (hE : ∀ e s, E e s → E' e s) : wpC M A t Q' E' s :=
  fun Γ p hΓ hc => Sem.wp_mono M Γ t (fun a _ s => hQ a s) (fun e _ s => hE e s) p s (h Γ p hΓ hc)
theorem wpC_bind {m : Sem α} {f : α → Sem β} {Q : β → Shared → Prop} (h : wpC M A m (fun a s' => wpC M A (f a) Q E s') E s) : wpC M A (m >>= f) Q E s := fun Γ p hΓ hc => by
  rw [Sem.wp_bind']
  exact Sem.wp_mono M Γ m (fun a p' s' h' => h' Γ p' hΓ hc) (fun _ _ _ h' => h') p s (h Γ p hΓ hc)
theorem wpC_bindA {m : Sem α} {f : α → Sem β} {Q : β → Shared → Prop} (h : wpAny M A m (fun a s' => wpC M A (f a) Q E s') E s) : wpC M A (m >>= f) Q E s := wpC_bind (wpC_of h)
theorem wpC_eq {t t' : Sem α} {Q : α → Shared → Prop} (e : t = t') (h : wpC M A t' Q E s) : wpC M A t Q E s := e ▸ h
theorem wpC_standAt {pos : Pos} {f : Unit → Sem β} {Q : β → Shared → Prop} (h : wpC M A (f ()) Q E s) : wpC M A (standAt pos >>= f) Q E s := fun Γ _ hΓ hc => h Γ pos hΓ hc
theorem wpC_holding {vs : List Value} {m : Sem α} {Q : α → Shared → Prop} (h : wpC M A m Q E s) : wpC M A (holding vs m) Q E s := fun Γ p hΓ hc => by rw [Sem.wp_holding]; exact h Γ p hΓ hc
theorem wpC_onRaise {m : Sem α} {k : Value → Sem Unit} {Q : α → Shared → Prop} (h : wpC M A m Q (fun _ _ => False) s) : wpC M A (m.onRaise k) Q E s := fun Γ p hΓ hc => by
  rw [Sem.wp_onRaise]
  exact Sem.wp_mono M Γ m (fun _ _ _ h' => h') (fun _ _ _ h' => h'.elim) p s (h Γ p hΓ hc)

theorem codeC_mono {c : Code} {R R' : Result → Shared → Prop} (h : codeC M A c R s) (hR : ∀ r s, R r s → R' r s) : codeC M A c R' s := fun Γ p hc hΓ hb => wpCode_mono hR (h Γ p hc hΓ hb)
theorem wpC_run {c : Code} {h : Option Value} {Q : Flow → Shared → Prop} (hc : codeC M (A.mark h) c (fun r s' => match r with | .ok f => Q f s' | .error e => E e s') s) (hnb : h ≠ some byPass := by intro x; cases x) : wpC M A (run c h) Q E s :=
  fun Γ p hΓ hcl => by rw [Sem.wp_run]; exact hc _ p rfl (hΓ.enter c h p hnb) (hcl.list p)
theorem wpC_call {f : Value} {pos : List Value} {kw : List (Str × Value)} {Q : Value → Shared → Prop}
    (hc : codeC M A (.call f ⟨pos, kw⟩) (fun r s' => match r with | .ok (.ret v) => Q v s' | .ok _ => False | .error e => E e s') s) : wpC M A (call f pos kw) Q E s :=
  fun Γ p hΓ hcl => by
    show wp M Γ (runValue _) _ _ p s
    rw [Sem.wp_runValue]; exact hc _ p rfl (hΓ.enter _ none p (by intro x; cases x)) (hcl.list p)

/-- the code's tree, whatever the stack; the code that goes on in its place is clean again -/
theorem codeC_tree {c : Code} {R : Result → Shared → Prop}
    (h : wpAny M (A.under c) (M.den c) (fun fin s' => match fin with | .done f => R (.ok f) s' | .again c' => c'.quiet = true ∧ codeC M A c' R s') (fun e s' => R (.error e) s') s) : codeC M A c R s := fun Γ p hc hΓ hb => by
  rw [wpCode_iff_wp, hc]
  refine Sem.wp_mono M Γ _ (fun fin p' s' h' => ?_) (fun _ _ _ h' => h') p s (h Γ p (hc ▸ hΓ.in))
  cases fin with
  | done f => exact h'
  | again c' => exact ⟨h'.1, h'.2 (Γ.goto c') p' rfl (hΓ.goto c') hb⟩
/-- the same for a clean code's tree, stepped clean -/
theorem codeC_treeC {c : Code} {R : Result → Shared → Prop} (hok : okCode c = true)
    (h : wpC M (A.under c) (M.den c) (fun fin s' => match fin with | .done f => R (.ok f) s' | .again c' => c'.quiet = true ∧ codeC M A c' R s') (fun e s' => R (.error e) s') s) : codeC M A c R s := fun Γ p hc hΓ hb => by
  rw [wpCode_iff_wp, hc]
  refine Sem.wp_mono M Γ _ (fun fin p' s' h' => ?_) (fun _ _ _ h' => h') p s (h Γ p (hc ▸ hΓ.in) ⟨hc ▸ hok, hb⟩)
  cases fin with
  | done f => exact h'
  | again c' => exact ⟨h'.1, h'.2 (Γ.goto c') p' rfl (hΓ.goto c') hb⟩
/-- the same for a builtin's tree: the stack below it is clean -/
theorem codeC_treeB {c : Code} {R : Result → Shared → Prop}
    (h : wpB M A c (M.den c) (fun fin s' => match fin with | .done f => R (.ok f) s' | .again c' => c'.quiet = true ∧ codeC M A c' R s') (fun e s' => R (.error e) s') s) : codeC M A c R s := fun Γ p hc hΓ hb => by
  rw [wpCode_iff_wp, hc]
  refine Sem.wp_mono M Γ _ (fun fin p' s' h' => ?_) (fun _ _ _ h' => h') p s (h Γ p hc hΓ hb)
  cases fin with
  | done f => exact h'
  | again c' => exact ⟨h'.1, h'.2 (Γ.goto c') p' rfl (hΓ.goto c') hb⟩
theorem codeC_loop {c : Code} {R : Result → Shared → Prop} (hok : okCode c = true) (hq : c.quiet = true) (I : Nat → Shared → Prop)
    (turn : ∀ n s, I n s → wpC M (A.under c) (M.den c)
      (fun fin s' => match fin with | .done f => R (.ok f) s' | .again c' => c' = c ∧ ∃ m, m < n ∧ I m s') (fun e s' => R (.error e) s') s)
    (n : Nat) (h : I n s) : codeC M A c R s := by
  induction n using Nat.strongRecOn generalizing s with
  | ind n ih =>
    refine codeC_treeC hok (wpC_mono (turn n s h) (fun fin s' hf => ?_) fun _ _ h' => h')
    cases fin with
    | done f => exact hf
    | again c' => obtain ⟨rfl, m, hm, hI⟩ := hf; exact ⟨hq, ih m hm hI⟩

theorem wpB_of {c : Code} {t : Sem α} {Q : α → Shared → Prop} (h : wpAny M (A.under c) t Q E s) : wpB M A c t Q E s := fun Γ p hc hΓ _ => h Γ p (hc ▸ hΓ.in)
theorem wpB_bind {c : Code} {m : Sem α} {f : α → Sem β} {Q : β → Shared → Prop} (h : wpB M A c m (fun a s' => wpB M A c (f a) Q E s') E s) : wpB M A c (m >>= f) Q E s := fun Γ p hc hΓ hb => by
  rw [Sem.wp_bind']
  exact Sem.wp_mono M Γ m (fun a p' s' h' => h' Γ p' hc hΓ hb) (fun _ _ _ h' => h') p s (h Γ p hc hΓ hb)
theorem wpB_stack {c : Code} {Q : List (Code × Pos) → Shared → Prop} (h : ∀ (p : Pos) (below : List (Code × Pos)), CleanL below → Q ((c, p) :: below) s) : wpB M A c stack Q E s := fun Γ p hc _ hb => by
  show Q ((Γ.code, p) :: Γ.below) s
  rw [hc]; exact h p _ hb

theorem wpC_execs_nil {env : Env} {Q : Flow → Shared → Prop} (h : Q .next s) : wpC M A (execs [] env) Q E s := fun _ _ _ _ => h
theorem wpC_execs_cons {env : Env} {st rest} {Q : Flow → Shared → Prop}
    (h : wpC M A (exec st env) (fun f s' => match f with | .next => wpC M A (execs rest env) Q E s' | f => Q f s') E s) : wpC M A (execs (st :: rest) env) Q E s := fun Γ p hΓ hc => by
  rw [execs_cons, Sem.wp_bind']
  refine Sem.wp_mono M Γ _ (fun f p' s' h' => ?_) (fun _ _ _ h' => h') _ _ (h Γ p hΓ hc)
  cases f <;> first | exact h' Γ p' hΓ hc | exact h'
theorem wpC_If {env : Env} {test body orelse pos} {Q : Flow → Shared → Prop}
    (h : wpAny M A (isTrue test env (eval test env)) (fun b s₂ => if b then wpC M A (execs body env) Q E s₂ else wpC M A (execs orelse env) Q E s₂) E s) : wpC M A (exec (.If test body orelse pos) env) Q E s := by
  refine wpC_eq (exec_If env test body orelse pos) (wpC_standAt (wpC_bindA (wpAny_mono h (fun b s₂ h₂ => ?_) fun _ _ x => x)))
  cases b <;> exact h₂
theorem wpC_IfC {env : Env} {test body orelse pos} {Q : Flow → Shared → Prop}
    (h : wpC M A (isTrue test env (eval test env)) (fun b s₂ => if b then wpC M A (execs body env) Q E s₂ else wpC M A (execs orelse env) Q E s₂) E s) : wpC M A (exec (.If test body orelse pos) env) Q E s := by
  refine wpC_eq (exec_If env test body orelse pos) (wpC_standAt (wpC_bind (wpC_mono h (fun b s₂ h₂ => ?_) fun _ _ x => x)))
  cases b <;> exact h₂
theorem wpC_Assign {env : Env} {x pos' value pos} {Q : Flow → Shared → Prop}
    (h : wpC M A (eval value env) (fun v s₁ => wpAny M A (storeName env x v) (fun _ => Q .next) E s₁) E s)
    (hs : swapsWith value (some (.Name x pos')) pos.line env = pure false := by rfl) : wpC M A (exec (.Assign [.Name x pos'] value pos) env) Q E s := by
  refine wpC_eq (exec_Assign_Name env x pos' value pos hs) (wpC_standAt (wpC_bind (wpC_mono h (fun v s₁ h₁ => wpC_standAt (wpC_bindA (wpAny_bindName (wpAny_mono h₁ (fun _ _ q => wpC_pure q) fun _ _ x => x)))) fun _ _ x => x)))
theorem wpC_Return {env : Env} {e pos} {Q : Flow → Shared → Prop} (h : wpC M A (eval e env) (fun v => Q (.ret v)) E s) : wpC M A (exec (.Return (some e) pos) env) Q E s :=
  wpC_eq (exec_Return_some env e pos) (wpC_standAt (wpC_bind (wpC_mono h (fun _ _ q => wpC_pure q) fun _ _ x => x)))
theorem wpC_ExprStmt {env : Env} {e pos} {Q : Flow → Shared → Prop} (h : wpC M A (eval e env) (fun v s' => match v with | .ref _ => False | _ => Q .next s') E s)
    (hi : interactive env = false := by rfl) (hs : swapsWith e none pos.line env = pure false := by rfl) : wpC M A (exec (.Expr e pos) env) Q E s := by
  refine wpC_eq (exec_Expr env e pos hi hs) (wpC_standAt (wpC_bind (wpC_mono h (fun v s' h' => ?_) fun _ _ x => x)))
  have hv : ∀ a, v ≠ .ref a := fun a hva => by subst hva; exact h'
  rw [dropValue_plain hv]
  refine wpC_pure ?_
  cases v <;> first | exact h' | exact (hv _ rfl).elim
/-- a comparison whose left is a clean call, its right any -/
theorem wpC_Compare1 {env : Env} {l op r pos} {Q : Value → Shared → Prop}
    (h : wpC M A (eval l env) (fun a s₁ => wpC M A (eval r env) (fun b s₂ => wpAny M A (compareOp op a b) Q E s₂) E s₁) E s)
    (hm : behindInMarks op r = false := by with_unfolding_all rfl) : wpC M A (eval (.Compare l [op] [r] pos) env) Q E s := fun Γ p hΓ hc => by
  simp only [eval_Compare1, markedBehindIn_of_false hm, Sem.wp_bind', Sem.wp_holding, Sem.wp_cmd_standAt, Sem.wp_operate]
  exact Sem.wp_mono M Γ _ (fun a p₁ s₁ h₁ => Sem.wp_mono M Γ _ (fun b _ s₂ h₂ => h₂ Γ _ hΓ) (fun _ _ _ h' => h') _ _ (h₁ Γ p₁ hΓ hc)) (fun _ _ _ h' => h') _ _ (h Γ p hΓ hc)
theorem wpC_isTrue_Compare1 {env : Env} {l op r pos whole} {Q : Bool → Shared → Prop}
    (h : wpC M A (eval l env) (fun a s₁ => wpC M A (eval r env) (fun b s₂ => wpAny M A (compareOp op a b) (fun c s₃ => wpAny M A (truthy c) Q E s₃) E s₂) E s₁) E s)
    (hm : behindInMarks op r = false := by with_unfolding_all rfl) : wpC M A (isTrue (.Compare l [op] [r] pos) env whole) Q E s := fun Γ p hΓ hc => by
  simp only [isTrue_Compare1, markedBehindIn_of_false hm, Sem.wp_bind', Sem.wp_holding, Sem.wp_cmd_standAt, Sem.wp_operate]
  exact Sem.wp_mono M Γ _ (fun a p₁ s₁ h₁ => Sem.wp_mono M Γ _ (fun b _ s₂ h₂ => Sem.wp_mono M Γ _ (fun c p₃ s₃ h₃ => h₃ Γ p₃ hΓ)
    (fun _ _ _ h' => h') _ _ (h₂ Γ _ hΓ)) (fun _ _ _ h' => h') _ _ (h₁ Γ p₁ hΓ hc)) (fun _ _ _ h' => h') _ _ (h Γ p hΓ hc)
end

section
variable {prog : Program} {w : World} {A : Around} {E : Value → Shared → Prop} {R : Result → Shared → Prop} {s : Shared}
theorem codeC_func {body env} (h : wpC (model prog w) (A.deeper env) (execs body env) (fun f s' => R (.ok (.ret (match f with | .ret v => v | _ => .none))) s') (fun _ _ => False) s) : codeC (model prog w) A (.func body env) R s := by
  refine codeC_treeC rfl ?_
  show wpC _ (A.deeper env) (do point; match ← (execs body env).onRaise (leaving env) with | .ret v => ret v | _ => ret .none) _ _ s
  refine wpC_bindA (wpAny_point (wpC_bind (wpC_onRaise (wpC_mono h (fun f s' h' => ?_) fun _ _ x => x))))
  cases f <;> exact wpC_pure h'
theorem codeC_whileLoop {test body env} (I : Nat → Shared → Prop)
    (turn : ∀ n s, I n s →
      wpAny (model prog w) A (isTrue test env (eval test env)) (fun b s₂ =>
        if b then wpC (model prog w) A (execs body env) (fun f s₃ => match f with
            | .next | .cont => ∃ m, m < n ∧ I m s₃
            | .brk => R (.ok .next) s₃
            | .ret v => R (.ok (.ret v)) s₃) (fun _ _ => False) s₂
        else R (.ok .next) s₂) (fun _ _ => False) s)
    (n : Nat) (h : I n s) : codeC (model prog w) A (.whileLoop test body [] env) R s := by
  refine codeC_loop rfl rfl I (fun n s hI => ?_) n h
  show wpC _ A ((whileTurn test body [] env).onRaise (fun x => do noteFrame x env; theTreesLotGoes x)) _ _ s
  refine wpC_onRaise ?_
  simp only [whileTurn]
  refine wpC_bindA (wpAny_mono (turn n s hI) (fun b s₂ h₂ => ?_) fun _ _ h' => h')
  cases b with
  | false =>
    simp only [Bool.false_eq_true, if_false] at h₂ ⊢
    exact wpC_bind (wpC_execs_nil (wpC_pure h₂))
  | true =>
    simp only [if_true] at h₂ ⊢
    refine wpC_bind (wpC_mono h₂ (fun f s₃ h₃ => ?_) fun _ _ h' => h')
    cases f with
    | next => exact wpC_pure ⟨rfl, h₃⟩
    | cont => exact wpC_pure ⟨rfl, h₃⟩
    | brk => exact wpC_pure h₃
    | ret v => exact wpC_pure h₃
theorem wpC_While {test body env pos} {Q : Flow → Shared → Prop} (h : codeC (model prog w) A (.whileLoop test body [] env) (fun r s' => match r with | .ok f => Q f s' | .error _ => False) s) :
    wpC (model prog w) A (exec (.While test body [] pos) env) Q E s := by
  refine wpC_eq (exec_While env test body [] pos) (wpC_standAt ?_)
  unfold runOwn
  exact wpC_onRaise (wpC_run h)

end

/-! ### a def entered clean -/
section
variable {prog : Program} {w : World} {A₀ A : Around} {s : Shared} {base h₀ : Heap} {outer : List Env} {L : Addr} {m : Str → Option Value} {env : Env} {news : List (Addr × Obj)} {K : Frag}
  {R : Result → Shared → Prop} {name qual : Str} {params : Arguments} {body : List Stmt} {scope : Scope} {dV kV doc pm cdv ct oc : Value} {an od : Option Addr} {osl : Array (Option Value)} {f : Addr} {args : Args} {binds : List (Str × Value)}
  {p : Program} {loose : List Str} {mean : ExcName → Option Value} {mg mb : Str → Option Value}

theorem codeC_call_function {a : Addr} {o : Obj} {fd : FuncData} {body : List Stmt} (hroom : A.depth < recursionLimit)
    (ho : s.heap.get? a = some o) (hd' : o.data = .func fd) (hco : fd.scope.isCoroutine = false) (hgen : fd.scope.isGenerator = false) (hbody : fd.body = .stmts body) (hcd : s.heap.CodeRec fd.code fd.qualname)
    (h : wpAny (model prog w) A.in1 (bindArgs fd args) (fun binds s₁ =>
      wpAny (model prog w) A.in1 (newFunctionEnv fd.scope fd.globals fd.closure binds (fd.qualname ++ ".<locals>.") (some a) fd.code none fd.builtins)
        (fun env s₂ => s₂.heap.NoLimit ∧ codeC (model prog w) A (.func body env) R s₂) (fun e s' => R (.error e) s') s₁) (fun e s' => R (.error e) s') s) :
    codeC (model prog w) A (.call (.ref a) args) R s := by
  refine codeC_tree ?_
  show wpAny _ A.in1 (callAny (.ref a) args) _ _ s
  simp only [callAny]
  refine wpAny_bind (wpAny_load ho ?_)
  obtain ⟨c, oc, vs, tq, hc, hoc, hdc, hq⟩ := hcd
  simp only [hd', callFunction, hco, hgen, hbody, hc]
  rw [hc] at h
  refine wpAny_bind (m := field (.ref c) 1) (wpAny_field hoc hdc hq (wpAny_bind (wpAny_pure ?_)))
  exact wpAny_bind (wpAny_mono h (fun binds s₁ h₁ => wpAny_bind (wpAny_mono h₁ (fun env s₂ h₂ => wpAny_bind (wpAny_enterFrame h₂.1 hroom
    (wpAny_pure (And.intro rfl h₂.2)))) fun _ _ h' => h')) fun _ _ h' => h')

theorem code_defN (B : Below A₀ base outer h₀) (F : Fr h₀ L s.heap m) (X₀ : K.In h₀) (N : News h₀ L s.heap news) (T : Top p loose mean mg mb h₀) (hA : A.frames = some (env :: outer)) (hf : env.frame = some L) (hke : env.scope.kind = .function)
    (ho : K.lookup f = some ⟨oc, od, .func (fnOf name qual params body scope dV kV doc pm an cdv ct), osl⟩) (hcd : codeIn K cdv qual = true) (hroom : A.depth < recursionLimit)
    (hbind : BindsTo s (fnOf name qual params body scope dV kV doc pm an cdv ct) args binds) (hloc : ∀ y ∈ binds, scope.names.lookup y.1 = some .local)
    (h : ∀ g L' h₁, Fr h₀ L g m → Fr g L' h₁ (fun y => binds.reverse.lookup y) → News g L' h₁ news → Below A base (env :: outer) g → K.In g → Top p loose mean mg mb g →
      wpC (model prog w) (A.deeper (envOf qual scope L' f cdv)) (execs body (envOf qual scope L' f cdv))
        (fun fl s' => LeaveK h₀ L m g R (match fl with | .ret v => v | _ => .none) s') (fun _ _ => False)
        { s with heap := h₁, toks := s.toks + binds.length })
    (hco : scope.isCoroutine = false) (hgen : scope.isGenerator = false) (hk : scope.kind = .function)
    (hcell : ∀ x ∈ scope.names, x.2 ≠ .cell) : codeC (model prog w) A (.call (.ref f) args) R s := by
  have ho' := (X₀.keeps F.keep) _ _ ho
  have hcd' : s.heap.CodeRec cdv qual := codeRec_of (X₀.keeps F.keep) hcd
  obtain ⟨FG, BG, st, lv⟩ := groundX (R := R) B F N hA hf hke
  refine codeC_call_function hroom ho' rfl hco hgen rfl hcd' (hbind _ _ _ _ ?_)
  refine wpAny_newFunctionEnv hcell hloc (fun h₁ hns hsb => ⟨(T.nolimit.keeps F.keep).fresh _ hsb, codeC_func ?_⟩) hk
  have hk₁ : ∀ b o, s.heap.get? b = some o → h₁.get? b = some o := fun b o e => hsb.extBut b o (Nat.ne_of_lt (Heap.lt_size e)) (Heap.get?_push_of_some _ e)
  exact wpC_mono (h _ s.heap.objs.size h₁ FG ⟨hns, fun b o e => hk₁ b o (of_hideAll _ e), Nat.le_of_eq (hideAll_size _ _)⟩
    (fun q hq => ⟨hk₁ _ _ (N q hq).1, Nat.ne_of_lt (Heap.lt_size (N q hq).1), hideAll_none _ (List.mem_map_of_mem hq)⟩) BG (X₀.keeps st) (T.keeps st)) (fun fl s' hl => lv _ _ hl) fun _ _ y => y

end
end Np
end

section
namespace Np
open PySem PySem.W PySem.Spec PySem.Calls PyProof.Rows

theorem wp_of_clean {M : Model} {t : Sem Fin} {R : Result → Shared → Prop} {s : Shared}
    (h : wpC M callerA t (fun fin s' => ∃ f, fin = .done f ∧ R (.ok f) s') (fun e s' => R (.error e) s') s) :
    Sem.wp M ⟨.builtin "claim.caller" {}, none, none, [], none⟩ t (Sem.finPost M ⟨.builtin "claim.caller" {}, none, none, [], none⟩ R) (fun e _ s' => R (.error e) s') default s := by
  refine Sem.wp_mono M _ t (fun fin p' s' h' => ?_) (fun _ _ _ h' => h') default s (h _ default caller_in ⟨by decide +kernel, fun x hx => nomatch hx⟩)
  obtain ⟨f, rfl, hf⟩ := h'
  exact hf

theorem thread_endsC {prog : Program} {w : World} {t : Sem Fin} {s : Shared} {R : Result → Shared → Prop} (hreg : s.asleep)
    (h : wpC (model prog w) callerA t (fun fin s' => ∃ f, fin = .done f ∧ (R (.ok f) s' ∧ leftWithCleanup s'.gens = false)) (fun e s' => R (.error e) s' ∧ leftWithCleanup s'.gens = false) s) :
    ∃ n r s' s'', runN (denote table) prog w n s ⟨t, .builtin "claim.caller" {}, default, []⟩ = .halted (outcomeOf r) s' ∧
      schedN (denote table) prog w n (.single s ⟨t, .builtin "claim.caller" {}, default, []⟩) = .halted (outcomeOf r) s' ∧ s'.forget = s''.forget ∧ R r s'' := by
  obtain ⟨n, r, s₁, s₂, hs, hn, hfo, hR⟩ := wp_halts_full (M := model prog w) (R := R) hreg (wp_of_clean (R := fun r s' => R r s' ∧ leftWithCleanup s'.gens = false) h)
  exact ⟨n, r, s₂, s₁, hn, hs, hfo, hR⟩

theorem callFromC {c : ClaimW} {tree : List Value → Sem Fin} {w : World} {s : Shared} {free : Addr → Prop} {gens : Prop} {kept : Heap → Prop} (hz : s.asleep) (hgens : s.gens = #[])
    (hspec : ∀ args, c.pre args = true → WData.layableAll args = true →
      ∀ ord : List DictEntry → List DictEntry, (∀ l, (ord l).Perm l) →
      ∃ vs s₁, layAllW c.records (classAt s.heap) w.params ord args s = some (vs, s₁) ∧
        wpC (model c.prog w) callerA (tree vs) (fun fin s' => ∃ f, fin = .done f ∧ (c.Ends s args vs s₁ (.ok f) s' ∧ s'.os = s.os ∧ AllBare s'.gens ∧ kept s'.heap))
          (fun e s' => c.Ends s args vs s₁ (.error e) s' ∧ s'.os = s.os ∧ AllBare s'.gens ∧ kept s'.heap) s₁) :
    c.CallFrom (fun vs => ⟨tree vs, .builtin "claim.caller" {}, default, []⟩) w free gens kept s := by
  intro args hpre hlay ord hord
  obtain ⟨vs, s₁, hlaid, hcode⟩ := hspec args hpre hlay ord hord
  have hal := layAllW_rest _ _ _ hlaid
  obtain ⟨k, r, s', s'', hrun, hsched, hfo, hcase, hos, hkp⟩ := thread_endsC (prog := c.prog) (w := w) (t := tree vs) (s := s₁)
    (R := fun r s' => c.Ends s args vs s₁ r s' ∧ s'.os = s.os ∧ kept s'.heap) (Shared.asleep_of_life hal.2.2.2 hz)
    (wpC_mono hcode (by
      rintro fin s' ⟨f, e, h1, h2, h3, h4⟩
      exact ⟨f, e, ⟨h1, h2, h4⟩, leftWithCleanup_false_of_bare h3⟩) (by
      rintro e s' ⟨h1, h2, h3, h4⟩
      exact ⟨⟨h1, h2, h4⟩, leftWithCleanup_false_of_bare h3⟩))
  obtain ⟨eh, _, _, eo, _⟩ := Shared.forget_eq hfo
  have hcase := hcase.congr eh
  have hkp : kept s'.heap := by first | exact eh ▸ hkp | (rw [eh] at hkp; exact hkp) | (rw [← eh] at hkp; exact hkp)
  rw [← eo] at hos
  have hlife : s'.heap.life = s.heap.life := (runN_life _ _ _ hrun).trans hal.2.2.2
  refine ⟨vs, s₁, hlaid, k, _, s', hsched, ?_, (fun _ i x hx => by rw [hgens] at hx; simp at hx), hkp, by rw [hlife], Shared.rest_eq hos⟩
  rcases hcase with ⟨v, rfl, d1, d2, d3, d4, d5⟩ | ⟨e, ob, cls, rfl, d1, d2, d3, d4, d5⟩
  · exact .inl ⟨v, rfl, d1, d2, d3, fun b o y _ => d4 b o y, d5⟩
  · exact .inr ⟨e, ob, cls, rfl, d1, d2, d3, d4, fun b o y _ => d5 b o y⟩

/-- the law's call, asked of the clean stack alone -/
abbrev WalkC (q : Program) (loose : List Str) (XP : (Str → Option Value) → Heap → Prop) (YP : World → Heap → Prop) (r : RowW) (d : DefRec) (kwd : List (Str × Expr)) : Prop :=
  ∀ (w : World) (s₀ s₁ : Shared) (mg mb : Str → Option Value), Ground q loose r.records XP w s₀ mg mb s₁.heap → YP w s₁.heap → ∀ (a : Addr) (o : Obj) (pm cd doc dV kV : Value), s₁.heap.get? a = some o →
    o.data = .func { docDef d.name d.params d.body d.scope pm cd doc with defaults := dV, kwdefaults := kV } → s₁.heap.CodeRec cd d.name → Dflts mg s₁.heap d.params kwd dV kV → mg d.name = some (.ref a) → s₁.gens = #[] →
    ∀ (args : List WData) (vals : List Value) (as : List Addr), r.claim.pre args = true → WData.layableAll args = true → ReadsAllW r.records (classAt s₀.heap) s₁.heap vals args as → WellAll w.params s₁.heap vals args → (∀ a ∈ as, (a == sysModules) = false) →
      wpC (model r.prog w) callerA (PySem.call (.ref a) vals) (fun v s' => GoodWG r.claim (classAt s₀.heap) (ExcName.means s₀.heap) args s₁ (.ok (.ret v)) s') (fun _ _ => False) s₁

end Np
open PySem PySem.W PySem.Spec PySem.Calls PyProof.Rows Np in
theorem Hz.PySem.W.holds_open {r : OpenRow} {q : Program} {loose : List Str} {Xt : Shared → Bool} {XP : (Str → Option Value) → Heap → Prop} {α : Type} {Yf : Shared → α} {Ya : World → α} {YP : World → Heap → Prop} {d : DefRec} {kwd : List (Str × Expr)} {N : Nat}
    (left : LeftO r.prog q loose Xt Yf Ya N) (hY : ∀ w s, Yf s = Ya w → YP w s.heap) (hYk : ∀ w h h', YP w h → (∀ b o, h.get? b = some o → h'.get? b = some o) → YP w h')
    (hX : ∀ s, Xt s = true → XP (s.heap.nsMap mainGlobals) s.heap) (hXk : ∀ mg h h', XP mg h → (∀ b o, h.get? b = some o → h'.get? b = some o) → XP mg h')
    (hdef : defOf q r.name = some (d, kwd)) (hp : r.prog.theDef r.name = some (d.params, d.body, d.scope)) (hk : kwWritten? d.params.kwonlyargs d.params.kw_defaults = some kwd) (hRf : ∀ s, Xt s = true → RecFacts r.records s.heap) (hwr : (!r.writes || r.records.isEmpty) = true)
    (k1 : r.wellSaid = true) (ok : (chainsOk q && opensWell r.prog && (frees r.toRowW && r.within.isEmpty)) = true) (hb : r.prog.bare) (hw : r.toRowW.promised)
    (call : WalkC q loose XP YP r.toRowW d kwd) : r.Holds := by
  refine ⟨k1, hw, ?_⟩
  obtain ⟨ok, k5⟩ := Bool.and_eq_true_iff.mp ok
  obtain ⟨hch, o1⟩ := Bool.and_eq_true_iff.mp ok
  obtain ⟨k5, k6⟩ := Bool.and_eq_true_iff.mp k5
  obtain ⟨hsame, hu, ha, hap, hm⟩ := frees_parts k5
  refine ⟨⟨hb, o1, by show r.makers.map _ = []; rw [hm]; rfl⟩, hw.witness, fun w => ⟨(left.behind hX hch w).1, fun s' hs' => ?_⟩⟩
  obtain ⟨s₀, hf, hg0, s, hT, hz, hgens, hg, G00, y⟩ := (left.behind (XP := fun mg h => XP mg h ∧ RecFacts r.records h) (fun s hs => ⟨hX s hs, hRf s hs⟩) hch w).2 s' hs'
  have G0 : Ground q loose [] XP w s (s.heap.nsMap mainGlobals) (s.heap.nsMap builtinsNs) s.heap := ⟨G00.T, G00.B, G00.D, G00.TE, G00.TD, G00.W, G00.X.1, G00.cls, G00.has, G00.apart, G00.once, G00.K⟩
  have RF := G00.X.2
  have hT' := hT
  have pin : ∀ n ∈ (if r.pinned then [r.name] else []), isTheDefsW r.prog s.heap n := fun n hn => by
    obtain rfl : n = r.name := by split at hn <;> simp_all
    exact pinned_of_view hg G0 hdef hp hk
  refine ⟨s₀, hf, hg0, s, hT, pin, RF.1, RF.2.1, ?_⟩
  have hgens : s.gens = #[] := Array.eq_empty_of_size_eq_zero (beq_iff_eq.mp hgens)
  have G : Ground q loose r.records XP w s _ _ s.heap := RF.ground G0
  refine callFromC (c := r.toRowW.claim) (tree := fun vs => do match ← nsGet mainNs r.name with
      | some f => do ret (← PySem.call f vs)
      | none => unsupported "claim.caller:no-such-global") hz hgens fun args hpre hlay ord hord => ?_
  obtain ⟨⟨vs, s₁⟩, hlaid⟩ := Option.isSome_iff_exists.mp (layAllW_isSome (P := w.params) (ord := ord) G.has args r.args s (pre_splitW hpre).1)
  have keeps := layAllW_keeps _ _ _ hlaid
  have hal := layAllW_rest _ _ _ hlaid
  obtain ⟨as, hrd, hin, hold⟩ := reads_layAllW hord _ _ _ hlaid hlay s₁.heap (fun _ _ e => e)
  have L : Laid r.records w s s₁ args vs as := ⟨⟨ord, hord, hlaid⟩, hrd, hin, hold, keeps, hal.1.trans hgens, hal.2.2.1⟩
  have G₁ := G.keeps hXk keeps
  obtain ⟨a, o, pm, cd, doc, dV, kV, h1, h2, h3, h4, h5⟩ := G₁.fn hdef
  have h := call w s s₁ _ _ G₁ (hYk _ _ _ (hY w s y) keeps) a o pm cd doc dV kV h2 h3 h4 h5 (defOf_name hdef ▸ h1) L.gens args vs as hpre hlay L.reads L.well (L.low G.low)
  have hi := ident_freeW hu ha hap
  have hwi : r.toRowW.claim.within = [] := List.isEmpty_iff.mp k6
  refine ⟨vs, s₁, hlaid, wpC_bindA (wpAny_nsGet G₁.T.g ?_)⟩
  rw [h1]
  exact wpC_bind (wpC_mono h (fun v s' g => wpC_pure ⟨_, rfl, have z := g.laid (c := r.toRowW.claim) hsame hwi hi L; ⟨z.1, z.2.1, z.2.2, fun q => ⟨namesKept_of hT' hg r.keeps keeps g.2.1.old, noTable hwr q⟩⟩⟩) fun _ _ x => x.elim)
end

section
open PySem PySem.W PyProof.Rows
namespace Hz
/-- those of a list that are chosen -/
noncomputable def sel {α : Type} : List Bool → List α → List α
  | b :: bs, x :: l => (match b with | true => x :: sel bs l | false => sel bs l)
  | _, _ => []
set_option maxRecDepth 100000 in
/-- the text's statements but for the eight that bind what the head does not hold -/
noncomputable def viewB : { b : List Stmt // b = sel (false :: true :: true :: true :: true :: true :: true :: true :: false :: true :: true :: true :: true :: true :: true :: true :: true :: true :: true :: true :: true :: true :: true :: true :: true :: false :: true :: true :: true :: true :: true :: true :: true :: true :: true :: true :: true :: true :: false :: true :: false :: true :: false :: true :: true :: true :: true :: true :: true :: false :: true :: true :: true :: true :: true :: false :: true :: true :: true :: true :: true :: true :: true :: []) PySem.Challenge.rw_np0200_01.prog.main.body } := ⟨_ :: _ :: _ :: _ :: _ :: _ :: _ :: _ :: _ :: _ :: _ :: _ :: _ :: _ :: _ :: _ :: _ :: _ :: _ :: _ :: _ :: _ :: _ :: _ :: _ :: _ :: _ :: _ :: _ :: _ :: _ :: _ :: _ :: _ :: _ :: _ :: _ :: _ :: _ :: _ :: _ :: _ :: _ :: _ :: _ :: _ :: _ :: _ :: _ :: _ :: _ :: _ :: _ :: _ :: _ :: [], rfl⟩
noncomputable def viewQ : Program := { PySem.Challenge.rw_np0200_01.prog with main := { PySem.Challenge.rw_np0200_01.prog.main with body := viewB.1 } }

/-- what is asked of the top's end -/
noncomputable def endsBy {β : Type} (p : Program) (w : World) (m₀ : Nat) (ann : Option Value) (M : Nat) (S : SharedT) (t t' : Thread) (g : Shared → β) :=
  (PySem.W.Fast.tw10110043849684766642 PySem.W.Fast.tw14364793385576792824 p w m₀ ann 1 M S t).map fun r => (r.1, r.2.2.1, r.2.2.2, (PySem.W.Fast.tw14082659384304107361 PySem.W.Fast.tw14364793385576792824 p w m₀ ann 2 r.2.1.abs t').map g)
theorem ends_by {β : Type} {p : Program} {w : World} {m₀ : Nat} {ann : Option Value} {M : Nat} {S : SharedT} {t t' : Thread} {g : Shared → β} {f : Flow} {c : Code} {q : Pos} {y : β} (h : endsBy p w m₀ ann M S t t' g = some (f, c, q, some y)) :
    ∃ s' s₁, segRunT treeTable p w m₀ ann 1 M S t = some (f, s', c, q) ∧ topRun treeTable p w m₀ ann 2 s'.abs t' = some s₁ ∧ g s₁ = y := by
  unfold endsBy at h
  rw [← PySem.W.Fast.te10110043849684766642, ← PySem.W.Fast.te14364793385576792824, ← PySem.W.Fast.te14082659384304107361] at h
  obtain ⟨⟨f', s', c', q'⟩, r1, r2⟩ := Option.map_eq_some_iff.mp h
  obtain ⟨e1, e2⟩ := Prod.mk.inj r2
  obtain ⟨e2, e3⟩ := Prod.mk.inj e2
  obtain ⟨e3, e4⟩ := Prod.mk.inj e3
  obtain rfl : f' = f := e1
  obtain rfl : c' = c := e2
  obtain rfl : q' = q := e3
  obtain ⟨s₁, k0, e⟩ := Option.map_eq_some_iff.mp e4
  exact ⟨s', s₁, r1, k0, e⟩
/-- the top in one piece over a tree of objects -/
theorem left_tree {p q : Program} {loose : List Str} {Xt : Shared → Bool} {α : Type} {Yf : Shared → α} {Ya : World → α} {N M m₀ : Nat} {ann : Option Value} {b : List Stmt} {env : Env} {z pos1 : Pos} {S : World → OsState → SharedT}
    (open_ : ∀ w : World, (fencedOpening treeTable p w N).map (fun s => (s.heap, s.gens, s.drawn, s.toks)) = some (boot_heap w.params, Array.mk [], boot_drawn, boot_toks))
    (size : ∀ w : World, ((boot_heap w.params).isNs mainGlobals, (boot_heap w.params).objs.size, (boot_heap w.params).nsMap mainGlobals "__annotations__") = (true, m₀, ann))
    (pre : ∀ (w : World) (os : OsState), topGo treeTable p w m₀ ann 12 ⟨boot_heap w.params, Array.mk [], boot_drawn, boot_toks, os⟩ (topStub p) = some ((S w os).abs, ⟨denote treeTable (.body b env), .body b env, z, [topFrame z]⟩))
    (block : ∀ (w : World) (os : OsState), segRun treeTable p w m₀ ann 1 1 (S w os).abs (blockOf b env (.body b env) z [topFrame z]) = some (.next, (S w os).abs, .body b env, z))
    (run1 : ∀ (w : World) (os : OsState), endsBy p w m₀ ann M (S w os) (piecesOf b env (.body b env) z [topFrame z]) ⟨doneF .next, .body b env, pos1, [topFrame z]⟩
      (fun s₁ => let o := PySem.W.Fast.tw4187177175401517315 q loose (PySem.W.Fast.tw5923862056798008813 p.main.body) Xt true s₁; (staticsOk (importedModules p.main.body) (boot_heap w.params) s₁.heap && namesBound p s₁.heap && gensDone s₁ && laidKept (boot_heap w.params) s₁.heap, o.1, o.2.1, o.2.2.1)) = some (.next, .body b env, pos1, some (true, expectedOf q, bltViewBooted, true)))
    (run3 : ∀ (w : World) (os : OsState), endsBy p w m₀ ann M (S w os) (piecesOf b env (.body b env) z [topFrame z]) ⟨doneF .next, .body b env, pos1, [topFrame z]⟩
      (fun s₁ => (PySem.W.Fast.tw4187177175401517315 q loose (PySem.W.Fast.tw5923862056798008813 p.main.body) Xt true s₁).2.2.2) = some (.next, .body b env, pos1, some (true, pinGoodD (drecsOf q), plainGoodE q (looseW q loose), plainGoodD q loose, wideGood q, clsGoodW q loose)))
    (run2 : ∀ (w : World) (os : OsState), endsBy p w m₀ ann M (S w os) (piecesOf b env (.body b env) z [topFrame z]) ⟨doneF .next, .body b env, pos1, [topFrame z]⟩ Yf = some (.next, .body b env, pos1, some (Ya w)))
    (le : 12 + (1 + (M + 2)) ≤ N) : LeftO p q loose Xt Yf Ya N := fun w => by
  obtain ⟨⟨h, gs, d, k, os⟩, e, e'⟩ := Option.map_eq_some_iff.mp (open_ w)
  obtain ⟨rfl, rfl, rfl, rfl⟩ : h = boot_heap w.params ∧ gs = Array.mk [] ∧ d = boot_drawn ∧ k = boot_toks := by simpa using e'
  obtain ⟨z1, z2, z3⟩ : _ ∧ _ ∧ _ := by simpa only [Prod.mk.injEq] using size w
  obtain ⟨s', s₁, r1, k0, g1⟩ := ends_by (run1 w os)
  obtain ⟨s2, s3, r2, k2, g2⟩ := ends_by (run2 w os)
  obtain ⟨s4, s5, r4, k4, g4⟩ := ends_by (run3 w os)
  obtain rfl : s' = s2 := by rw [r1] at r2; injection r2 with e; injection e with _ e; injection e
  obtain rfl : s₁ = s3 := by rw [k0] at k2; injection k2
  obtain rfl : s' = s4 := by rw [r1] at r4; injection r4 with e; injection e with _ e; injection e
  obtain rfl : s₁ = s5 := by rw [k0] at k4; injection k4
  dsimp only at g1
  obtain ⟨hb, g1⟩ := Prod.mk.inj g1
  obtain ⟨e1, g1⟩ := Prod.mk.inj g1
  obtain ⟨e2, e3⟩ := Prod.mk.inj g1
  have g1 : PySem.W.Fast.tw4187177175401517315 q loose (PySem.W.Fast.tw5923862056798008813 p.main.body) Xt true s₁ = openGood q loose := Prod.ext e1 (Prod.ext e2 (Prod.ext e3 g4))
  rw [← PySem.W.Fast.te4187177175401517315, ← PySem.W.Fast.te5923862056798008813] at g1
  have k1 := piece_app (rest := []) (segRun_of r1) (piece_nil k0)
  rw [List.append_nil] at k1
  have k2 := go_top (pre w os) (piece_block (block w os) k1)
  have k3 := topRun_mono (N - (12 + (1 + (M + 2)))) _ _ _ _ k2
  rw [Nat.add_sub_cancel' le] at k3
  unfold openEnds
  rw [e]
  show (topFrom treeTable p w N _).map _ = _
  unfold topFrom
  dsimp only
  rw [z1, z2, z3, k3]
  show ((some s₁).bind _).map _ = _
  rw [Option.bind_some, hb]
  exact congrArg some (Prod.ext g1 g2)
def z0 : Pos := ⟨0, 0, 0, 0⟩
noncomputable def env0 : Env := { scope := PySem.Challenge.rw_np0200_01.row.prog.main.scope, locals := mainNs, globals := mainNs, cells := [], code := Value.ref 13, frame := some 14 }
noncomputable def bootT (P : Params) : BT :=
  .node (boot_o_0 P)
    (.node (boot_o_1 P)
      (.node (boot_o_3 P) (.node (boot_o_7 P) .nil .nil) (.node { cls := Value.type "tuple", data := Data.seq #[] } .nil .nil))
      (.node (boot_o_5 P) (.node (boot_o_9 P) .nil .nil) (.node { cls := Value.type "code", data := Data.fields #[.str "<module>" 182, .str "<module>" 183, .str "/claim/cut.py" 184, .int 1 0, .int 0 0, .int 0 0, .int 0 0, .int 0 0, .ref 11, .bool false, .int 181 0, .ref 12, .none, .none, .none, .none, .int 185 0, .int 1 0, .str "/claim/cut.py" 186] } .nil .nil)))
    (.node (boot_o_2 P)
      (.node (boot_o_4 P) (.node (boot_o_8 P) .nil .nil) (.node { cls := Value.none, data := Data.fields #[] } .nil .nil))
      (.node (boot_o_6 P) (.node (boot_o_10 P) .nil .nil) (.node { cls := Value.type "frame", slots := #[some (.ref 13), some (.ref 3), some (.ref 3), none, some (.str "__main__" 164), none, some (.ref 0)] } .nil .nil)))
noncomputable def s15 (w : World) (os : OsState) : SharedT := { tree := bootT w.params, n := 15, life := {}, gens := Array.mk [], drawn := boot_drawn, toks := 187, os := os }
noncomputable def b0 : List Stmt := behindTheImports PySem.Challenge.rw_np0200_01.row.prog
set_option maxRecDepth 100000 in
theorem size0 (w : World) : ((boot_heap w.params).isNs mainGlobals, (boot_heap w.params).objs.size, (boot_heap w.params).nsMap mainGlobals "__annotations__") = (true, 11, some (.ref 6)) := by kernel_rfl
set_option maxRecDepth 100000 in
theorem pre0 (w : World) (os : OsState) : topGo treeTable PySem.Challenge.rw_np0200_01.row.prog w 11 (some (.ref 6)) 12 ⟨boot_heap w.params, Array.mk [], boot_drawn, boot_toks, os⟩ (topStub PySem.Challenge.rw_np0200_01.row.prog) = some ((s15 w os).abs, ⟨denote treeTable (.body b0 env0), .body b0 env0, z0, [topFrame z0]⟩) := by kernel_rfl
set_option maxRecDepth 100000 in
theorem block0 (w : World) (os : OsState) : segRun treeTable PySem.Challenge.rw_np0200_01.row.prog w 11 (some (.ref 6)) 1 1 (s15 w os).abs (blockOf b0 env0 (.body b0 env0) z0 [topFrame z0]) = some (.next, (s15 w os).abs, .body b0 env0, z0) := by kernel_rfl
set_option maxRecDepth 100000 in
theorem run0 (w : World) (os : OsState) : endsBy PySem.Challenge.rw_np0200_01.row.prog w 11 (some (.ref 6)) 2037 (s15 w os) (piecesOf b0 env0 (.body b0 env0) z0 [topFrame z0]) ⟨doneF .next, .body b0 env0, ⟨313, 0, 325, 115⟩, [topFrame z0]⟩
    (fun s₁ => let o := PySem.W.Fast.tw4187177175401517315 viewQ [] (PySem.W.Fast.tw5923862056798008813 PySem.Challenge.rw_np0200_01.row.prog.main.body) (fun s => xlAt viewQ [] s && recOk (RowW.records (OpenRow.toRowW (OpenLaw.row PySem.Challenge.rw_np0200_01))) s) true s₁; (staticsOk (importedModules PySem.Challenge.rw_np0200_01.row.prog.main.body) (boot_heap w.params) s₁.heap && namesBound PySem.Challenge.rw_np0200_01.row.prog s₁.heap && gensDone s₁ && laidKept (boot_heap w.params) s₁.heap, o.1, o.2.1, o.2.2.1)) = some (.next, .body b0 env0, ⟨313, 0, 325, 115⟩, some (true, expectedOf viewQ, bltViewBooted, true)) := by kernel_rfl
set_option maxRecDepth 100000 in
theorem run1 (w : World) (os : OsState) : endsBy PySem.Challenge.rw_np0200_01.row.prog w 11 (some (.ref 6)) 2037 (s15 w os) (piecesOf b0 env0 (.body b0 env0) z0 [topFrame z0]) ⟨doneF .next, .body b0 env0, ⟨313, 0, 325, 115⟩, [topFrame z0]⟩
    (fun s₁ => (PySem.W.Fast.tw4187177175401517315 viewQ [] (PySem.W.Fast.tw5923862056798008813 PySem.Challenge.rw_np0200_01.row.prog.main.body) (fun s => xlAt viewQ [] s && recOk (RowW.records (OpenRow.toRowW (OpenLaw.row PySem.Challenge.rw_np0200_01))) s) true s₁).2.2.2) = some (.next, .body b0 env0, ⟨313, 0, 325, 115⟩, some (true, pinGoodD (drecsOf viewQ), plainGoodE viewQ (looseW viewQ []), plainGoodD viewQ [], wideGood viewQ, clsGoodW viewQ [])) := by kernel_rfl
set_option maxRecDepth 100000 in
theorem saidR : PySem.W.Fast.tw17960256430627541270 (PySem.W.Fast.tw2368527892694137696 PySem.Challenge.rw_np0200_01) = true := by kernel_rfl
set_option maxRecDepth 100000 in
theorem said0 : PySem.W.Fast.tw9446332074065402090 PySem.Challenge.rw_np0200_01 = true := by
  unfold PySem.W.Fast.tw9446332074065402090
  rw [saidR]
  kernel_rfl
theorem said : OpenLaw.wellSaid PySem.Challenge.rw_np0200_01 = true := by rw [PySem.W.Fast.te9446332074065402090]; exact said0
theorem opened : ∀ w : World, (fencedOpening treeTable PySem.Challenge.rw_np0200_01.row.prog w 4184).map (fun s => (s.heap, s.gens, s.drawn, s.toks)) = some (boot_heap w.params, Array.mk [], boot_drawn, boot_toks) :=
  boot_open (by kernel_rfl) (by decide) (fun s => by kernel_rfl)
local macro_rules | `(tactic| o_law) => `(tactic| (refine holds_law said fun said => ?_))
local macro_rules | `(tactic| o_head $H) => `(tactic| (
  have left : LeftO PySem.Challenge.rw_np0200_01.row.prog viewQ [] (fun s => xlAt viewQ [] s && recOk (RowW.records (OpenRow.toRowW (OpenLaw.row PySem.Challenge.rw_np0200_01))) s) (Hook.obs $H) (Hook.val $H) 4184 := left_tree (m₀ := 11) (ann := some (.ref 6)) (M := 2037) (b := b0) (env := env0) (z := z0) (pos1 := ⟨313, 0, 325, 115⟩) (S := s15) opened size0 pre0 block0 run0 run1 (fun w os => by kernel_rfl) (by decide)
  refine Hz.PySem.W.holds_open (q := viewQ) (loose := []) (Xt := fun s => xlAt viewQ [] s && recOk (RowW.records (OpenRow.toRowW (OpenLaw.row PySem.Challenge.rw_np0200_01))) s) (XP := XL viewQ []) (Yf := Hook.obs $H) (Ya := Hook.val $H) (YP := Hook.says $H) (N := 4184)
    left (Hook.of $H) (Hook.keeps $H) (fun s e => xl_of s (Bool.and_eq_true_iff.mp e).1) XL.keeps (by rfl) (by rfl) (by rfl) (fun s e => recFacts_of (Bool.and_eq_true_iff.mp e).2) (by rfl) (by first | assumption | decide +kernel) (by decide +kernel) ⟨rfl, rfl, rfl, rfl, rfl, by decide +kernel⟩ ?hw ?hc))
set_option maxRecDepth 100000 in
set_option maxHeartbeats 8000000 in
open_top hd for PySem.Challenge.rw_np0200_01
end Hz
end

section
namespace Np
open PySem PySem.W PySem.Spec PySem.Calls PyProof.Rows
namespace Fa
theorem plainAttrs : PlainAttrs "bytearray" :=
  ⟨⟨"bytearray.__getattribute__", by rw [typeLookup_type, builtinLookup_eq_fast]; kernel_rfl, by decide +kernel⟩, by rw [typeLookup_type, builtinLookup_eq_fast]; kernel_rfl⟩
theorem slot_append : Slot "bytearray" "append" "bytearray.append" :=
  .of (owner := "bytearray") (n := "append") (by rw [typeLookup_type, builtinLookup_eq_fast]; kernel_rfl) (by decide +kernel) (by decide +kernel) (by decide +kernel)
    (by first | exact .inl (by decide +kernel) | exact .inr (by decide +kernel)) (by rw [isSubtype_type]; kernel_rfl)
theorem slot_extend : Slot "bytearray" "extend" "bytearray.extend" :=
  .of (owner := "bytearray") (n := "extend") (by rw [typeLookup_type, builtinLookup_eq_fast]; kernel_rfl) (by decide +kernel) (by decide +kernel) (by decide +kernel)
    (by first | exact .inl (by decide +kernel) | exact .inr (by decide +kernel)) (by rw [isSubtype_type]; kernel_rfl)
theorem slot_len : Slot "bytearray" "__len__" "bytearray.__len__" :=
  .of (owner := "bytearray") (n := "__len__") (by rw [typeLookup_type, builtinLookup_eq_fast]; kernel_rfl) (by decide +kernel) (by decide +kernel) (by decide +kernel)
    (by first | exact .inl (by decide +kernel) | exact .inr (by decide +kernel)) (by rw [isSubtype_type]; kernel_rfl)
theorem slot_getitem : Slot "bytearray" "__getitem__" "bytearray.__getitem__" :=
  .of (owner := "bytearray") (n := "__getitem__") (by rw [typeLookup_type, builtinLookup_eq_fast]; kernel_rfl) (by decide +kernel) (by decide +kernel) (by decide +kernel)
    (by first | exact .inl (by decide +kernel) | exact .inr (by decide +kernel)) (by rw [isSubtype_type]; kernel_rfl)
theorem slot_setitem : Slot "bytearray" "__setitem__" "bytearray.__setitem__" :=
  .of (owner := "bytearray") (n := "__setitem__") (by rw [typeLookup_type, builtinLookup_eq_fast]; kernel_rfl) (by decide +kernel) (by decide +kernel) (by decide +kernel)
    (by first | exact .inl (by decide +kernel) | exact .inr (by decide +kernel)) (by rw [isSubtype_type]; kernel_rfl)
theorem slot_init : Slot "bytearray" "__init__" "bytearray.__init__" :=
  .of (owner := "bytearray") (n := "__init__") (by rw [typeLookup_type, builtinLookup_eq_fast]; kernel_rfl) (by decide +kernel) (by decide +kernel) (by decide +kernel)
    (by first | exact .inl (by decide +kernel) | exact .inr (by decide +kernel)) (by rw [isSubtype_type]; kernel_rfl)
theorem slot_release : Slot "bytearray" "__release_buffer__" "bytearray.__release_buffer__" :=
  .of (owner := "bytearray") (n := "__release_buffer__") (by rw [typeLookup_type, builtinLookup_eq_fast]; kernel_rfl) (by decide +kernel) (by decide +kernel) (by decide +kernel)
    (by first | exact .inl (by decide +kernel) | exact .inr (by decide +kernel)) (by rw [isSubtype_type]; kernel_rfl)
theorem slot_buffer : Slot "bytearray" "__buffer__" "bytearray.__buffer__" :=
  .of (owner := "bytearray") (n := "__buffer__") (by rw [typeLookup_type, builtinLookup_eq_fast]; kernel_rfl) (by decide +kernel) (by decide +kernel) (by decide +kernel)
    (by first | exact .inl (by decide +kernel) | exact .inr (by decide +kernel)) (by rw [isSubtype_type]; kernel_rfl)
theorem type_append : typeOf (.builtin "bytearray.append") = pure (.type "method_descriptor") := by show builtinType _ = _; rw [builtinType_eq_fast]; kernel_rfl
theorem type_extend : typeOf (.builtin "bytearray.extend") = pure (.type "method_descriptor") := by show builtinType _ = _; rw [builtinType_eq_fast]; kernel_rfl
theorem entry_append : entryFor table "bytearray.append" = some Builtin.«bytearray.append» := entryFor_of_tree (by kernel_rfl)
theorem entry_extend : entryFor table "bytearray.extend" = some Builtin.«bytearray.extend» := entryFor_of_tree (by kernel_rfl)
theorem entry_len : entryFor table "bytearray.__len__" = some Builtin.«bytearray.__len__» := entryFor_of_tree (by kernel_rfl)
theorem entry_getitem : entryFor table "bytearray.__getitem__" = some Builtin.«bytearray.__getitem__» := entryFor_of_tree (by kernel_rfl)
theorem entry_setitem : entryFor table "bytearray.__setitem__" = some Builtin.«bytearray.__setitem__» := entryFor_of_tree (by kernel_rfl)
theorem entry_init : entryFor table "bytearray.__init__" = some Builtin.«bytearray.__init__» := entryFor_of_tree (by kernel_rfl)
theorem entry_new : entryFor table "bytearray.__new__" = some Builtin.«list.__new__» :=
  entryFor_alias (id' := "list.__new__") (by rw [fastTable_eq_tree]; kernel_rfl) (by first | rfl | decide +kernel) (by decide +kernel) (by rw [fastTable_eq_tree]; kernel_rfl)
theorem owner : Manifest.owners.lookup (String.ofList ['y', 'a', 'r', 'r', 'a', 'e', 't', 'y', 'b'].reverse) = some Manifest.sig_bytearray := by kernel_rfl
theorem args_append (a b : Value) : argsOk "bytearray.append" ⟨[a, b], []⟩ := by
  unfold argsOk; rw [signature?_of (id := "bytearray.append") (n := ['d', 'n', 'e', 'p', 'p', 'a']) (o := ['y', 'a', 'r', 'r', 'a', 'e', 't', 'y', 'b']) (by kernel_rfl) owner]; kernel_rfl
theorem args_extend (a b : Value) : argsOk "bytearray.extend" ⟨[a, b], []⟩ := by
  unfold argsOk; rw [signature?_of (id := "bytearray.extend") (n := ['d', 'n', 'e', 't', 'x', 'e']) (o := ['y', 'a', 'r', 'r', 'a', 'e', 't', 'y', 'b']) (by kernel_rfl) owner]; kernel_rfl
theorem args_len (a : Value) : argsOk "bytearray.__len__" ⟨[a], []⟩ := by
  unfold argsOk; rw [signature?_of (id := "bytearray.__len__") (n := ['_', '_', 'n', 'e', 'l', '_', '_']) (o := ['y', 'a', 'r', 'r', 'a', 'e', 't', 'y', 'b']) (by kernel_rfl) owner]; kernel_rfl
theorem args_getitem (a b : Value) : argsOk "bytearray.__getitem__" ⟨[a, b], []⟩ := by
  unfold argsOk; rw [signature?_of (id := "bytearray.__getitem__") (n := ['_', '_', 'm', 'e', 't', 'i', 't', 'e', 'g', '_', '_']) (o := ['y', 'a', 'r', 'r', 'a', 'e', 't', 'y', 'b']) (by kernel_rfl) owner]; kernel_rfl
theorem args_setitem (a b c : Value) : argsOk "bytearray.__setitem__" ⟨[a, b, c], []⟩ := by
  unfold argsOk; rw [signature?_of (id := "bytearray.__setitem__") (n := ['_', '_', 'm', 'e', 't', 'i', 't', 'e', 's', '_', '_']) (o := ['y', 'a', 'r', 'r', 'a', 'e', 't', 'y', 'b']) (by kernel_rfl) owner]; kernel_rfl
theorem args_init (a : Value) : argsOk "bytearray.__init__" ⟨[a], []⟩ := by
  unfold argsOk; rw [signature?_of (id := "bytearray.__init__") (n := ['_', '_', 't', 'i', 'n', 'i', '_', '_']) (o := ['y', 'a', 'r', 'r', 'a', 'e', 't', 'y', 'b']) (by kernel_rfl) owner]; kernel_rfl
theorem mro : mroOf (.type "bytearray") = pure [.type "bytearray", .type "object"] := by rw [mroOf_type]; kernel_rfl
theorem lookup_new : typeLookup (.type "bytearray") "__new__" = pure (some (.builtin "bytearray.__new__")) := by rw [typeLookup_type, builtinLookup_eq_fast]; kernel_rfl
theorem called : TypeCalled "bytearray" "bytearray.__new__" "bytearray.__init__" :=
  ⟨by decide +kernel, by decide +kernel, ⟨_, _, mro⟩, madeBy_type mro lookup_new (by decide +kernel), by decide +kernel, by rw [isSubtype_type]; kernel_rfl, slot_init⟩
theorem typeCall : checkTypeCall "bytearray" ⟨[], []⟩ = pure () := by kernel_rfl
theorem newCall : checkBuiltinCall "bytearray.__new__" ⟨[.type "bytearray"], []⟩ = pure () := by kernel_rfl
theorem plain_new : plainId "bytearray.__new__" = true := by decide +kernel
theorem sub : isSubtype (.type "bytearray") (.type "bytearray") = pure true := by rw [isSubtype_type]; kernel_rfl
theorem noBytes : typeLookup (.type "bytearray") "__bytes__" = pure none := by rw [typeLookup_type, builtinLookup_eq_fast]; kernel_rfl
theorem noIndex : typeLookup (.type "bytearray") "__index__" = pure none := by rw [typeLookup_type, builtinLookup_eq_fast]; kernel_rfl
end Fa
set_option maxRecDepth 1000000 in
set_option maxHeartbeats 4000000 in
theorem Fa.owner_new : ("bytearray.__new__".splitOn ".__new__").headD "" = "bytearray" := by simp +decide [String.splitOn, String.splitOnAux]
end Np
end

section
namespace Np
open PySem PySem.W PySem.Spec PySem.Calls PyProof.Rows

/-- a bytearray of the call's own -/
abbrev baObj (l : List UInt8) : Obj := { cls := .type "bytearray", data := .bytearray l.toArray }

section
variable {α β : Type} {M : Model} {A : Around} {E : Value → Shared → Prop} {s : Shared} {c : Code}
theorem ok_id {id : String} {args : Args} (h : holders.contains id = false) : okCode (.builtin id args) = true := by
  show (!holders.contains id) = true
  rw [h]; rfl
theorem wpB_pure {a : α} {Q : α → Shared → Prop} (h : Q a s) : wpB M A c (pure a) Q E s := fun _ _ _ _ _ => h
theorem wpB_if_false {b : Bool} {x y : Sem α} {Q : α → Shared → Prop} (hb : b = false) (h : wpB M A c y Q E s) : wpB M A c (if b = true then x else y) Q E s := by subst hb; exact h

theorem exported_eq (self : Value) : ∃ f : Code × Pos → Bool, Builtin.Bytes.exported self = (stack >>= fun st => pure (st.any f)) ∧ ∀ x, okCode x.1 = true → f x = false := by
  refine ⟨_, rfl, fun x h => ?_⟩
  obtain ⟨c, p⟩ := x
  cases c with
  | builtin id args =>
    have h' : holders.contains id = false := by simpa [okCode] using h
    have hd : Builtin.Bytes.decodersThatHold.contains id = false := by
      simp only [holders, List.contains_eq_any_beq, List.any_append, Bool.or_eq_false_iff] at h'
      rw [List.contains_eq_any_beq]
      exact h'.2
    have hn : ∀ n ∈ ["bytearray.__contains__", "bytearray.__mod__", "bytearray.__rmod__", "_struct.pack_into.held", "bytearray.find.held"], id ≠ n := fun n hn e => by
      subst e
      have : holders.contains id = true := by
        simp only [holders, List.contains_eq_mem, decide_eq_true_eq]
        exact List.mem_append_left _ hn
      rw [this] at h'; cases h'
    clear h h'
    obtain ⟨pos, kw⟩ := args
    delta Builtin.Bytes.exported.match_1
    refine (dif_neg (hn _ (.head _))).trans ?_
    refine (dif_neg (hn _ (.tail _ (.head _)))).trans ?_
    refine (dif_neg (hn _ (.tail _ (.tail _ (.head _))))).trans ?_
    refine (dif_neg (hn _ (.tail _ (.tail _ (.tail _ (.head _)))))).trans ?_
    refine (dif_neg (hn _ (.tail _ (.tail _ (.tail _ (.tail _ (.head _))))))).trans ?_
    cases pos with
    | nil => rfl
    | cons v t => show (Builtin.Bytes.sameRef v self && Builtin.Bytes.decodersThatHold.contains id) = false; rw [hd, Bool.and_false]
  | _ => rfl

theorem wpB_exported {self : Value} {Q : Bool → Shared → Prop} (hok : okCode c = true) (h : Q false s) : wpB M A c (Builtin.Bytes.exported self) Q E s := by
  obtain ⟨f, e0, hf⟩ := exported_eq self
  rw [e0]
  refine wpB_bind (wpB_stack fun p below hb => wpB_pure ?_)
  have e : ((c, p) :: below).any f = false := List.any_eq_false.mpr fun x hx => by
    rw [hf _ ((List.mem_cons.mp hx).elim (fun q => q ▸ hok) (hb x))]; exact Bool.false_ne_true
  rw [e]; exact h

theorem wpB_checkResize {a : Addr} {b : Array UInt8} {o : Obj} {Q : Unit → Shared → Prop} (hok : okCode c = true) (ho : s.heap.get? a = some o) (hd : o.data = .bytearray b 0) (h : Q () s) : wpB M A c (Builtin.Bytes.checkResize (.ref a)) Q E s := by
  unfold Builtin.Bytes.checkResize
  refine wpB_bind ?_
  unfold orM
  refine wpB_bind (wpB_exported hok ?_)
  show wpB M A c (Builtin.Bytes.exportsOf (.ref a) >>= fun n => pure (decide (n > 0))) _ E s
  refine wpB_bind (wpB_of ?_)
  unfold Builtin.Bytes.exportsOf
  refine wpAny_bind (wpAny_load ho ?_)
  rw [hd]
  exact wpAny_pure (wpB_pure (wpB_if_false (by decide) (wpB_pure h)))
end

section
variable {M : Model} {A : Around} {E : Value → Shared → Prop} {s : Shared} {h₀ : Heap} {L D : Addr} {m : Str → Option Value} {news news' : List (Addr × Obj)} {l l' : List UInt8}
theorem wpAny_payload_ba {a : Addr} {Q : Array UInt8 → Shared → Prop} (ho : s.heap.get? a = some (baObj l)) (h : Q l.toArray s) : wpAny M A (Builtin.Bytes.payload (.ref a)) Q E s := by
  unfold Builtin.Bytes.payload Builtin.Bytes.payload?
  refine wpAny_bind (wpAny_bind (wpAny_load ho ?_))
  exact wpAny_pure (wpAny_pure h)
theorem wpAny_write_ba {f : Array UInt8 → Array UInt8} {Q : Unit → Shared → Prop} (F : Fr h₀ L s.heap m) (N : News h₀ L s.heap news) (U : Upd D (baObj l) (baObj l') news news') (hf : f l.toArray = l'.toArray) (hz : l'.length ≤ 16777216)
    (h : ∀ h', Fr h₀ L h' m → News h₀ L h' news' → Q () { s with heap := h' }) : wpAny M A (Builtin.Bytes.write (.ref D) f) Q E s := by
  obtain ⟨pre, post, rfl, rfl, a, b⟩ := U.split
  have z := N (D, baObj l) (List.mem_append.mpr (.inr (.head _)))
  show wpAny M A (updateBytearray D f) Q E s
  unfold updateBytearray
  refine wpAny_bind (wpAny_load z.1 ?_)
  show wpAny _ _ (update D (Obj.mapBytearray f) >>= fun _ => lookBehind D) _ _ _
  refine wpAny_bind (wpAny_update z.1 ?_)
  have hg : (s.heap.update D (Obj.mapBytearray f)).get? D = some (baObj l') := by
    have := Heap.get?_update_self (Obj.mapBytearray f) z.1 rfl
    rw [this]
    show some ({ cls := .type "bytearray", data := .bytearray (f l.toArray) } : Obj) = some (baObj l')
    rw [hf]
  have hs : Heap.SameBut D s.heap (s.heap.update D (Obj.mapBytearray f)) := Heap.SameBut.update ..
  refine wpAny_lookBehind hg ?_ (h _ (F.change hs z.2.1 z.2.2) (news_set N a b hs hg))
  show (if l'.toArray.size > sizeLine then some "bytearray:memory" else none) = none
  rw [if_neg]
  rw [List.size_toArray, sizeLine_eq]; (first | lia | omega)
theorem byteValue_eq {k : Int} {t : Tok} (h0 : 0 ≤ k) (h1 : k < 256) : Builtin.Bytes.byteValue (.int k t) = pure k.toNat.toUInt8 := by
  unfold Builtin.Bytes.byteValue
  show (do let i ← (pure k : Sem Int); _) = _
  rw [pure_bind, if_neg (by simp only [Bool.or_eq_true, decide_eq_true_eq, not_or]; (first | lia | omega))]
end

section
variable {prog : Program} {w : World} {A : Around} {E : Value → Shared → Prop} {s : Shared} {h₀ : Heap} {L D : Addr} {m : Str → Option Value} {news news' : List (Addr × Obj)} {l : List UInt8}

theorem ba_type (N : News h₀ L s.heap news) (hm : (D, baObj l) ∈ news) : s.TypeIs (.ref D) "bytearray" := ⟨_, N.get hm, rfl⟩
theorem upd_mem {d : Addr} {o o' : Obj} : ∀ {l l' : List (Addr × Obj)}, Upd d o o' l l' → (d, o) ∈ l
  | _, _, .head _ => .head _
  | _, _, .tail _ r => .tail _ (upd_mem r)

/-- a builtin of a bytearray's, run on a clean stack -/
theorem call_builtinC {id : String} {name : Str} {b : Builtin} {self : Value} {rest : List Value} {Q : Value → Shared → Prop} (slot : Slot "bytearray" name id) (hT : s.TypeIs self "bytearray") (he : entryFor table id = some b) (ha : argsOk id ⟨self :: rest, []⟩)
    (h : wpB (model prog w) A (.builtin id ⟨self :: rest, []⟩) (b ⟨self :: rest, []⟩) (fun fin s' => ∃ v, fin = .done (.ret v) ∧ Q v s') (fun _ _ => False) s) :
    wpC (model prog w) A (call (.builtin id) (self :: rest)) Q E s := by
  refine wpC_call (codeC_tree ?_)
  show wpAny _ A.in1 (do checkBuiltinCall id ⟨self :: rest, []⟩; again (.builtin id ⟨self :: rest, []⟩)) _ _ s
  refine wpAny_bind (slot.check _ _ _ _ _ _ _ _ hT ha (wpAny_pure ⟨plainId_quiet slot.plain _, codeC_treeB ?_⟩))
  show wpB _ _ _ (match entryFor table id with | some b => b _ | none => unsupported ((withoutEnding? id "#data").getD id)) _ _ s
  rw [he]
  intro Γ p hc hΓ hb
  refine Sem.wp_mono _ Γ _ (fun fin p' s' h' => ?_) (fun _ _ _ h' => h'.elim) p s (h Γ p hc hΓ hb)
  obtain ⟨v, rfl, hv⟩ := h'
  exact hv

theorem append_C {k : Int} {t : Tok} {Q : Value → Shared → Prop} (F : Fr h₀ L s.heap m) (N : News h₀ L s.heap news) (U : Upd D (baObj l) (baObj (l ++ [k.toNat.toUInt8])) news news') (h0 : 0 ≤ k) (h1 : k < 256) (hz : l.length < 16777216)
    (h : ∀ h', Fr h₀ L h' m → News h₀ L h' news' → Q .none { s with heap := h' }) : wpC (model prog w) A (call (.builtin "bytearray.append") [.ref D, .int k t]) Q E s := by
  refine call_builtinC Fa.slot_append (ba_type N (upd_mem U)) Fa.entry_append (Fa.args_append _ _) ?_
  show wpB _ _ _ (pure (Value.ref D, Value.int k t) >>= fun r => _) _ _ s
  refine wpB_bind (wpB_pure ?_)
  show wpB _ _ _ (Builtin.Bytes.byteValue (.int k t) >>= fun c => _) _ _ s
  rw [byteValue_eq h0 h1]
  refine wpB_bind (wpB_pure ?_)
  refine wpB_bind (wpB_checkResize (ok_id (by decide +kernel)) (N.get (upd_mem U)) rfl ?_)
  refine wpB_bind (wpB_of (wpAny_write_ba F N U (by simp) (by rw [List.length_append]; simp; (first | lia | omega)) fun h' F' N' => ?_))
  exact wpB_pure ⟨_, rfl, h h' F' N'⟩

theorem take_bytes {b : Array UInt8} {t : Tok} {id : String} : Builtin.Bytes.takeBufferQuiet? id (.bytes b t) 0 = pure (some (b, none)) := by
  unfold Builtin.Bytes.takeBufferQuiet? Builtin.Bytes.takeBuffer?
  rw [KBy.special_eq KBy.look_buffer, KBy.own_buffer]
  simp only [pure_bind]
  show (do let r ← Sem.attempt (do let __do_lift ← Builtin.Bytes.buffer? id (Value.bytes b t) _; pure _); _) = _
  have e : ∀ f, Builtin.Bytes.buffer? id (Value.bytes b t) f = pure (some b) := fun f => by
    unfold Builtin.Bytes.buffer?
    rw [KBy.special_eq KBy.look_buffer, KBy.own_buffer, KBy.own_release]
    kernel_rfl
  rw [e]
  rfl

theorem extend_C {x : List UInt8} {t : Tok} {Q : Value → Shared → Prop} (F : Fr h₀ L s.heap m) (N : News h₀ L s.heap news) (U : Upd D (baObj l) (baObj (l ++ x)) news news') (hz : l.length + x.length ≤ 16777216)
    (h : ∀ h', Fr h₀ L h' m → News h₀ L h' news' → Q .none { s with heap := h' }) : wpC (model prog w) A (call (.builtin "bytearray.extend") [.ref D, .bytes x.toArray t]) Q E s := by
  refine call_builtinC Fa.slot_extend (ba_type N (upd_mem U)) Fa.entry_extend (Fa.args_extend _ _) ?_
  show wpB _ _ _ (pure (Value.ref D, Value.bytes x.toArray t) >>= fun r => _) _ _ s
  refine wpB_bind (wpB_pure ?_)
  show wpB _ _ _ (specialOf (.bytes x.toArray t) "__buffer__" >>= fun r => _) _ _ s
  rw [KBy.special_eq KBy.look_buffer]
  refine wpB_bind (wpB_pure ?_)
  show wpB _ _ _ (Builtin.Bytes.payload (.ref D) >>= fun r => _) _ _ s
  refine wpB_bind (wpB_of (wpAny_payload_ba (N.get (upd_mem U)) ?_))
  show wpB _ _ _ (Builtin.Bytes.takeBufferQuiet? "bytearray.extend" (.bytes x.toArray t) 0 >>= fun r => _) _ _ s
  rw [take_bytes]
  refine wpB_bind (wpB_pure ?_)
  have go : wpB (model prog w) A (.builtin "bytearray.extend" ⟨[.ref D, .bytes x.toArray t], []⟩) (Builtin.Bytes.write (.ref D) (· ++ x.toArray) >>= fun _ => PySem.ret .none) (fun fin s' => ∃ v, fin = .done (.ret v) ∧ Q v s') (fun _ _ => False) s :=
    wpB_bind (wpB_of (wpAny_write_ba F N U (by simp) (by rw [List.length_append]; (first | lia | omega)) fun h' F' N' => wpB_pure ⟨_, rfl, h h' F' N'⟩))
  show wpB _ _ _ (if (!x.toArray.isEmpty) = true then (Builtin.Bytes.checkResize (.ref D) >>= fun _ => _) else _) _ _ s
  by_cases hx : (!x.toArray.isEmpty) = true
  · rw [if_pos hx]
    exact wpB_bind (wpB_checkResize (ok_id (by decide +kernel)) (N.get (upd_mem U)) rfl go)
  · rw [if_neg hx]
    exact go
end
end Np
end

section
namespace Np
open PySem PySem.W PySem.Spec PySem.Calls PyProof.Rows
section
variable {α β : Type} {M : Model} {A : Around} {E : Value → Shared → Prop} {s : Shared} {c : Code}
theorem wpC_if_false {b : Bool} {x y : Sem α} {Q : α → Shared → Prop} (hb : b = false) (h : wpC M A y Q E s) : wpC M A (if b = true then x else y) Q E s := by subst hb; exact h
theorem wpC_bindE {m : Sem α} {a : α} {f : α → Sem β} {Q : β → Shared → Prop} (e : m = pure a) (h : wpC M A (f a) Q E s) : wpC M A (m >>= f) Q E s := by subst e; exact wpC_bind (wpC_pure h)
end
section
variable {prog : Program} {w : World} {A : Around} {E : Value → Shared → Prop} {s : Shared} {h₀ : Heap} {L D : Addr} {m : Str → Option Value} {news news' : List (Addr × Obj)} {l : List UInt8}
theorem ba_init_C {a : Addr} {Q : Value → Shared → Prop} {A : Around} (F : Fr h₀ L s.heap m) (N : News h₀ L s.heap ((a, baObj []) :: news)) (hn : ∀ p ∈ news, p.1 ≠ a)
    (h : ∀ h', Fr h₀ L h' m → News h₀ L h' ((a, baObj []) :: news) → Q .none { s with heap := h' }) : wpC (model prog w) A (call (.builtin "bytearray.__init__") [.ref a]) Q E s := by
  refine call_builtinC Fa.slot_init (ba_type N (.head _)) Fa.entry_init (Fa.args_init _) ?_
  have hT : s.TypeIs (.ref a) "bytearray" := ba_type N (.head _)
  have ho : s.heap.get? a = some (baObj []) := N.get (.head _)
  unfold Builtin.«bytearray.__init__»
  show wpB _ _ _ (Builtin.Bytes.ownRelease (.ref a) >>= fun r => _) _ _ s
  refine wpB_bind (wpB_of ?_)
  unfold Builtin.Bytes.ownRelease Builtin.Bytes.slotIsOwn
  refine wpAny_bind (wpAny_bind (wpAny_specialOf hT Fa.slot_release.lookup ?_))
  show wpAny _ _ (if (!"bytearray.__release_buffer__".endsWith ("." ++ "__release_buffer__")) = true then _ else _) _ _ _
  rw [if_neg (by decide +kernel)]
  set_option linter.deprecated false in
  have hx : (String.dropRight "bytearray.__release_buffer__" (String.length "__release_buffer__" + 1)) = "bytearray" := by decide +kernel
  rw [hx]
  refine wpAny_isInstance hT Fa.sub (wpAny_pure ?_)
  refine wpB_if_false rfl ?_
  have hb : Builtin.Bytes.bindOptional "bytearray.__init__" "bytearray" ["source", "encoding", "errors"] [] [] = pure [none, none, none] := by kernel_rfl
  show wpB _ _ _ (Builtin.Bytes.bindOptional "bytearray.__init__" "bytearray" ["source", "encoding", "errors"] [] [] >>= fun r => _) _ _ s
  rw [hb]
  refine wpB_bind (wpB_pure ?_)
  refine wpB_bind (wpB_pure ?_)
  refine wpB_bind (wpB_pure ?_)
  refine wpB_bind ?_
  unfold orM
  refine wpB_bind (wpB_exported (ok_id (by decide +kernel)) ?_)
  show wpB _ _ _ (Builtin.Bytes.exportsOf (.ref a) >>= fun n => pure (decide (n > 0))) _ _ s
  refine wpB_bind (wpB_of ?_)
  unfold Builtin.Bytes.exportsOf
  refine wpAny_bind (wpAny_load ho ?_)
  refine wpAny_pure (wpB_pure (wpB_if_false (by decide) ?_))
  refine wpB_bind (wpB_of (wpAny_write_ba (l' := []) F N (.head hn) rfl (by simp) fun h' F' N' => ?_))
  exact wpB_bind (wpB_pure (wpB_pure ⟨_, rfl, h h' F' N'⟩))

theorem codeC_builtin {id : String} {args : Args} {b : Builtin} {R : Result → Shared → Prop} (hok : holders.contains id = false) (hb : entryFor table id = some b)
    (h : wpC (model prog w) (A.under (.builtin id args)) (b args) (fun fin s' => match fin with | .done f => R (.ok f) s' | .again c' => c'.quiet = true ∧ codeC (model prog w) A c' R s') (fun e s' => R (.error e) s') s) :
    codeC (model prog w) A (.builtin id args) R s := by
  refine codeC_treeC (ok_id hok) ?_
  show wpC _ _ (match entryFor table id with | some b => b args | none => unsupported ((withoutEnding? id "#data").getD id)) _ _ s
  rw [hb]; exact h

theorem ba_new_C {Q : Value → Shared → Prop} (F : Fr h₀ L s.heap m) (N : News h₀ L s.heap news)
    (h : ∀ a h', Fr h₀ L h' m → News h₀ L h' ((a, baObj []) :: news) → (∀ p ∈ news, p.1 < a) → Q (.ref a) { s with heap := h' }) : wpC (model prog w) A (call (.type "bytearray") []) Q E s := by
  refine wpC_call (codeC_tree ?_)
  show wpAny _ _ (callAny (.type "bytearray") _) _ _ _
  refine wpAny_pure ⟨Code.quiet_builtin _ (by decide +kernel), ?_⟩
  refine codeC_builtin (by decide +kernel) PySem.F.entry_type_call ?_
  have h1 := Fa.called.notType
  have h2 := Fa.called.canCreate
  unfold Builtin.«type.__call__»
  simp only [h1, h2, Bool.false_eq_true, if_false, Fa.typeCall, Fa.mro, Fa.called.made, pure_bind, List.isEmpty_cons]
  refine wpC_bind (wpC_holding (wpC_of (wpAny_call (codeAny_of_tree ?_))))
  show wpAny _ _ (do checkBuiltinCall "bytearray.__new__" ⟨[.type "bytearray"], []⟩; again (.builtin "bytearray.__new__" ⟨[.type "bytearray"], []⟩)) _ _ s
  refine wpAny_bind (wpAny_of_eq Fa.newCall (wpAny_pure ⟨plainId_quiet Fa.plain_new _, codeAny_builtin_stack Fa.entry_new rfl fun p st => ?_⟩))
  rw [Around.under_plainId Fa.plain_new _]
  have hsub := Fa.sub
  have hown := Fa.owner_new
  obtain ⟨hp, g, d, tk, os⟩ := s
  simp only [hown]
  have fin : wpC (model prog w) (A.under (.builtin "type.__call__" ⟨[.type "bytearray"], []⟩)) (call (.builtin "bytearray.__init__") [.ref hp.objs.size]) (fun v s' => v = .none ∧ Q (.ref hp.objs.size) s') (fun _ _ => False) ⟨hp.push (baObj []), g, d, tk, os⟩ :=
    ba_init_C (F.push _) (N.push F _) (fun p q => Nat.ne_of_lt (Heap.lt_size (N p q).1)) fun h' F' N' => ⟨rfl, h _ h' F' N' fun p q => Heap.lt_size (N p q).1⟩
  have hT : (⟨hp.push (baObj []), g, d, tk, os⟩ : Shared).TypeIs (.ref hp.objs.size) "bytearray" := ⟨_, Heap.get?_push_size _ rfl, rfl⟩
  wp_walk
  show wpC _ _ (isInstance (.ref hp.objs.size) (.type "bytearray") >>= _) _ _ _
  refine wpC_bindA (wpAny_isInstance hT Fa.sub ?_)
  refine wpC_if_false rfl ?_
  refine wpC_bind (wpC_holding ?_)
  unfold callSpecial?
  refine wpC_bindA (wpAny_specialOf hT Fa.slot_init.lookup ?_)
  refine wpC_holding (wpC_bindE (Fa.slot_init.bind _) ?_)
  refine wpC_bind (wpC_mono fin (fun v s' q => ?_) fun _ _ x => x.elim)
  obtain ⟨rfl, q⟩ := q
  refine wpC_pure ?_
  exact wpC_if_false (by decide) (wpC_pure q)
end
end Np
end

section
namespace Np
open PySem PySem.W PySem.Spec PySem.Calls PyProof.Rows

section
variable {prog : Program} {w : World} {A : Around} {E : Value → Shared → Prop} {s : Shared} {h₀ : Heap} {L D : Addr} {m : Str → Option Value} {news news' : List (Addr × Obj)} {l : List UInt8} {t u : Tok}

theorem ba_len {Q : Value → Shared → Prop} (N : News h₀ L s.heap news) (hm : (D, baObj l) ∈ news) (hz : l.length ≤ 16777216)
    (h : Q (.int l.length (s.toks + 1)) { s with toks := s.toks + 1 + 1 }) : wpAny (model prog w) A (call (.builtin "len") [.ref D]) Q E s := by
  refine call_len_meets (n := (l.length : Int)) (S := fun _ R s' => s'.heap.get? D = some (baObj l) ∧ R (.ok (.ret (.int l.length s'.toks))) { s' with toks := s'.toks + 1 }) (ba_type N hm) Fa.slot_len Fa.entry_len (Fa.args_len _) ?_ (by (first | lia | omega)) (by (first | lia | omega)) (fun Q' q => ⟨N.get hm, q⟩) h
  refine .of_wp fun prog w A R s hs => ?_
  obtain ⟨ho, hr⟩ := hs
  show wpAny _ _ (Builtin.Bytes.payload (.ref D) >>= fun r => _) _ _ s
  refine wpAny_bind (wpAny_payload_ba ho ?_)
  exact wpAny_bind (wpAny_mkInt (wpAny_pure ⟨_, rfl, hr⟩))

theorem subscript_int {k : Int} (h0 : -(2 ^ 63) ≤ k) (h1 : k < 2 ^ 63) {M : Model} {Q : Option Int → Shared → Prop} (h : Q (some k) s) : wpAny M A (Builtin.Bytes.subscript? (.int k u)) Q E s := by
  unfold Builtin.Bytes.subscript?
  refine wpAny_bind (wpAny_specialOf (T := "int") (typeIs_int _ _ _) PySem.F.slot_int_index.lookup ?_)
  refine wpAny_ite ?_
  rw [if_neg (by simp)]
  refine wpAny_bind (wpAny_of_eq (a := k) rfl ?_)
  refine wpAny_ite ?_
  rw [if_neg (by simp only [Builtin.Bytes.fitsIndex, Bool.not_eq_true', Bool.and_eq_false_iff, decide_eq_false_iff_not]; (first | lia | omega))]
  exact wpAny_pure h

theorem seqIndex_nn {k : Int} {n : Nat} (h0 : 0 ≤ k) (h1 : k < n) : seqIndex? k n = some k.toNat := by
  have hn : ¬ k < 0 := by (first | lia | omega)
  simp [seqIndex?, hn, h0, h1]

theorem ba_getItem {k : Int} {Q : Value → Shared → Prop} (N : News h₀ L s.heap news) (hm : (D, baObj l) ∈ news) (h0 : 0 ≤ k) (h1 : k < l.length) (hz : l.length ≤ 16777216)
    (h : Q (.int (l.getD k.toNat 0).toNat s.toks) { s with toks := s.toks + 1 }) : wpAny (model prog w) A (getItem (.ref D) (.int k u)) Q E s := by
  refine getItem_meets (S := fun _ R s' => s'.heap.get? D = some (baObj l) ∧ R (.ok (.ret (.int (l.getD k.toNat 0).toNat s'.toks))) { s' with toks := s'.toks + 1 }) (ba_type N hm) (by decide) Fa.slot_getitem Fa.entry_getitem (Fa.args_getitem _ _) ?_ ⟨N.get hm, h⟩
  refine .of_wp fun prog w A R s hs => ?_
  obtain ⟨ho, hr⟩ := hs
  show wpAny _ _ (Builtin.Bytes.subscript? (.int k u) >>= fun r => _) _ _ s
  refine wpAny_bind (subscript_int (by (first | lia | omega)) (by (first | lia | omega)) ?_)
  show wpAny _ _ (Builtin.Bytes.payload (.ref D) >>= fun r => _) _ _ s
  refine wpAny_bind (wpAny_payload_ba ho ?_)
  have e : (seqIndex? k l.toArray.size).bind (l.toArray[·]?) = some (l.getD k.toNat 0) := by
    rw [List.size_toArray, seqIndex_nn h0 h1]
    have hk : k.toNat < l.length := by (first | lia | omega)
    simp [hk]
  rw [e]
  exact wpAny_bind (wpAny_mkInt (wpAny_pure ⟨_, rfl, hr⟩))

theorem ba_item {value slice : PySem.Expr} {k : Int} {Q : Value → Shared → Prop} (N : News h₀ L s.heap news) (hm : (D, baObj l) ∈ news) (h0 : 0 ≤ k) (h1 : k < l.length) (hz : l.length ≤ 16777216)
    (h : Q (.int (l.getD k.toNat 0).toNat s.toks) { s with toks := s.toks + 1 })
    (hs : subscripted slice false (.ref D) (.int k u) = operate [.ref D, .int k u] (getItem (.ref D) (.int k u)) := by with_unfolding_all rfl)
    (ht : ∀ r, letTemporaryGo value (.ref D) r = pure () := by intro _; with_unfolding_all rfl) :
    wpAny (model prog w) A (subscriptTail value slice (.ref D) (.int k u)) Q E s :=
  tail_of_ItemOn ⟨"bytearray", _, Fa.slot_getitem.lookup, ba_type N hm, ba_getItem N hm h0 h1 hz h⟩ hs ht

theorem ba_setItem {k x : Int} {Q : Unit → Shared → Prop} (F : Fr h₀ L s.heap m) (N : News h₀ L s.heap news) (U : Upd D (baObj l) (baObj (l.set k.toNat x.toNat.toUInt8)) news news') (h0 : 0 ≤ k) (h1 : k < l.length) (hz : l.length ≤ 16777216) (x0 : 0 ≤ x) (x1 : x < 256)
    (h : ∀ h', Fr h₀ L h' m → News h₀ L h' news' → Q () { s with heap := h' }) : wpAny (model prog w) A (setItem (.ref D) (.int k t) (.int x u)) Q E s := by
  have hT := ba_type N (upd_mem U)
  unfold setItem
  refine wpAny_holding ?_
  refine wpAny_bind (wpAny_sequenceKey hT (by decide) ?_)
  refine wpAny_bind (wpAny_callSpecial?_slot (name := Str.ofString "__setitem__") hT Fa.slot_setitem ?_)
  refine call_meets (S := fun _ R s' => s' = s ∧ ∀ h', Fr h₀ L h' m → News h₀ L h' news' → R (.ok (.ret .none)) { s with heap := h' }) Fa.slot_setitem hT Fa.entry_setitem (Fa.args_setitem _ _ _) ?_ ⟨rfl, fun h' F' N' => wpAny_pure (h h' F' N')⟩
  refine .of_wp fun prog w A R s' hs => ?_
  obtain ⟨rfl, hr⟩ := hs
  show wpAny _ _ (Builtin.Bytes.subscript? (.int k t) >>= fun r => _) _ _ s'
  refine wpAny_bind (subscript_int (by (first | lia | omega)) (by (first | lia | omega)) ?_)
  show wpAny _ _ (Builtin.Bytes.byteValue (.int x u) >>= fun r => _) _ _ s'
  rw [byteValue_eq x0 x1]
  refine wpAny_bind (wpAny_pure ?_)
  show wpAny _ _ (Builtin.Bytes.payload (.ref D) >>= fun r => _) _ _ s'
  refine wpAny_bind (wpAny_payload_ba (N.get (upd_mem U)) ?_)
  rw [List.size_toArray, seqIndex_nn h0 h1]
  refine wpAny_bind (wpAny_write_ba F N U (by simp) (by rw [List.length_set]; exact hz) fun h' F' N' => ?_)
  exact wpAny_pure ⟨_, rfl, hr h' F' N'⟩

theorem bytes_made {x : Value} {Q : Value → Shared → Prop}
    (h : codeAny (model prog w) A.in1 (.call (.builtin "bytes.__new__") ⟨[.type "bytes", x], []⟩) (wants (fun obj s₁ => s₁.TypeIs obj "bytes" ∧ Q obj s₁) E) s) : wpAny (model prog w) A (call (.type "bytes") [x]) Q E s :=
  callType_codes PySem.F.bm_called (PySem.F.bm_typeCall _) PySem.F.entry_object_init h fun obj s₁ h₁ =>
    ⟨h₁.1, PySem.F.args_object_init_2 obj _, object_init_meets PySem.F.bm_called.init.lookup PySem.F.bm_called.made (by decide) prog w A.in1 _ s₁ ⟨h₁.1, rfl, h₁.2⟩⟩

theorem look_bytes_bytes : typeLookup (.type "bytes") "__bytes__" = pure (some (.builtin "bytes.__bytes__")) := by rw [typeLookup_type, builtinLookup_eq_fast]; kernel_rfl
theorem look_int_bytes : typeLookup (.type "int") "__bytes__" = pure none := by rw [typeLookup_type, builtinLookup_eq_fast]; kernel_rfl

/-- bytes(b) of a bytes -/
theorem bytes_of_bytes {b : Array UInt8} {Q : Value → Shared → Prop} (h : Q (.bytes b t) s) : wpAny (model prog w) A (call (.type "bytes") [.bytes b t]) Q E s := by
  refine bytes_made ?_
  refine codeAny_of_tree ?_
  show wpAny _ _ (do checkBuiltinCall "bytes.__new__" ⟨[.type "bytes", .bytes b t], []⟩; again (.builtin "bytes.__new__" ⟨[.type "bytes", .bytes b t], []⟩)) _ _ s
  refine wpAny_bind (wpAny_of_eq (PySem.F.bm_newCall _) (wpAny_pure ⟨plainId_quiet PySem.F.bm_plain _, codeAny_builtin PySem.F.bm_entry ?_⟩))
  rw [Around.under_plainId PySem.F.bm_plain _]
  unfold Builtin.«bytes.__new__»
  refine wpAny_bind (wpAny_of_eq (a := true) rfl ?_)
  refine bm_if_false rfl ?_
  refine wpAny_bind (wpAny_of_eq PySem.F.bm_sub ?_)
  refine bm_if_false rfl ?_
  refine wpAny_bind (wpAny_of_eq (PySem.F.bm_bind _) ?_)
  refine wpAny_bind (wpAny_of_eq (a := ()) rfl ?_)
  refine wpAny_bind (wpAny_of_eq (a := ()) rfl ?_)
  refine bm_if_false rfl ?_
  refine wpAny_bind (wpAny_of_eq (KBy.special_eq look_bytes_bytes) ?_)
  refine wpAny_bind (wpAny_rule ?_)
  refine wpAny_bind (wpAny_typeOf (typeIs_bytes _ _ _) ?_)
  refine bm_if_true (by decide) ?_
  show wpAny _ _ (if (Value.type "bytes" == Value.type "bytes") = true then _ else _) _ _ _
  refine bm_if_true (by decide) ?_
  exact wpAny_pure ⟨typeIs_bytes _ _ _, h⟩

/-- bytes(n): n noughts -/
theorem bytes_of_int {n : Int} {Q : Value → Shared → Prop} (h0 : 0 ≤ n) (h1 : n ≤ 16777216) (h : Q (.bytes (List.replicate n.toNat (0 : UInt8)).toArray s.toks) { s with toks := s.toks + 1 }) : wpAny (model prog w) A (call (.type "bytes") [.int n t]) Q E s := by
  refine bytes_made ?_
  refine codeAny_of_tree ?_
  show wpAny _ _ (do checkBuiltinCall "bytes.__new__" ⟨[.type "bytes", .int n t], []⟩; again (.builtin "bytes.__new__" ⟨[.type "bytes", .int n t], []⟩)) _ _ s
  refine wpAny_bind (wpAny_of_eq (PySem.F.bm_newCall _) (wpAny_pure ⟨plainId_quiet PySem.F.bm_plain _, codeAny_builtin PySem.F.bm_entry ?_⟩))
  rw [Around.under_plainId PySem.F.bm_plain _]
  unfold Builtin.«bytes.__new__»
  refine wpAny_bind (wpAny_of_eq (a := true) rfl ?_)
  refine bm_if_false rfl ?_
  refine wpAny_bind (wpAny_of_eq PySem.F.bm_sub ?_)
  refine bm_if_false rfl ?_
  refine wpAny_bind (wpAny_of_eq (PySem.F.bm_bind _) ?_)
  refine wpAny_bind (wpAny_of_eq (a := ()) rfl ?_)
  refine wpAny_bind (wpAny_of_eq (a := ()) rfl ?_)
  refine bm_if_false rfl ?_
  have hT : s.TypeIs (.int n t) "int" := typeIs_int _ _ _
  refine wpAny_bind (wpAny_specialOf hT look_int_bytes ?_)
  refine wpAny_bind (wpAny_bind (wpAny_of_eq (a := none) rfl (wpAny_pure ?_)))
  refine bm_if_false rfl ?_
  refine wpAny_bind (wpAny_specialOf hT PySem.F.slot_int_index.lookup ?_)
  refine bm_if_false rfl ?_
  refine wpAny_bind (wpAny_attempt (wpAny_of_eq (a := n) rfl ?_))
  refine bm_if_false (by simp only [Builtin.Bytes.fitsIndex, Bool.not_eq_false', Bool.and_eq_true, decide_eq_true_eq]; (first | lia | omega)) ?_
  refine wpAny_ite ?_
  rw [if_neg (by (first | lia | omega))]
  refine wpAny_ite ?_
  rw [if_neg (by (first | lia | omega))]
  refine bm_if_false (by unfold Builtin.Bytes.tooLong; rw [sizeLine_eq]; exact decide_eq_false (by (first | lia | omega))) ?_
  refine wpAny_bind (wpAny_rule ?_)
  have e : (Array.replicate n.toNat (0 : UInt8)) = (List.replicate n.toNat (0 : UInt8)).toArray := by simp
  rw [e]
  refine wpAny_bind (wpAny_mkBytes ?_ (by simp; rw [sizeLine_eq]; (first | lia | omega)))
  show wpAny _ _ (if (Value.type "bytes" == Value.type "bytes") = true then _ else _) _ _ _
  refine bm_if_true (by decide) ?_
  exact wpAny_pure ⟨typeIs_bytes _ _ _, h⟩

theorem ba_buffer (hT : s.TypeIs (.ref D) "bytearray") (ho : s.heap.get? D = some (baObj l)) {M : Model} {id : String} {f : Bool} {Q : Option (Array UInt8) → Shared → Prop} (h : Q (some l.toArray) s) : wpAny M A (Builtin.Bytes.buffer? id (.ref D) f) Q E s := by
  have own : ∀ {Q : Bool → Shared → Prop}, Q true s → wpAny M A (Builtin.Bytes.slotIsOwn (.ref D) "__buffer__") Q E s := fun q => by
    unfold Builtin.Bytes.slotIsOwn
    refine wpAny_bind (wpAny_specialOf hT Fa.slot_buffer.lookup ?_)
    show wpAny _ _ (if (!"bytearray.__buffer__".endsWith ("." ++ "__buffer__")) = true then _ else _) _ _ _
    rw [if_neg (by decide +kernel)]
    set_option linter.deprecated false in
    have hx : (String.dropRight "bytearray.__buffer__" (String.length "__buffer__" + 1)) = "bytearray" := by decide +kernel
    rw [hx]
    exact wpAny_isInstance hT Fa.sub q
  unfold Builtin.Bytes.buffer?
  refine wpAny_bind (wpAny_specialOf hT Fa.slot_buffer.lookup ?_)
  show wpAny _ _ (Builtin.Bytes.slotIsOwn (.ref D) "__buffer__" >>= _) _ _ _
  refine wpAny_bind (own ?_)
  refine bm_if_false rfl ?_
  refine wpAny_bind (wpAny_specialOf hT Fa.slot_buffer.lookup ?_)
  refine wpAny_bind ?_
  unfold Builtin.Bytes.ownRelease Builtin.Bytes.slotIsOwn
  refine wpAny_bind (wpAny_bind (wpAny_specialOf hT Fa.slot_release.lookup ?_))
  show wpAny _ _ (if (!"bytearray.__release_buffer__".endsWith ("." ++ "__release_buffer__")) = true then _ else _) _ _ _
  rw [if_neg (by decide +kernel)]
  set_option linter.deprecated false in
  have hx : (String.dropRight "bytearray.__release_buffer__" (String.length "__release_buffer__" + 1)) = "bytearray" := by decide +kernel
  rw [hx]
  refine wpAny_isInstance hT Fa.sub (wpAny_pure ?_)
  refine bm_if_false rfl ?_
  refine wpAny_bind (wpAny_payload_ba ho ?_)
  exact wpAny_pure h

/-- bytes(b) of a bytearray -/
theorem bytes_of_ba {Q : Value → Shared → Prop} (N : News h₀ L s.heap news) (hm : (D, baObj l) ∈ news) (hz : l.length ≤ 16777216)
    (h : Q (.bytes l.toArray s.toks) { s with toks := s.toks + 1 }) : wpAny (model prog w) A (call (.type "bytes") [.ref D]) Q E s := by
  refine bytes_made ?_
  refine codeAny_of_tree ?_
  show wpAny _ _ (do checkBuiltinCall "bytes.__new__" ⟨[.type "bytes", .ref D], []⟩; again (.builtin "bytes.__new__" ⟨[.type "bytes", .ref D], []⟩)) _ _ s
  refine wpAny_bind (wpAny_of_eq (PySem.F.bm_newCall _) (wpAny_pure ⟨plainId_quiet PySem.F.bm_plain _, codeAny_builtin PySem.F.bm_entry ?_⟩))
  rw [Around.under_plainId PySem.F.bm_plain _]
  unfold Builtin.«bytes.__new__»
  refine wpAny_bind (wpAny_of_eq (a := true) rfl ?_)
  refine bm_if_false rfl ?_
  refine wpAny_bind (wpAny_of_eq PySem.F.bm_sub ?_)
  refine bm_if_false rfl ?_
  refine wpAny_bind (wpAny_of_eq (PySem.F.bm_bind _) ?_)
  refine wpAny_bind (wpAny_of_eq (a := ()) rfl ?_)
  refine wpAny_bind (wpAny_of_eq (a := ()) rfl ?_)
  refine bm_if_false rfl ?_
  have hT := ba_type N hm
  have ho := N.get hm
  refine wpAny_bind (wpAny_specialOf hT Fa.noBytes ?_)
  refine wpAny_bind (wpAny_bind ?_)
  show wpAny _ _ (load D >>= _) _ _ _
  refine wpAny_bind (wpAny_load ho ?_)
  refine wpAny_pure (wpAny_pure ?_)
  refine bm_if_false rfl ?_
  refine wpAny_bind (wpAny_specialOf hT Fa.noIndex ?_)
  refine bm_if_true rfl ?_
  first
    | show wpAny _ _ (Builtin.Bytes.buffer? "bytes.__new__" (.ref D) true >>= _) _ _ _
    | (refine wpAny_bind ?_; show wpAny _ _ (Builtin.Bytes.buffer? "bytes.__new__" (.ref D) true >>= _) _ _ _)
  refine wpAny_bind (ba_buffer hT ho ?_)
  refine wpAny_bind (wpAny_rule ?_)
  refine wpAny_bind (wpAny_mkBytes ?_ (by rw [List.size_toArray, sizeLine_eq]; exact hz))
  first
    | (refine wpAny_bind ?_; show wpAny _ _ (if (Value.type "bytes" == Value.type "bytes") = true then _ else _) _ _ _)
    | show wpAny _ _ (if (Value.type "bytes" == Value.type "bytes") = true then _ else _) _ _ _
  refine bm_if_true (by decide) ?_
  first
    | exact wpAny_pure ⟨typeIs_bytes _ _ _, h⟩
    | exact wpAny_pure (wpAny_pure ⟨typeIs_bytes _ _ _, h⟩)
end
end Np
end

section
namespace Np
open PySem PySem.W PySem.Spec PySem.Calls PyProof.Rows

section
variable {prog : Program} {w : World} {A : Around} {E : Value → Shared → Prop} {s : Shared} {h₀ : Heap} {L D : Addr} {m : Str → Option Value} {news news' : List (Addr × Obj)} {l : List UInt8} {t u : Tok}

theorem slice_L {value slice : PySem.Expr} {x y : Value} {lo hi : Option Int} {r : List UInt8} {Q : Value → Shared → Prop} (hF : Fr h₀ L s.heap m) (hN : News h₀ L s.heap news) (hl : IsPart x lo) (hu : IsPart y hi) (hz : l.length ≤ 16777216)
    (e : (l.drop (lo.elim 0 (clipAt l.length))).take (hi.elim l.length (clipAt l.length) - lo.elim 0 (clipAt l.length)) = r)
    (h : ∀ h' t' k, Fr h₀ L h' m → News h₀ L h' news → Q (.bytes r.toArray t') { s with heap := h', toks := k })
    (hs : subscripted slice false (.bytes l.toArray t) (.ref s.heap.objs.size) = operate [.ref s.heap.objs.size, .bytes l.toArray t] (getItem (.bytes l.toArray t) (.ref s.heap.objs.size)) := by with_unfolding_all rfl)
    (ht : ∀ r, letTemporaryGo value (.bytes l.toArray t) r = pure () := by intro _; with_unfolding_all rfl) :
    wpAny (model prog w) A (subscriptTail value slice (.bytes l.toArray t) (.ref s.heap.objs.size)) Q E { s with heap := s.heap.push { cls := .type "slice", data := .fields #[x, y, .none] } } := by
  have ep : KBy.picked l.toArray lo hi = r.toArray := by
    rw [KBc.picked_eq, ← e]
    simp
  exact tail_of_ItemOn ⟨"bytes", _, FB.slot_bytes_getitem.lookup, typeIs_bytes _ _ _, getItem_meets (typeIs_bytes _ _ _) (by decide) FB.slot_bytes_getitem FB.entry_bytes_getitem (FB.args_bytes_getitem_2 _ _) (KBc.meets_slice2 l.toArray t _ hl hu)
    ⟨Heap.IsSliceOf.new _ _ _ _, Nat.le_trans (KBc.size_picked_le _ lo hi) (by rw [List.size_toArray, sizeLine_eq]; exact hz), fun t' k => ep ▸ h _ _ _ (hF.push _) (News.pushKeep hN _)⟩⟩ hs ht

theorem clip_nn {n : Nat} {k : Int} (h : 0 ≤ k) : clipAt n k = min k.toNat n := by
  obtain ⟨a, rfl⟩ := Int.eq_ofNat_of_zero_le h
  exact clipAt_nat n a

theorem cut_ab {a b : Int} (ha : 0 ≤ a) (hb : 0 ≤ b) : (l.drop ((some a).elim 0 (clipAt l.length))).take ((some b).elim l.length (clipAt l.length) - (some a).elim 0 (clipAt l.length)) = (l.drop a.toNat).take (b.toNat - a.toNat) := by
  simp only [Option.elim, clip_nn ha, clip_nn hb]
  by_cases h1 : a.toNat ≤ l.length
  · rw [Nat.min_eq_left h1]
    by_cases h2 : b.toNat ≤ l.length
    · rw [Nat.min_eq_left h2]
    · rw [Nat.min_eq_right (Nat.le_of_not_le h2)]
      rw [List.take_of_length_le (by simp), List.take_of_length_le (by simp; (first | lia | omega))]
  · rw [Nat.min_eq_right (Nat.le_of_not_le h1), List.drop_of_length_le (Nat.le_refl l.length), List.drop_of_length_le (Nat.le_of_not_le h1)]
    simp
theorem cut_a {a : Int} (ha : 0 ≤ a) : (l.drop ((some a).elim 0 (clipAt l.length))).take ((none : Option Int).elim l.length (clipAt l.length) - (some a).elim 0 (clipAt l.length)) = l.drop a.toNat := by
  simp only [Option.elim, clip_nn ha]
  by_cases h1 : a.toNat ≤ l.length
  · rw [Nat.min_eq_left h1]
    exact List.take_of_length_le (by simp)
  · rw [Nat.min_eq_right (Nat.le_of_not_le h1), List.drop_of_length_le (Nat.le_refl l.length), List.drop_of_length_le (Nat.le_of_not_le h1)]
    simp
theorem cut_b {b : Int} (hb : 0 ≤ b) : (l.drop ((none : Option Int).elim 0 (clipAt l.length))).take ((some b).elim l.length (clipAt l.length) - (none : Option Int).elim 0 (clipAt l.length)) = l.take b.toNat := by
  simp only [Option.elim, clip_nn hb, List.drop_zero, Nat.sub_zero]
  by_cases h2 : b.toNat ≤ l.length
  · rw [Nat.min_eq_left h2]
  · rw [Nat.min_eq_right (Nat.le_of_not_le h2), List.take_of_length_le (Nat.le_refl l.length), List.take_of_length_le (Nat.le_of_not_le h2)]

theorem add_L {l₂ : List UInt8} {Q : Value → Shared → Prop} (hz : l.length + l₂.length ≤ 16777216) (h : ∀ t' k, Q (.bytes (l ++ l₂).toArray t') { s with toks := k }) : wpAny (model prog w) A (binaryOp .Add (.bytes l.toArray t) (.bytes l₂.toArray u)) Q E s :=
  KBy.add_bytes (by simp; (first | lia | omega)) fun t' k => by
    have := h t' k
    rwa [← List.append_toArray] at this
theorem mul_L {x : UInt8} {n : Int} {Q : Value → Shared → Prop} (h0 : 0 ≤ n) (h1 : n ≤ 1048576) (h : ∀ t' k, Q (.bytes (List.replicate n.toNat x).toArray t') { s with toks := k }) : wpAny (model prog w) A (binaryOp .Mult (.bytes ([x] : List UInt8).toArray t) (.int n u)) Q E s :=
  bytes_mul_any (List.cons_ne_nil _ _) (by (first | lia | omega)) h1 (by simp) fun t' k => by
    have e : (List.replicate n.toNat [x]).flatten = List.replicate n.toNat x := by
      induction n.toNat with
      | zero => rfl
      | succ k ih => rw [List.replicate_succ, List.replicate_succ, List.flatten_cons, ih]; rfl
    rw [e]; exact h t' k
theorem eq_L {l₂ : List UInt8} {Q : Value → Shared → Prop} (h : Q (.bool (decide (l = l₂))) s) : wpAny (model prog w) A (compareOp .Eq (.bytes l.toArray t) (.bytes l₂.toArray u)) Q E s := by
  refine eq_bytes ?_
  have e : ∀ x : Bool, x = decide (l = l₂) → Q (.bool x) s := fun x hx => hx ▸ h
  refine e _ ?_
  by_cases hl : l = l₂
  · simp [hl]
  · simp [hl]
theorem ne_L {l₂ : List UInt8} {Q : Value → Shared → Prop} (h : Q (.bool (decide (l ≠ l₂))) s) : wpAny (model prog w) A (compareOp .NotEq (.bytes l.toArray t) (.bytes l₂.toArray u)) Q E s := by
  refine ne_bytes ?_
  have e : ∀ x : Bool, x = decide (l ≠ l₂) → Q (.bool x) s := fun x hx => hx ▸ h
  refine e _ ?_
  by_cases hl : l = l₂
  · simp [hl]
  · simp [hl]
/-- bytes([..]) of ints that lie in nought to 255 -/
theorem bytes_of_list {vs : List Value} {ns : List Int} {n : Nat} {Q : Value → Shared → Prop} (F : Fr h₀ L s.heap m) (N : News h₀ L s.heap news) (hh : A.handled = none) (hm : (D, listOf vs.toArray n) ∈ news) (hi : IntsAre vs ns) (hr : ∀ n ∈ ns, 0 ≤ n ∧ n < 256) (hn : ns.length ≤ 1000)
    (h : ∀ h' t' k, Fr h₀ L h' m → News h₀ L h' news → Q (.bytes (ns.map fun n => n.toNat.toUInt8).toArray t') { s with heap := h', toks := k }) : wpAny (model prog w) A (call (.type "bytes") [.ref D]) Q E s :=
  KBa.make_K F N hh (PySem.IsL.isList (n := n) (N _ hm).1) hi hr (by (first | lia | omega)) fun h' t' k F' N' _ => h h' t' k F' N'
end
end Np
end

section
namespace Np
open PySem PySem.W PySem.Spec PySem.Calls PyProof.Rows
open Sem (wp)
section
variable {prog : Program} {w : World} {A : Around} {E : Value → Shared → Prop} {R : Result → Shared → Prop} {s : Shared}
theorem codeC_block_nil {env} (h : R (.ok .next) s) : codeC (model prog w) A (.block [] env) R s := by
  refine codeC_tree ?_
  show wpAny _ _ (do return Fin.done (← (execs [] env).onRaise (fun x => do noteFrame x env; theTreesLotGoes x))) _ _ s
  exact wpAny_bind (wpAny_noted (wpAny_execs_nil (wpAny_pure h)))
theorem codeC_forLoop {target it body env} (I : Nat → Shared → Prop)
    (turn : ∀ n s, I n s → wpAny (model prog w) A (pyNext it) (fun r s₁ => match r with
      | none => R (.ok .next) s₁
      | some v => wpAny (model prog w) A (letOwnedTupleGo target it v) (fun _ s₁' =>
          wpAny (model prog w) A (assign target env v) (fun _ s₂ => wpC (model prog w) A (execs body env) (fun f s₃ => match f with
            | .next | .cont => ∃ m, m < n ∧ I m s₃
            | .brk => R (.ok .next) s₃
            | .ret v => R (.ok (.ret v)) s₃) (fun _ _ => False) s₂) (fun _ _ => False) s₁') (fun _ _ => False) s₁) (fun _ _ => False) s)
    (n : Nat) (h : I n s) : codeC (model prog w) A (.forLoop target it body [] env) R s := by
  induction n using Nat.strongRecOn generalizing s with
  | ind n ih =>
  refine codeC_treeC rfl ?_
  show wpC _ A ((forTurn target it body [] env).onRaise (fun x => do noteFrame x env; theTreesLotGoes x)) _ _ s
  refine wpC_onRaise ?_
  simp only [forTurn]
  refine wpC_standAt (wpC_bindA (wpAny_onRaise (wpAny_mono (turn n s h) (fun r s₁ h₁ => ?_) fun _ _ h' => h'.elim)))
  cases r with
  | none => exact wpC_pure ⟨rfl, codeC_block_nil h₁⟩
  | some v =>
    refine wpC_bindA (wpAny_mono h₁ (fun _ s₁' h₁' => ?_) fun _ _ h' => h')
    refine wpC_bindA (wpAny_mono h₁' (fun _ s₂ h₂ => wpC_bind (wpC_mono h₂ (fun f s₃ h₃ => ?_) fun _ _ h' => h')) fun _ _ h' => h')
    cases f with
    | next => obtain ⟨m, hm, hI⟩ := h₃; exact wpC_pure ⟨rfl, ih m hm hI⟩
    | cont => obtain ⟨m, hm, hI⟩ := h₃; exact wpC_pure ⟨rfl, ih m hm hI⟩
    | brk => exact wpC_pure h₃
    | ret v => exact wpC_pure h₃
theorem wpC_For {env : Env} {target iter body pos} {Q : Flow → Shared → Prop}
    (h : wpAny (model prog w) A (eval iter env) (fun x s₁ => wpAny (model prog w) A (pyIter x) (fun it s₂ =>
      codeC (model prog w) A (.forLoop target it body [] env) (fun r s' => match r with | .ok f => Q f s' | .error e => False) s₂) (fun _ _ => False) s₁) (fun _ _ => False) s)
    (hs : ∀ x, foldedSetIterable iter env x = pure x := by intro _; rfl) :
    wpC (model prog w) A (exec (.For target iter body [] pos) env) Q E s := by
  refine wpC_eq (exec_For ..) (wpC_standAt (wpC_bindA (wpAny_mono h (fun x s₁ h₁ => ?_) fun _ _ h' => h'.elim)))
  refine wpC_bindA (wpAny_of_eq (hs x) ?_)
  refine wpC_standAt (wpC_bindA (wpAny_holding (wpAny_mono h₁ (fun it s₂ h₂ => ?_) fun _ _ h' => h'.elim)))
  unfold runOwn
  exact wpC_onRaise (wpC_run h₂)

/-- what a range iterator at turn `i` of `n` is -/
def rIt (i n : Int) : Obj := { cls := .type "range_iterator", data := .fields #[rawInt i, rawInt (n - i), rawInt 1] }
theorem range_n (b : Int) : Builtin.Range.rangeSize 0 b 1 = ((b.toNat : Nat) : Int) := by rw [rangeSize_one]; split <;> (first | lia | omega)
theorem range_small {b : Int} (h : -1000 ≤ b) (h' : b ≤ 1000) : Builtin.Range.small 0 b 1 = true := small_one (by (first | lia | omega)) (by (first | lia | omega)) (by (first | lia | omega)) (by (first | lia | omega))
end
end Np
end

section
namespace Np
open PySem PySem.W PySem.Spec PySem.Calls PyProof.Rows
open Sem (wp)
section
variable {M : Model} {A : Around} {E : Value → Shared → Prop} {s : Shared} {env : Env}
theorem wpC_keep {α : Type} {vs : List Value} {m : Sem α} {Q : α → Shared → Prop} (h : wpC M A m Q E s) : wpC M A (m.keep vs) Q E s :=
  fun Γ p hΓ hc => by rw [Sem.wp_keep]; exact h Γ p hΓ hc
theorem call_tailC {t : Sem Value} {Q : Value → Shared → Prop} (ht : wpC M A t Q E s) : wpC M A (t >>= fun r => holding [r] point >>= fun _ => pure r) Q E s :=
  wpC_bind (wpC_mono ht (fun r s₂ hr => wpC_bindA (wpAny_holding (wpAny_point (wpC_pure hr)))) fun _ _ x => x)
theorem callMarkedC {mark f : Value} {pos : List Value} {kw : List (Str × Value)} {Q : Value → Shared → Prop} (h : wpC M A (call f pos kw) Q E s) : wpC M A (callMarked mark f pos kw) Q E s := by
  unfold callMarked; exact wpC_keep h
theorem callWith_builtinC {pos : Pos} {id : String} {first : List Value} {args : List (Bool × Sem Value)} {Q : Value → Shared → Prop} (hplain : args.any (·.1) = false)
    (h : wpAny M A (evalArgs (.builtin id) true args []) (fun a s₁ => wpC M A (call (.builtin id) (first ++ a.pos) a.kw) Q E s₁) E s) :
    wpC M A (callWith pos (.builtin id) first args []) Q E s := by
  unfold callWith
  refine wpC_bindA (wpAny_holding (wpAny_mono h (fun a s₁ h₁ => wpC_standAt ?_) fun _ _ x => x))
  simp only [hplain, List.any_nil, Bool.or_false]
  refine wpC_bind (wpC_pure ?_)
  exact call_tailC h₁
/-- a call of a name of the text, its function clean -/
theorem CallC {func : Expr} {args : List Expr} {pos : Pos} {Q : Value → Shared → Prop}
    (h : wpAny M A (eval func env) (fun f s₁ => wpC M A (callWith pos f [] (backTo pos (starEach args env)) []) Q E s₁) E s)
    (he : eval (.Call func args [] pos) env = (do callWith pos (← eval func env) [] (backTo pos (starEach args env)) (backToKw pos (keywordEach [] env))) := by rfl) :
    wpC M A (eval (.Call func args [] pos) env) Q E s := by
  rw [he]; exact wpC_bindA h
end
section
variable {prog : Program} {w : World} {A : Around} {E : Value → Shared → Prop} {s : Shared} {env : Env}
/-- `o.name(e)` for a bytearray's method -/
theorem Call_methodC {o e : Expr} {name : Str} {id : String} {apos pos : Pos} {Q : Value → Shared → Prop}
    (slot : Slot "bytearray" name id) (hty : typeOf (.builtin id) = pure (.type "method_descriptor"))
    (h : wpAny (model prog w) A (eval o env) (fun ov s₁ => (∃ D l, ov = .ref D ∧ s₁.heap.get? D = some (baObj l)) ∧
      wpAny (model prog w) A (spliced (backTo pos (starEach [e] env))) (fun vs s₂ => wpC (model prog w) A (call (.builtin id) (ov :: vs)) Q E s₂) E s₁) E s)
    (hbase : attributeBase o name env (eval o env) = eval o env := by rfl)
    (hfew : ((backTo pos (starEach [e] env)).all (fun x => !x.1) && (backToKw pos (keywordEach [] env)).all (fun x => x.1.isSome)
      && decide ([e].length + ([] : List Keyword).length + (if ([] : List Keyword).isEmpty then 0 else 1) < 30)) = true := by rfl)
    (hline : (apos.endLine == pos.line) = true := by rfl)
    (he : starEach [e] env = (false, eval e env) :: starEach [] env := by rfl) :
    wpC (model prog w) A (eval (.Call (.Attribute o name apos) [e] [] pos) env) Q E s := by
  refine wpC_eq (arm_eval_Call ..) ?_
  rw [hbase]
  refine wpC_bindA (wpAny_mono h (fun ov s₁ h₁ => ?_) fun _ _ e => e)
  obtain ⟨⟨D, l, rfl, hD⟩, hc⟩ := h₁
  refine wpC_standAt ?_
  have hform : methodCallForm ([e].length + ([] : List Keyword).length) (backTo pos (starEach [e] env)) (backToKw pos (keywordEach [] env)) = true := hfew
  have hpos : methodCallPos true o env apos pos = pure pos := by unfold methodCallPos; simp [hline]
  unfold methodCall
  rw [hform]
  refine wpC_bindA (wpAny_holding (getMethod_builtin ⟨_, hD, rfl⟩ Fa.plainAttrs slot hty (fun a ha => by cases ha; exact ⟨_, hD, rfl⟩) ?_))
  refine wpC_bindA (wpAny_of_eq hpos ?_)
  rw [he] at hc ⊢
  exact callWith_builtinC rfl (evalArgs_plain hc)
def BaTail (prog : Program) (w : World) (A : Around) (pos : Pos) (id : String) (e : Expr) (env : Env) (Q : Value → Shared → Prop) (E : Value → Shared → Prop) (ov : Value) (s₁ : Shared) : Prop :=
  (∃ D l, ov = .ref D ∧ s₁.heap.get? D = some (baObj l)) ∧ wpAny (model prog w) A (spliced (backTo pos (starEach [e] env))) (fun vs s₂ => wpC (model prog w) A (call (.builtin id) (ov :: vs)) Q E s₂) E s₁
theorem ba_tail {h₀ : Heap} {L D : Addr} {l : List UInt8} {news : List (Addr × Obj)} {pos : Pos} {id : String} {e : Expr} {Q : Value → Shared → Prop} (N : News h₀ L s.heap news) (hm : (D, baObj l) ∈ news)
    (h : wpAny (model prog w) A (spliced (backTo pos (starEach [e] env))) (fun vs s₂ => wpC (model prog w) A (call (.builtin id) (.ref D :: vs)) Q E s₂) E s) : BaTail prog w A pos id e env Q E (.ref D) s :=
  ⟨⟨D, l, rfl, N.get hm⟩, h⟩
theorem append_stmt {o e : Expr} {apos pos pos' : Pos} {rest : List Stmt} {Q : Flow → Shared → Prop}
    (h : wpAny (model prog w) A (eval o env) (BaTail prog w A pos "bytearray.append" e env (fun v s' => match v with | .ref _ => False | _ => wpC (model prog w) A (execs rest env) Q E s') E) E s)
    (hi : interactive env = false := by rfl) (hs : swapsWith (.Call (.Attribute o "append" apos) [e] [] pos) none pos'.line env = pure false := by rfl)
    (hbase : attributeBase o "append" env (eval o env) = eval o env := by rfl)
    (hfew : ((backTo pos (starEach [e] env)).all (fun x => !x.1) && (backToKw pos (keywordEach [] env)).all (fun x => x.1.isSome)
      && decide ([e].length + ([] : List Keyword).length + (if ([] : List Keyword).isEmpty then 0 else 1) < 30)) = true := by rfl)
    (hline : (apos.endLine == pos.line) = true := by rfl)
    (he : starEach [e] env = (false, eval e env) :: starEach [] env := by rfl) :
    wpC (model prog w) A (execs (.Expr (.Call (.Attribute o "append" apos) [e] [] pos) pos' :: rest) env) Q E s :=
  wpC_execs_cons (wpC_ExprStmt (Call_methodC Fa.slot_append Fa.type_append h hbase hfew hline he) hi hs)
theorem extend_stmt {o e : Expr} {apos pos pos' : Pos} {rest : List Stmt} {Q : Flow → Shared → Prop}
    (h : wpAny (model prog w) A (eval o env) (BaTail prog w A pos "bytearray.extend" e env (fun v s' => match v with | .ref _ => False | _ => wpC (model prog w) A (execs rest env) Q E s') E) E s)
    (hi : interactive env = false := by rfl) (hs : swapsWith (.Call (.Attribute o "extend" apos) [e] [] pos) none pos'.line env = pure false := by rfl)
    (hbase : attributeBase o "extend" env (eval o env) = eval o env := by rfl)
    (hfew : ((backTo pos (starEach [e] env)).all (fun x => !x.1) && (backToKw pos (keywordEach [] env)).all (fun x => x.1.isSome)
      && decide ([e].length + ([] : List Keyword).length + (if ([] : List Keyword).isEmpty then 0 else 1) < 30)) = true := by rfl)
    (hline : (apos.endLine == pos.line) = true := by rfl)
    (he : starEach [e] env = (false, eval e env) :: starEach [] env := by rfl) :
    wpC (model prog w) A (execs (.Expr (.Call (.Attribute o "extend" apos) [e] [] pos) pos' :: rest) env) Q E s :=
  wpC_execs_cons (wpC_ExprStmt (Call_methodC Fa.slot_extend Fa.type_extend h hbase hfew hline he) hi hs)
end
section
variable {M : Model} {A : Around} {E : Value → Shared → Prop} {s : Shared} {env : Env}
theorem splicedC_cons {x : Sem Value} {rest : List (Bool × Sem Value)} {Q : List Value → Shared → Prop}
    (h : wpC M A x (fun v s₁ => wpAny M A (spliced rest) (fun vs s₂ => Q (v :: vs) s₂) E s₁) E s) : wpC M A (spliced ((false, x) :: rest)) Q E s := by
  rw [spliced]
  refine wpC_bind (wpC_mono h (fun v s₁ h₁ => ?_) fun _ _ x => x)
  simp only [Bool.false_eq_true, if_false]
  exact wpC_bind (wpC_pure (wpC_bindA (wpAny_holding (wpAny_mono h₁ (fun vs s₂ h₂ => wpC_pure h₂) fun _ _ x => x))))
theorem callWith_type0C {pos : Pos} {T : String} {Q : Value → Shared → Prop} (h : wpC M A (call (.type T) []) Q E s) :
    wpC M A (callWith pos (.type T) [] (backTo pos (starEach [] env)) []) Q E s := by
  unfold callWith
  refine wpC_bindA (wpAny_holding (evalArgs_nil3 (wpC_standAt ?_)))
  refine wpC_bind (wpC_pure ?_)
  exact call_tailC h
theorem TupleC_ {e : Expr} {rest : List Expr} {k : Nat} {pos : Pos} {Q : Value → Shared → Prop}
    (h : wpC M A (eval e env) (fun v s₀ => wpAny M A (spliced (backTo pos (starEach rest env))) (fun vs s₁ => wpAny M A (newTuple (v :: vs)) Q E s₁) E s₀) E s)
    (he : starEach (e :: rest) env = (false, eval e env) :: starEach rest env := by rfl) : wpC M A (eval (.Tuple (e :: rest) k pos) env) Q E s := by
  refine wpC_eq (show eval (.Tuple (e :: rest) k pos) env = (do standAt pos; newTuple (← spliced (backTo pos (starEach (e :: rest) env)))) from rfl) ?_
  rw [he]
  refine wpC_standAt (wpC_bind (splicedC_cons (wpC_mono h (fun v s₀ h₀ => wpAny_mono h₀ (fun vs s₁ h₁ => wpC_of h₁) fun _ _ x => x) fun _ _ x => x)))
theorem Assign_TupleC {elts k tpos value pos} {Q : Flow → Shared → Prop}
    (h : wpC M A (eval value env) (fun v s₁ => wpAny M A (assign (.Tuple elts k tpos) env v) (fun _ => Q .next) E s₁) E s)
    (hs : swapsWithSole [.Tuple elts k tpos] value pos.line env = pure false := by rfl)
    (hw : swappedStores [.Tuple elts k tpos] value env = pure none := by rfl) :
    wpC M A (exec (.Assign [.Tuple elts k tpos] value pos) env) Q E s := by
  refine wpC_eq (exec_Assign ..) (wpC_standAt ?_)
  rw [hs]
  refine wpC_bind (wpC_pure ?_)
  rw [if_neg (by decide)]
  refine wpC_bind (wpC_mono h (fun v s₁ h₁ => ?_) fun _ _ x => x)
  rw [hw]
  refine wpC_bind (wpC_pure ?_)
  show wpC M A (do assignAll v [assign (.Tuple elts k tpos) env]; pure .next) Q E s₁
  exact wpC_bindA (wpAny_mono h₁ (fun _ _ x => wpC_pure x) fun _ _ x => x)
theorem Assign_Tuple_swappedC {elts k tpos value pos} {names : List Str} {Q : Flow → Shared → Prop}
    (h : wpC M A (eval value env) (fun v s₁ => wpAny M A (unpackItems v names.length none) (fun items s₂ =>
      wpAny M A (assignInOrder (names.reverse.map fun n => bindName env n) items.reverse) (fun _ => Q .next) E s₂) E s₁) E s)
    (hs : swapsWithSole [.Tuple elts k tpos] value pos.line env = pure false := by rfl)
    (hw : swappedStores [.Tuple elts k tpos] value env = pure (some names) := by rfl) :
    wpC M A (exec (.Assign [.Tuple elts k tpos] value pos) env) Q E s := by
  refine wpC_eq (exec_Assign ..) (wpC_standAt ?_)
  rw [hs]
  refine wpC_bind (wpC_pure ?_)
  rw [if_neg (by decide)]
  refine wpC_bind (wpC_mono h (fun v s₁ h₁ => ?_) fun _ _ x => x)
  rw [hw]
  refine wpC_bind (wpC_pure ?_)
  show wpC M A (do rule "assign.swapped-stores"; let items ← unpackItems v names.length none; assignInOrder (names.reverse.map fun n => bindName env n) items.reverse; pure .next) Q E s₁
  exact wpC_of (wpAny_bind (wpAny_rule (wpAny_bind (wpAny_mono h₁ (fun items s₂ h₂ => wpAny_bind (wpAny_mono h₂ (fun _ _ x => wpAny_pure x) fun _ _ x => x)) fun _ _ x => x))))
end
section
variable {prog : Program} {w : World} {A : Around} {E : Value → Shared → Prop} {s : Shared} {env : Env}
/-- the goal left when `bytearray` has been looked up -/
def BaNew (prog : Program) (w : World) (A : Around) (pos tpos : Pos) (elts : List Expr) (env : Env) (Q : Value → Shared → Prop) (E : Value → Shared → Prop) (f : Value) (s₁ : Shared) : Prop :=
  wpC (model prog w) A (callWith pos f [] (backTo pos (starEach [] env)) []) (fun v s₀ => wpAny (model prog w) A (spliced (backTo tpos (starEach elts env))) (fun vs s₂ => wpAny (model prog w) A (newTuple (v :: vs)) Q E s₂) E s₀) E s₁
theorem ba_new_goal {h₀ : Heap} {L : Addr} {m : Str → Option Value} {news : List (Addr × Obj)} {pos tpos : Pos} {elts : List Expr} {Q : Value → Shared → Prop} (F : Fr h₀ L s.heap m) (N : News h₀ L s.heap news)
    (h : ∀ a h', Fr h₀ L h' m → News h₀ L h' ((a, baObj []) :: news) → (∀ p ∈ news, p.1 < a) → wpAny (model prog w) A (spliced (backTo tpos (starEach elts env))) (fun vs s₂ => wpAny (model prog w) A (newTuple (.ref a :: vs)) Q E s₂) E { s with heap := h' }) :
    BaNew prog w A pos tpos elts env Q E (.type "bytearray") s := callWith_type0C (ba_new_C F N h)
theorem init_stmt {f : Expr} {elts0 elts : List Expr} {k tk : Nat} {tpos vpos cpos pos : Pos} {rest : List Stmt} {Q : Flow → Shared → Prop}
    (h : wpAny (model prog w) A (eval f env) (BaNew prog w A cpos vpos elts env (fun v s₁ => wpAny (model prog w) A (assign (.Tuple elts0 tk tpos) env v) (fun _ s₂ => wpC (model prog w) A (execs rest env) Q E s₂) E s₁) E) E s)
    (hs : swapsWithSole [.Tuple elts0 tk tpos] (.Tuple (.Call f [] [] cpos :: elts) k vpos) pos.line env = pure false := by rfl)
    (hw : swappedStores [.Tuple elts0 tk tpos] (.Tuple (.Call f [] [] cpos :: elts) k vpos) env = pure none := by rfl)
    (he : starEach (.Call f [] [] cpos :: elts) env = (false, eval (.Call f [] [] cpos) env) :: starEach elts env := by rfl)
    (hc : eval (.Call f [] [] cpos) env = (do callWith cpos (← eval f env) [] (backTo cpos (starEach [] env)) (backToKw cpos (keywordEach [] env))) := by rfl) :
    wpC (model prog w) A (execs (.Assign [.Tuple elts0 tk tpos] (.Tuple (.Call f [] [] cpos :: elts) k vpos) pos :: rest) env) Q E s :=
  wpC_execs_cons (Assign_TupleC (TupleC_ (CallC h hc) he) hs hw)
theorem init_stmt2 {f : Expr} {elts0 elts : List Expr} {k tk : Nat} {tpos vpos cpos pos : Pos} {rest : List Stmt} {names : List Str} {Q : Flow → Shared → Prop}
    (h : wpAny (model prog w) A (eval f env) (BaNew prog w A cpos vpos elts env (fun v s₁ => wpAny (model prog w) A (unpackItems v names.length none) (fun items s₂ =>
      wpAny (model prog w) A (assignInOrder (names.reverse.map fun n => bindName env n) items.reverse) (fun _ s₃ => wpC (model prog w) A (execs rest env) Q E s₃) E s₂) E s₁) E) E s)
    (hs : swapsWithSole [.Tuple elts0 tk tpos] (.Tuple (.Call f [] [] cpos :: elts) k vpos) pos.line env = pure false := by rfl)
    (hw : swappedStores [.Tuple elts0 tk tpos] (.Tuple (.Call f [] [] cpos :: elts) k vpos) env = pure (some names) := by rfl)
    (he : starEach (.Call f [] [] cpos :: elts) env = (false, eval (.Call f [] [] cpos) env) :: starEach elts env := by rfl)
    (hc : eval (.Call f [] [] cpos) env = (do callWith cpos (← eval f env) [] (backTo cpos (starEach [] env)) (backToKw cpos (keywordEach [] env))) := by rfl) :
    wpC (model prog w) A (execs (.Assign [.Tuple elts0 tk tpos] (.Tuple (.Call f [] [] cpos :: elts) k vpos) pos :: rest) env) Q E s :=
  wpC_execs_cons (Assign_Tuple_swappedC (TupleC_ (CallC h hc) he) hs hw)
end
end Np
end

section
namespace Np
open PySem PySem.W PySem.Spec PySem.Calls PyProof.Rows

/-- the names that a ground with the tables laid aside knows as loose -/
noncomputable def looseN : List Str := looseW Hz.viewQ [] ++ (recsOf Hz.viewQ).map (·.name) ++ (litsOf Hz.viewQ).map (·.1) ++ (clssOf Hz.viewQ (looseW Hz.viewQ [])).map (·.name)
/-- a def entered whose body never raises -/
theorem code_def0 {prog : Program} {w : World} {A₀ A : Around} {s : Shared} {base h₀ : Heap} {outer : List Env} {L : Addr} {m : Str → Option Value} {env : Env} {news : List (Addr × Obj)} {K : Frag}
    {R : Result → Shared → Prop} {name qual : Str} {params : Arguments} {body : List Stmt} {scope : Scope} {dV kV doc pm cdv ct oc : Value} {an od : Option Addr} {osl : Array (Option Value)} {f : Addr} {args : Args} {binds : List (Str × Value)}
    {p : Program} {loose : List Str} {mean : ExcName → Option Value} {mg mb : Str → Option Value}
    (B : Below A₀ base outer h₀) (F : Fr h₀ L s.heap m) (X₀ : K.In h₀) (N : News h₀ L s.heap news) (T : Top p loose mean mg mb h₀) (hA : A.frames = some (env :: outer)) (hf : env.frame = some L) (hke : env.scope.kind = .function)
    (ho : K.lookup f = some ⟨oc, od, .func (fnOf name qual params body scope dV kV doc pm an cdv ct), osl⟩) (hcd : codeIn K cdv qual = true) (hroom : A.depth < recursionLimit)
    (hbind : BindsTo s (fnOf name qual params body scope dV kV doc pm an cdv ct) args binds) (hloc : ∀ y ∈ binds, scope.names.lookup y.1 = some .local)
    (h : ∀ g L' h₁, Fr h₀ L g m → Fr g L' h₁ (fun y => binds.reverse.lookup y) → News g L' h₁ news → Below A base (env :: outer) g → K.In g → Top p loose mean mg mb g →
      wpAny (model prog w) (A.deeper (envOf qual scope L' f cdv)) (execs body (envOf qual scope L' f cdv))
        (fun fl s' => LeaveK h₀ L m g R (match fl with | .ret v => v | _ => .none) s') (fun _ _ => False) { s with heap := h₁, toks := s.toks + binds.length })
    (hco : scope.isCoroutine = false) (hgen : scope.isGenerator = false) (hk : scope.kind = .function)
    (hcell : ∀ x ∈ scope.names, x.2 ≠ .cell) : codeAny (model prog w) A (.call (.ref f) args) R s :=
  code_def B F X₀ N T hA hf hke ho hcd hroom hbind hloc (fun g L' h₁ a1 a2 a3 a4 a5 a6 => wpAny_mono (h g L' h₁ a1 a2 a3 a4 a5 a6) (fun _ _ x => x) fun _ _ x => x.elim) hco hgen hk hcell

section
variable {k : Nat} {w : World} {mean : ExcName → Option Value} {mg mb : Str → Option Value} {f : Addr} {news : List (Addr × Obj)} {args : List Value} {post : Value → List (Addr × Obj) → Prop}
    {dp un : Nat} {gd : Option (List Code)} {cn : Str} {cs : Scope} {a : Addr} {ccd : Value} {cl : List (Str × Addr)} {outer : List Env} {A₀ : Around} {base h₀ : Heap} {L : Addr} {m : Str → Option Value} {s : Shared} {Q E : Value → Shared → Prop}
end

section
variable {prog : Program} {w : World} {A : Around} {E : Value → Shared → Prop} {s : Shared} {l : List UInt8} {t u : Tok}
theorem item_L {value slice : PySem.Expr} {i : Int} {Q : Value → Shared → Prop} (hfit : l.length ≤ 16777216) (h0 : 0 ≤ i) (h1 : i < (l.length : Int))
    (h : ∀ v : Int, v = ((l.getD i.toNat 0).toNat : Int) → 0 ≤ v → v < 256 → Q (.int v s.toks) { s with toks := s.toks + 1 })
    (hs : subscripted slice false (.bytes l.toArray t) (.int i u) = operate [.bytes l.toArray t, .int i u] (getItem (.bytes l.toArray t) (.int i u)) := by with_unfolding_all rfl)
    (ht : ∀ r, letTemporaryGo value (.bytes l.toArray t) r = pure () := by intro _; with_unfolding_all rfl) :
    wpAny (model prog w) A (subscriptTail value slice (.bytes l.toArray t) (.int i u)) Q E s :=
  tail_of_ItemOn ⟨"bytes", _, FB.slot_bytes_getitem.lookup, typeIs_bytes _ _ _, getItem_bytes (by (first | lia | omega)) h0 h1 (h _ rfl (by (first | lia | omega)) (by have := (l.getD i.toNat 0).toNat_lt; (first | lia | omega)))⟩ hs ht
theorem ba_item_L {value slice : PySem.Expr} {h₀ : Heap} {L D : Addr} {news : List (Addr × Obj)} {k : Int} {Q : Value → Shared → Prop} (N : News h₀ L s.heap news) (hm : (D, baObj l) ∈ news) (hz : l.length ≤ 16777216) (h0 : 0 ≤ k) (h1 : k < l.length)
    (h : ∀ v : Int, v = ((l.getD k.toNat 0).toNat : Int) → 0 ≤ v → v < 256 → Q (.int v s.toks) { s with toks := s.toks + 1 })
    (hs : subscripted slice false (.ref D) (.int k u) = operate [.ref D, .int k u] (getItem (.ref D) (.int k u)) := by with_unfolding_all rfl)
    (ht : ∀ r, letTemporaryGo value (.ref D) r = pure () := by intro _; with_unfolding_all rfl) :
    wpAny (model prog w) A (subscriptTail value slice (.ref D) (.int k u)) Q E s :=
  ba_item N hm h0 h1 hz (h _ rfl (by (first | lia | omega)) (by have := (l.getD k.toNat 0).toNat_lt; (first | lia | omega))) hs ht
end

end Np
end

section
namespace Np
open PySem PySem.W PySem.Spec PySem.Calls PyProof.Rows
theorem not_not (x : Int) : Builtin.bitNot (Builtin.bitNot x) = x := by unfold Builtin.bitNot; (first | lia | omega)
theorem bitOr_pp {x y : Int} (hx : 0 ≤ x) (hy : 0 ≤ y) : Builtin.bitOr x y = ((x.toNat ||| y.toNat : Nat) : Int) := by
  unfold Builtin.bitOr
  rw [bitAnd_nn (by unfold Builtin.bitNot; (first | lia | omega)) (by unfold Builtin.bitNot; (first | lia | omega)), not_not, not_not, not_not]
theorem bitOr_high {a b p : Int} {k : Nat} (hp : (2 : Int) ^ k = p) (ha : 0 ≤ a) (ha' : a < p) (hb : 0 ≤ b) : Builtin.bitOr a (b * p) = a + b * p := by
  subst hp
  obtain ⟨x, rfl⟩ := Int.eq_ofNat_of_zero_le ha
  obtain ⟨y, rfl⟩ := Int.eq_ofNat_of_zero_le hb
  have hx : x < 2 ^ k := by
    have : ((2 ^ k : Nat) : Int) = 2 ^ k := kbt_cast k
    (first | lia | omega)
  have e : ((y : Int) * 2 ^ k) = ((y * 2 ^ k : Nat) : Int) := by rw [Int.natCast_mul, kbt_cast]
  rw [e, bitOr_pp (by (first | lia | omega)) (by (first | lia | omega)), Int.toNat_natCast, Int.toNat_natCast]
  have h := Nat.shiftLeft_add_eq_or_of_lt hx y
  rw [Nat.shiftLeft_eq] at h
  rw [Nat.or_comm, ← h, Int.natCast_add]
  (first | lia | omega)
theorem bitOr_low {a b p : Int} {k : Nat} (hp : (2 : Int) ^ k = p) (ha : 0 ≤ a) (hb : 0 ≤ b) (hb' : b < p) : Builtin.bitOr (a * p) b = a * p + b := by
  subst hp
  obtain ⟨x, rfl⟩ := Int.eq_ofNat_of_zero_le ha
  obtain ⟨y, rfl⟩ := Int.eq_ofNat_of_zero_le hb
  have hx : y < 2 ^ k := by
    have : ((2 ^ k : Nat) : Int) = 2 ^ k := kbt_cast k
    (first | lia | omega)
  have e : ((x : Int) * 2 ^ k) = ((x * 2 ^ k : Nat) : Int) := by rw [Int.natCast_mul, kbt_cast]
  rw [e, bitOr_pp (by (first | lia | omega)) (by (first | lia | omega)), Int.toNat_natCast, Int.toNat_natCast]
  have h := Nat.shiftLeft_add_eq_or_of_lt hx x
  rw [Nat.shiftLeft_eq] at h
  rw [← h, Int.natCast_add]

section
variable {prog : Program} {w : World} {A : Around} {E : Value → Shared → Prop} {s : Shared} {a b n p : Int} {t u : Tok} {Q : Value → Shared → Prop}
theorem or_high {k : Nat} (hp : (2 : Int) ^ k = p) (ha : 0 ≤ a) (ha' : a < p) (hb : 0 ≤ b) (h : Q (.int (a + b * p) s.toks) { s with toks := s.toks + 1 }) : wpAny (model prog w) A (binaryOp .BitOr (.int a t) (.int (b * p) u)) Q E s :=
  or_int (by rw [bitOr_high hp ha ha' hb]; exact h)
theorem or_low {k : Nat} (hp : (2 : Int) ^ k = p) (ha : 0 ≤ a) (hb : 0 ≤ b) (hb' : b < p) (h : Q (.int (a * p + b) s.toks) { s with toks := s.toks + 1 }) : wpAny (model prog w) A (binaryOp .BitOr (.int (a * p) t) (.int b u)) Q E s :=
  or_int (by rw [bitOr_low hp ha hb hb']; exact h)
theorem and_mask {k : Nat} (hp : (2 : Int) ^ k - 1 = n) (hq : (2 : Int) ^ k = p) (h : Q (.int (a % p) s.toks) { s with toks := s.toks + 1 }) : wpAny (model prog w) A (binaryOp .BitAnd (.int a t) (.int n u)) Q E s :=
  and_int (by subst hp hq; rw [kbt_mask]; exact h)
theorem shl_p (hn : 0 ≤ n) (hn2 : n ≤ 1000000) (ha : a.natAbs < 2 ^ 64) (hp : (2 : Int) ^ n.toNat = p) (h : Q (.int (a * p) s.toks) { s with toks := s.toks + 1 }) : wpAny (model prog w) A (binaryOp .LShift (.int a t) (.int n u)) Q E s :=
  lshift_int_small hn hn2 ha (by rw [hp]; exact h)
theorem shr_p (hn : 0 ≤ n) (hp : (2 : Int) ^ n.toNat = p) (h : Q (.int (a / p) s.toks) { s with toks := s.toks + 1 }) : wpAny (model prog w) A (binaryOp .RShift (.int a t) (.int n u)) Q E s :=
  rshift_int hn (by
    have : (0 : Int) ≤ p := by subst hp; exact Int.le_of_lt (kbt_pos _)
    rw [hp, Int.fdiv_eq_ediv_of_nonneg _ this]; exact h)
theorem div_p (hb : 0 < b) (hz : b < 1073741824) (h : Q (.int (a / b) s.toks) { s with toks := s.toks + 1 }) : wpAny (model prog w) A (binaryOp .FloorDiv (.int a t) (.int b u)) Q E s :=
  floordiv_int (by (first | lia | omega)) (by rw [Int.fdiv_eq_ediv_of_nonneg _ (by (first | lia | omega))]; exact h) (Or.inl (PyProof.noPylong_small (by (first | lia | omega))))
theorem mod_p (hb : 0 < b) (h : Q (.int (a % b) s.toks) { s with toks := s.toks + 1 }) : wpAny (model prog w) A (binaryOp .Mod (.int a t) (.int b u)) Q E s :=
  PyProof.Rows.mod_int' (by (first | lia | omega)) (by rw [Int.fmod_eq_emod_of_nonneg _ (by (first | lia | omega))]; exact h)
end
end Np
end

section
namespace Np
/-- how many from `a` on, at most `n`, of which `f` holds -/
def cw (f : Nat → Bool) : Nat → Nat → Nat
  | _, 0 => 0
  | a, n + 1 => if f a = true then cw f (a + 1) n + 1 else 0
theorem cw_le (f : Nat → Bool) : ∀ a n, cw f a n ≤ n
  | _, 0 => Nat.le_refl _
  | a, n + 1 => by
    unfold cw
    have := cw_le f (a + 1) n
    split <;> (first | lia | omega)
theorem cw_true (f : Nat → Bool) : ∀ a n i, i < cw f a n → f (a + i) = true
  | _, 0, _, h => absurd h (Nat.not_lt_zero _)
  | a, n + 1, i, h => by
    unfold cw at h
    split at h
    · rename_i ha
      cases i with
      | zero => exact ha
      | succ i =>
        have := cw_true f (a + 1) n i (by (first | lia | omega))
        rw [show a + (i + 1) = a + 1 + i by (first | lia | omega)]; exact this
    · (first | lia | omega)
theorem cw_stop {f : Nat → Bool} {a n : Nat} (h : f a = false) : cw f a n = 0 := by
  cases n with
  | zero => rfl
  | succ n => unfold cw; simp [h]
theorem cw_step {f : Nat → Bool} {a n : Nat} (h : f a = true) (hn : 0 < n) : cw f a n = cw f (a + 1) (n - 1) + 1 := by
  cases n with
  | zero => (first | lia | omega)
  | succ n => rw [cw, if_pos h]; rfl
theorem cw_zero {f : Nat → Bool} {a : Nat} : cw f a 0 = 0 := rfl

def zerosN (l : List UInt8) (a : Nat) : Nat := cw (fun i => l.getD i 0 == 0) a (min l.length (a + 192) - a)
def litF (l : List UInt8) (i : Nat) : Bool := l.getD i 0 != 0 || (decide (i + 1 < l.length) && l.getD (i + 1) 0 != 0)
def litsN (l : List UInt8) (a : Nat) : Nat := 1 + cw (litF l) (a + 1) (min l.length (a + 64) - (a + 1))
/-- how many octets from `a` and from `b` on are alike, `a` going up to `e` -/
theorem oct_zero {l : List UInt8} {i : Nat} : (l.getD i 0 == 0) = true ↔ (l.getD i 0).toNat = 0 := by
  rw [beq_iff_eq]
  exact ⟨fun e => by rw [e]; rfl, fun e => UInt8.toNat_inj.mp e⟩
theorem oct_like {l : List UInt8} {i j : Nat} : (l.getD i 0 == l.getD j 0) = true ↔ (l.getD i 0).toNat = (l.getD j 0).toNat := by
  rw [beq_iff_eq]
  exact ⟨fun e => by rw [e], fun e => UInt8.toNat_inj.mp e⟩
theorem litF_iff {l : List UInt8} {i : Nat} : litF l i = true ↔ ((l.getD i 0).toNat ≠ 0 ∨ (i + 1 < l.length ∧ (l.getD (i + 1) 0).toNat ≠ 0)) := by
  unfold litF
  have h1 := oct_zero (l := l) (i := i)
  have h2 := oct_zero (l := l) (i := i + 1)
  simp only [Bool.or_eq_true, Bool.and_eq_true, decide_eq_true_eq, bne, Bool.not_eq_true', ← Bool.not_eq_true, h1, h2]
theorem cw_false {f : Nat → Bool} {a n : Nat} (h : ¬ f a = true) : cw f a n = 0 := cw_stop (Bool.eq_false_iff.mpr h)
def likeN (l : List UInt8) (a b e : Nat) : Nat := cw (fun i => l.getD (a + i) 0 == l.getD (b + i) 0) 0 (e - a)
def aheadN (l : List UInt8) (a b least : Nat) : Nat := cw (fun i => l.getD (a - i - 1) 0 == l.getD (b - i - 1) 0) 0 (min (a - least) b)

def octI (l : List UInt8) (a : Int) : Int := ((l.getD a.toNat 0).toNat : Int)
def wordI (l : List UInt8) (a : Int) : Int := octI l a + octI l (a + 1) * 256 + octI l (a + 2) * 65536 + octI l (a + 3) * 16777216
def hash0 (l : List UInt8) (a : Int) : Int := octI l a * 65536 + octI l (a + 1) * 256 + octI l (a + 2)
def hash1 (x : Int) : Int := x + x / 512
def hash2 (x : Int) : Int := (x + x / 32) % 256
def hashI (l : List UInt8) (a : Int) : Int := hash2 (hash1 (hash0 l a))
def moreL (n : Int) : List UInt8 := if n < 15 then [] else [(n - 15).toNat.toUInt8]

def octs (ns : List Int) : List UInt8 := ns.map fun n => n.toNat.toUInt8
def tokI (n m : Int) : Int := (if 15 < n then 15 else n) * 16 + (if 15 < m then 15 else m)
def seqL (x : List UInt8) (back many : Int) : List UInt8 := octs [tokI x.length (many - 4)] ++ moreL x.length ++ x ++ octs [back % 256, back / 256] ++ moreL (many - 4)
def lastL (x : List UInt8) : List UInt8 := octs [(if 15 < (x.length : Int) then 15 else (x.length : Int)) * 16] ++ moreL x.length ++ x
def matchL (many off : Int) : List UInt8 := octs [(many - 3) * 4 + off / 256, off % 256]
theorem moreL_len (n : Int) : (moreL n).length ≤ 1 := by unfold moreL; split <;> simp
end Np
end

section
namespace Np
def zleN (l : List UInt8) (a : Nat) : Nat := if (l.getD a 0).toNat = 0 then zerosN l a else litsN l a
def zleTok (l : List UInt8) (a : Nat) : List UInt8 :=
  if (l.getD a 0).toNat = 0 then [(64 + ((zerosN l a : Nat) : Int) - 1).toNat.toUInt8] else (((litsN l a : Nat) : Int) - 1).toNat.toUInt8 :: (l.drop a).take (litsN l a)
def zleRun (l : List UInt8) : Nat → List UInt8 → Nat → List UInt8
  | 0, out, _ => out
  | n + 1, out, a => if a < l.length then zleRun l n (out ++ zleTok l a) (a + zleN l a) else out
def zleF (l : List UInt8) : List UInt8 := zleRun l l.length [] 0
def ZR (l out : List UInt8) (a : Nat) : Prop := ∃ n, l.length - a ≤ n ∧ zleRun l n out a = zleF l
theorem cap_le {c n L m a : Nat} (h : c ≤ min L (a + m) - n) : c ≤ L - n ∧ c ≤ a + m - n := ⟨Nat.le_trans h (Nat.sub_le_sub_right (Nat.min_le_left _ _) _), Nat.le_trans h (Nat.sub_le_sub_right (Nat.min_le_right _ _) _)⟩
theorem add_cap {a c L : Nat} (h : c ≤ L - a) (ha : a ≤ L) : a + c ≤ L := by rw [Nat.add_comm]; exact Nat.add_le_of_le_sub ha h
theorem zerosN_le (l : List UInt8) (a : Nat) : zerosN l a ≤ 192 ∧ (a ≤ l.length → a + zerosN l a ≤ l.length) := by
  obtain ⟨h1, h2⟩ := cap_le (cw_le (fun i => l.getD i 0 == 0) a (min l.length (a + 192) - a))
  rw [Nat.add_sub_cancel_left] at h2
  exact ⟨h2, add_cap h1⟩
theorem zerosN_pos {l : List UInt8} {a : Nat} (h : a < l.length) (h0 : (l.getD a 0).toNat = 0) : 1 ≤ zerosN l a := by
  unfold zerosN
  rw [cw_step (by exact oct_zero.mpr h0) (by (first | lia | omega))]
  (first | lia | omega)
theorem litsN_le (l : List UInt8) (a : Nat) : 1 ≤ litsN l a ∧ litsN l a ≤ 64 ∧ (a < l.length → a + litsN l a ≤ l.length) := by
  obtain ⟨h1, h2⟩ := cap_le (cw_le (litF l) (a + 1) (min l.length (a + 64) - (a + 1)))
  rw [show a + 64 - (a + 1) = 63 by rw [Nat.add_sub_add_left]] at h2
  refine ⟨Nat.le_add_right _ _, ?_, fun h => ?_⟩
  · show 1 + _ ≤ 1 + 63
    exact Nat.add_le_add_left h2 1
  · show a + (1 + _) ≤ l.length
    rw [← Nat.add_assoc]; exact add_cap h1 h
theorem zleN_pos {l : List UInt8} {a : Nat} (h : a < l.length) : 1 ≤ zleN l a := by
  unfold zleN
  split
  · rename_i h0; exact zerosN_pos h h0
  · exact (litsN_le l a).1
theorem zleRun_pre (l : List UInt8) : ∀ n out a, ∃ r, zleRun l n out a = out ++ r
  | 0, out, _ => ⟨[], by simp [zleRun]⟩
  | n + 1, out, a => by
    unfold zleRun
    split
    · obtain ⟨r, hr⟩ := zleRun_pre l n (out ++ zleTok l a) (a + zleN l a)
      exact ⟨zleTok l a ++ r, by rw [hr, List.append_assoc]⟩
    · exact ⟨[], by simp⟩
theorem ZR.init (l : List UInt8) : ZR l [] 0 := ⟨l.length, by (first | lia | omega), rfl⟩
theorem ZR.pre {l out : List UInt8} {a : Nat} (h : ZR l out a) : ∃ r, zleF l = out ++ r := by
  obtain ⟨n, _, e⟩ := h
  obtain ⟨r, hr⟩ := zleRun_pre l n out a
  exact ⟨r, by rw [← e, hr]⟩
theorem ZR.len {l out : List UInt8} {a : Nat} (h : ZR l out a) : out.length ≤ (zleF l).length := by
  obtain ⟨r, e⟩ := h.pre
  rw [e, List.length_append]; (first | lia | omega)
theorem ZR.step {l out : List UInt8} {a : Nat} (h : ZR l out a) (ha : a < l.length) : ZR l (out ++ zleTok l a) (a + zleN l a) := by
  obtain ⟨n, hn, e⟩ := h
  have := zleN_pos ha
  cases n with
  | zero => (first | lia | omega)
  | succ n =>
    rw [zleRun, if_pos ha] at e
    exact ⟨n, by (first | lia | omega), e⟩
theorem ZR.fin {l out : List UInt8} {a : Nat} (h : ZR l out a) (ha : ¬ a < l.length) : out = zleF l := by
  obtain ⟨n, hn, e⟩ := h
  cases n with
  | zero => exact e
  | succ n => rw [zleRun, if_neg ha] at e; exact e
theorem ZR.step0 {l out : List UInt8} {a : Nat} (h : ZR l out a) (ha : a < l.length) (h0 : (l.getD a 0).toNat = 0) : ZR l (out ++ [(64 + ((zerosN l a : Nat) : Int) - 1).toNat.toUInt8]) (a + zerosN l a) := by
  have := h.step ha
  unfold zleTok zleN at this
  rw [if_pos h0, if_pos h0] at this
  exact this
theorem ZR.step1 {l out : List UInt8} {a : Nat} (h : ZR l out a) (ha : a < l.length) (h0 : ¬ (l.getD a 0).toNat = 0) : ZR l (out ++ [(((litsN l a : Nat) : Int) - 1).toNat.toUInt8] ++ (l.drop a).take (litsN l a)) (a + litsN l a) := by
  have := h.step ha
  unfold zleTok zleN at this
  rw [if_neg h0, if_neg h0] at this
  rw [List.append_assoc]
  exact this
theorem zle_next0 {l out : List UInt8} {a : Nat} {v : Int} (h : ZR l out a) (ha : (a : Int) < l.length) (hv : v = ((l.getD a 0).toNat : Int)) (h0 : v = 0) :
    ZR l (out ++ [(64 + ((zerosN l a : Nat) : Int) - 1).toNat.toUInt8]) (a + zerosN l a) ∧ a + zerosN l a ≤ l.length ∧ 1 ≤ zerosN l a ∧ out.length + 1 ≤ (zleF l).length := by
  have h1 : (l.getD a 0).toNat = 0 := by (first | lia | omega)
  have h2 : a < l.length := by (first | lia | omega)
  have h3 := h.step0 h2 h1
  have h4 := h3.len
  simp only [List.length_append, List.length_cons, List.length_nil] at h4
  exact ⟨h3, (zerosN_le l a).2 (by (first | lia | omega)), zerosN_pos h2 h1, by (first | lia | omega)⟩
theorem zle_next1 {l out : List UInt8} {a : Nat} {v : Int} (h : ZR l out a) (ha : (a : Int) < l.length) (hv : v = ((l.getD a 0).toNat : Int)) (h0 : ¬ v = 0) :
    ZR l (out ++ [(((litsN l a : Nat) : Int) - 1).toNat.toUInt8] ++ (l.drop a).take (litsN l a)) (a + litsN l a) ∧ a + litsN l a ≤ l.length ∧ 1 ≤ litsN l a ∧ out.length + 1 + litsN l a ≤ (zleF l).length := by
  have h1 : ¬ (l.getD a 0).toNat = 0 := by (first | lia | omega)
  have h2 : a < l.length := by (first | lia | omega)
  have h3 := h.step1 h2 h1
  have h4 := h3.len
  have h5 := litsN_le l a
  simp only [List.length_append, List.length_cons, List.length_nil, List.length_take, List.length_drop] at h4
  exact ⟨h3, h5.2.2 h2, h5.1, by (first | lia | omega)⟩
theorem getD_mid {out t r : List UInt8} {c : UInt8} : (out ++ (c :: t) ++ r).getD out.length 0 = c := by
  rw [List.append_assoc, List.getD_eq_getElem?_getD, List.getElem?_append_right (Nat.le_refl _)]
  simp
theorem u8_nat {k : Int} (h0 : 0 ≤ k) (h1 : k < 256) : (k.toNat.toUInt8).toNat = k.toNat := by
  simp [Nat.toUInt8, UInt8.toNat_ofNat']
  (first | lia | omega)
theorem take_zeros {l : List UInt8} {a : Nat} (ha : a < l.length) : l.take a ++ List.replicate (zerosN l a) 0 = l.take (a + zerosN l a) := by
  have hle := (zerosN_le l a).2 (by (first | lia | omega))
  rw [List.take_add]
  congr 1
  apply List.ext_getElem?
  intro i
  by_cases hi : i < zerosN l a
  · have := cw_true _ _ _ i (by unfold zerosN at hi; exact hi)
    simp only [beq_iff_eq] at this
    rw [List.getElem?_replicate, if_pos hi, List.getElem?_take, if_pos hi, List.getElem?_drop]
    rw [List.getD_eq_getElem?_getD, List.getElem?_eq_getElem (by (first | lia | omega))] at this
    rw [List.getElem?_eq_getElem (by (first | lia | omega))]
    exact congrArg some this.symm
  · rw [List.getElem?_replicate, if_neg hi, List.getElem?_take, if_neg hi]
theorem zle_dec0 {l out pad x : List UInt8} {a : Nat} (h : ZR l out a) (ha : a < l.length) (h0 : (l.getD a 0).toNat = 0) (hx : x = zleF l ++ pad) :
    out.length < x.length ∧ (x.getD out.length 0).toNat = 63 + zerosN l a ∧ 1 ≤ zerosN l a ∧ a + zerosN l a ≤ l.length ∧ l.take a ++ List.replicate (zerosN l a) 0 = l.take (a + zerosN l a) ∧ ∃ out', out'.length = out.length + 1 ∧ ZR l out' (a + zerosN l a) := by
  have h1 := h.step0 ha h0
  obtain ⟨r, hr⟩ := h1.pre
  have hz := zerosN_le l a
  have hp := zerosN_pos ha h0
  subst hx
  rw [hr]
  refine ⟨by simp, ?_, hp, hz.2 (by (first | lia | omega)), take_zeros ha, _, by simp, h1⟩
  rw [List.append_assoc, getD_mid, u8_nat (by (first | lia | omega)) (by (first | lia | omega))]
  (first | lia | omega)
theorem zle_dec1 {l out pad x : List UInt8} {a : Nat} (h : ZR l out a) (ha : a < l.length) (h0 : ¬ (l.getD a 0).toNat = 0) (hx : x = zleF l ++ pad) :
    out.length + 1 + litsN l a ≤ x.length ∧ (x.getD out.length 0).toNat + 1 = litsN l a ∧ litsN l a ≤ 64 ∧ a + litsN l a ≤ l.length ∧ l.take a ++ (x.drop (out.length + 1)).take (litsN l a) = l.take (a + litsN l a) ∧ ∃ out', out'.length = out.length + 1 + litsN l a ∧ ZR l out' (a + litsN l a) := by
  have h1 := h.step1 ha h0
  obtain ⟨r, hr⟩ := h1.pre
  have hz := litsN_le l a
  have hz3 := hz.2.2 ha
  subst hx
  rw [hr]
  have hlen : ((l.drop a).take (litsN l a)).length = litsN l a := by rw [List.length_take, List.length_drop]; (first | lia | omega)
  refine ⟨by simp only [List.length_append, hlen, List.length_cons, List.length_nil]; (first | lia | omega), ?_, hz.2.1, hz3, ?_, _, ?_, h1⟩
  · rw [List.append_assoc, List.append_assoc, getD_mid, u8_nat (by (first | lia | omega)) (by (first | lia | omega))]
    (first | lia | omega)
  · rw [List.take_add]
    congr 1
    have e : (out ++ [(((litsN l a : Nat) : Int) - 1).toNat.toUInt8] ++ List.take (litsN l a) (List.drop a l) ++ r ++ pad) = (out ++ [(((litsN l a : Nat) : Int) - 1).toNat.toUInt8]) ++ (List.take (litsN l a) (List.drop a l) ++ (r ++ pad)) := by simp
    rw [e, List.drop_left' (by simp), List.take_left' hlen]
  · simp only [List.length_append, hlen, List.length_cons, List.length_nil]
end Np
end

section
namespace Np
open PySem PySem.W PySem.Spec PySem.Calls PyProof.Rows
def lookI (c : List (Int × Int)) (k : Int) : Option Int := (c.find? fun p => decide (p.1 = k)).map (·.2)
theorem get1_L {prog : Program} {w : World} {A : Around} {E : Value → Shared → Prop} {s : Shared} {d : Addr} {c : List (Int × Int)} {k : Int} {tk : Tok} {Q : Value → Shared → Prop} (T : IntTab prog w s.heap d (kdfD c))
    (h0 : lookI c k = none → Q .none { s with toks := s.toks + 1 }) (h1 : ∀ x t, lookI c k = some x → Q (.int x t) { s with toks := s.toks + 1 }) :
    wpAny (model prog w) A (call (.builtin "dict.get") [.ref d, .int k tk]) Q E s :=
  call_get1_intTab T fun v hv => by
    rw [kdfD_lookup] at hv
    unfold lookI at h0 h1
    cases hf : c.find? fun p => decide (p.1 = k) with
    | none =>
      rw [hf] at hv h0
      have := PyProof.V.Flat.none_inv hv
      subst this
      exact h0 rfl
    | some p =>
      rw [hf] at hv h1
      obtain ⟨t, ht⟩ := PyProof.V.Flat.int_inv hv
      rw [ht]
      exact h1 p.2 t rfl
def fmR (l : List UInt8) (a : Int) (c : List (Int × Int)) : Int × Int × List (Int × Int) :=
  if (l.length : Int) < a + 3 then (0, 0, c) else
  match lookI c (hashI l a) with
  | none => (0, 0, kdfPut c (hashI l a) a)
  | some b => if 1024 ≤ a - b then (0, 0, kdfPut c (hashI l a) a) else
    if 3 ≤ likeN l a.toNat b.toNat (min l.length (a.toNat + 66)) then (likeN l a.toNat b.toNat (min l.length (a.toNat + 66)), a - b, kdfPut c (hashI l a) a) else (0, 0, kdfPut c (hashI l a) a)
theorem fmR_pos {l : List UInt8} {a b : Int} {c : List (Int × Int)} (h1 : ¬ (l.length : Int) < a + 3) (hx : lookI c (hashI l a) = some b) (h2 : ¬ 1024 ≤ a - b) (h3 : 3 ≤ likeN l a.toNat b.toNat (min l.length (a.toNat + 66))) :
    fmR l a c = (((likeN l a.toNat b.toNat (min l.length (a.toNat + 66)) : Nat) : Int), a - b, kdfPut c (hashI l a) a) := by
  unfold fmR; rw [if_neg h1, hx]; simp only []; rw [if_neg h2, if_pos h3]
def caR (l : List UInt8) (a b : Int) (c : List (Int × Int)) : Option (Int × Int × Int) :=
  match lookI c (wordI l a) with
  | none => none
  | some x => some (a - ((aheadN l a.toNat x.toNat b.toNat : Nat) : Int), a - x, ((likeN l a.toNat x.toNat ((l.length : Int) - 5).toNat : Nat) : Int) + ((aheadN l a.toNat x.toNat b.toNat : Nat) : Int))
theorem caR_pos {l : List UInt8} {a b x : Int} {c : List (Int × Int)} (hx : lookI c (wordI l a) = some x) :
    caR l a b c = some (a - ((aheadN l a.toNat x.toNat b.toNat : Nat) : Int), a - x, ((likeN l a.toNat x.toNat ((l.length : Int) - 5).toNat : Nat) : Int) + ((aheadN l a.toNat x.toNat b.toNat : Nat) : Int)) := by
  unfold caR; rw [hx]
end Np
end

section
namespace Np
open PySem.W
/-! ### what a table of places knows -/
theorem lookI_put {c : List (Int × Int)} {k v k' x : Int} (h : lookI (kdfPut c k v) k' = some x) : x = v ∨ lookI c k' = some x := by
  unfold lookI kdfPut at *
  split at h
  · rw [List.find?_map] at h
    have e : ((fun p : Int × Int => decide (p.1 = k')) ∘ fun p : Int × Int => if decide (p.1 = k) = true then (p.1, v) else p) = fun p => decide (p.1 = k') := by
      funext p; simp only [Function.comp]; split <;> rfl
    rw [e] at h
    cases hf : c.find? fun p => decide (p.1 = k') with
    | none => rw [hf] at h; cases h
    | some p =>
      rw [hf] at h
      simp only [Option.map_some, Option.some.injEq] at h ⊢
      split at h
      · exact .inl h.symm
      · exact .inr h
  · rw [List.find?_append] at h
    cases hf : c.find? fun p => decide (p.1 = k') with
    | none =>
      rw [hf] at h
      simp only [Option.none_or, List.find?_cons, List.find?_nil] at h
      split at h
      · simp only [Option.map_some, Option.some.injEq] at h; exact .inl h.symm
      · cases h
    | some p => rw [hf] at h; exact .inr h
/-- the table's places lie ahead of `a` -/
def Tab (c : List (Int × Int)) (a : Nat) : Prop := c.length ≤ a ∧ ∀ k x, lookI c k = some x → 0 ≤ x ∧ x < a
theorem Tab.nil (a : Nat) : Tab [] a := ⟨Nat.zero_le _, fun k x h => by cases h⟩
theorem Tab.mono {c : List (Int × Int)} {a b : Nat} (h : Tab c a) (hab : a ≤ b) : Tab c b := ⟨Nat.le_trans h.1 hab, fun k x e => by have := h.2 k x e; (first | lia | omega)⟩
theorem Tab.put {c : List (Int × Int)} {a b : Nat} {k : Int} (h : Tab c a) (hb : a < b) : Tab (kdfPut c k a) b := by
  refine ⟨Nat.le_trans (kdfPut_len c k a) (by have := h.1; (first | lia | omega)), fun k' x e => ?_⟩
  rcases lookI_put e with rfl | e
  · (first | lia | omega)
  · have := h.2 k' x e; (first | lia | omega)
theorem likeN_le (l : List UInt8) (a b e : Nat) : likeN l a b e ≤ e - a := cw_le _ _ _
theorem likeN_eq {l : List UInt8} {a b e i : Nat} (h : i < likeN l a b e) : l.getD (a + i) 0 = l.getD (b + i) 0 := by
  have := cw_true _ _ _ i h
  simp only [Nat.zero_add, beq_iff_eq] at this
  exact this
/-- what a found match is -/
theorem fmR_spec {l : List UInt8} {a : Nat} {c : List (Int × Int)} (h : Tab c a) (ha : a < l.length) :
    Tab (fmR l a c).2.2 (a + 1) ∧ 0 ≤ (fmR l a c).1 ∧ (0 < (fmR l a c).1 → ∃ m o : Nat, (fmR l a c).1 = m ∧ (fmR l a c).2.1 = o ∧ 3 ≤ m ∧ m ≤ 66 ∧ 0 < o ∧ o < 1024 ∧ o ≤ a ∧ a + m ≤ l.length ∧ ∀ i, i < m → l.getD (a + i) 0 = l.getD (a - o + i) 0) := by
  unfold fmR
  split
  · exact ⟨h.mono (by (first | lia | omega)), by simp, fun h => by simp at h⟩
  · have hp : Tab (kdfPut c (hashI l a) a) (a + 1) := h.put (by (first | lia | omega))
    split
    · exact ⟨hp, by simp, fun h => by simp at h⟩
    · rename_i b hb
      have hb2 := h.2 _ _ hb
      split
      · exact ⟨hp, by simp, fun h => by simp at h⟩
      · split
        · rename_i h3
          have hl := likeN_le l (a : Int).toNat b.toNat (min l.length ((a : Int).toNat + 66))
          refine ⟨hp, by simp, fun _ => ⟨_, ((a : Int) - b).toNat, rfl, by simp; (first | lia | omega), h3, by (first | lia | omega), by (first | lia | omega), by (first | lia | omega), by (first | lia | omega), by (first | lia | omega), fun i hi => ?_⟩⟩
          have := likeN_eq hi
          rw [show a - ((a : Int) - b).toNat + i = b.toNat + i by (first | lia | omega)]
          exact this
        · exact ⟨hp, by simp, fun h => by simp at h⟩
structure JS where
  found : List UInt8
  here : Nat
  thing : Nat
  a : Nat
  c : List (Int × Int)
def jb1 (s : JS) : List UInt8 := if s.thing = 0 then s.found ++ [0] else s.found
def jbh (s : JS) : Nat := if s.thing = 0 then s.found.length else s.here
def jbStep (l : List UInt8) (s : JS) : JS :=
  if 0 < (fmR l s.a s.c).1 then
    { found := (jb1 s).set (jbh s) (((jb1 s).getD (jbh s) 0).toNat + 2 ^ s.thing).toUInt8 ++ matchL (fmR l s.a s.c).1 (fmR l s.a s.c).2.1, here := jbh s, thing := (s.thing + 1) % 8, a := s.a + (fmR l s.a s.c).1.toNat, c := (fmR l s.a s.c).2.2 }
  else { found := jb1 s ++ [l.getD s.a 0], here := jbh s, thing := (s.thing + 1) % 8, a := s.a + 1, c := (fmR l s.a s.c).2.2 }
def jbRun (l : List UInt8) : Nat → JS → JS
  | 0, s => s
  | n + 1, s => if s.a < l.length then jbRun l n (jbStep l s) else s
def jb0 : JS := ⟨[], 0, 0, 0, []⟩
def jbF (l : List UInt8) : List UInt8 := (jbRun l l.length jb0).found
/-- what holds of every state -/
structure JW (l : List UInt8) (s : JS) : Prop where
  a : s.a ≤ l.length
  t : s.thing < 8
  h : 0 < s.thing → s.here < s.found.length ∧ (s.found.getD s.here 0).toNat < 2 ^ s.thing
  c : Tab s.c s.a
def JR (l : List UInt8) (s : JS) : Prop := JW l s ∧ ∃ n, l.length - s.a ≤ n ∧ (jbRun l n s).found = jbF l
theorem matchL_len (m o : Int) : (matchL m o).length = 2 := rfl
theorem jb1_len (s : JS) : (jb1 s).length = s.found.length + (if s.thing = 0 then 1 else 0) := by
  unfold jb1; split <;> simp
theorem pow_le {t : Nat} (h : t < 8) : 2 ^ t ≤ 128 := by
  have : t ≤ 7 := by (first | lia | omega)
  exact Nat.pow_le_pow_right (by decide) this
theorem JW.head {l : List UInt8} {s : JS} (w : JW l s) : jbh s < (jb1 s).length ∧ ((jb1 s).getD (jbh s) 0).toNat < 2 ^ s.thing := by
  unfold jb1 jbh
  by_cases h : s.thing = 0
  · rw [if_pos h, if_pos h]
    refine ⟨by simp, ?_⟩
    have e : (s.found ++ [0]).getD s.found.length 0 = (0 : UInt8) := by
      rw [List.getD_eq_getElem?_getD, List.getElem?_append_right (Nat.le_refl _)]; simp
    rw [e, h]; decide
  · rw [if_neg h, if_neg h]
    exact w.h (by (first | lia | omega))
theorem getD_app {x y : List UInt8} {i : Nat} (h : i < x.length) : (x ++ y).getD i 0 = x.getD i 0 := by
  rw [List.getD_eq_getElem?_getD, List.getD_eq_getElem?_getD, List.getElem?_append_left h]
theorem getD_set_ne {x : List UInt8} {i j : Nat} {v : UInt8} (h : i ≠ j) : (x.set j v).getD i 0 = x.getD i 0 := by
  rw [List.getD_eq_getElem?_getD, List.getD_eq_getElem?_getD, List.getElem?_set_ne (Ne.symm h)]
theorem getD_set_eq {x : List UInt8} {j : Nat} {v : UInt8} (h : j < x.length) : (x.set j v).getD j 0 = v := by
  rw [List.getD_eq_getElem?_getD, List.getElem?_set_self h]; rfl
theorem nat_u8 {k : Nat} (h : k < 256) : (k.toUInt8).toNat = k := by
  simp [Nat.toUInt8, UInt8.toNat_ofNat']
  (first | lia | omega)
/-- the step's own facts: the ways of the marks octet and of the rest -/
theorem step_facts {l : List UInt8} {s : JS} (w : JW l s) (ha : s.a < l.length) :
    JW l (jbStep l s) ∧ s.a + 1 ≤ (jbStep l s).a ∧ (jbStep l s).here = jbh s ∧ (jb1 s).length ≤ (jbStep l s).found.length ∧
    (∀ i, i < (jb1 s).length → i ≠ jbh s → (jbStep l s).found.getD i 0 = (jb1 s).getD i 0) ∧
    ((jbStep l s).found.getD (jbh s) 0).toNat = ((jb1 s).getD (jbh s) 0).toNat + (if 0 < (fmR l s.a s.c).1 then 2 ^ s.thing else 0) := by
  obtain ⟨f1, f2, f3⟩ := fmR_spec w.c ha
  obtain ⟨h1, h2⟩ := w.head
  have hp := pow_le w.t
  have ht2 : (s.thing + 1) % 8 < 8 := Nat.mod_lt _ (by decide)
  have hpow : 2 ^ (s.thing + 1) = 2 * 2 ^ s.thing := by rw [Nat.pow_succ]; (first | lia | omega)
  have ht3 : 0 < (s.thing + 1) % 8 → (s.thing + 1) % 8 = s.thing + 1 := fun h => by have := w.t; (first | lia | omega)
  unfold jbStep
  by_cases hm : 0 < (fmR l s.a s.c).1
  · obtain ⟨m, o, e1, e2, m3, m66, o0, o1, oa, am, _⟩ := f3 hm
    rw [if_pos hm, if_pos hm]
    have hset : ((jb1 s).set (jbh s) (((jb1 s).getD (jbh s) 0).toNat + 2 ^ s.thing).toUInt8 ++ matchL (fmR l s.a s.c).1 (fmR l s.a s.c).2.1).getD (jbh s) 0 = (((jb1 s).getD (jbh s) 0).toNat + 2 ^ s.thing).toUInt8 := by
      rw [getD_app (by rw [List.length_set]; exact h1), getD_set_eq h1]
    have hn : ((((jb1 s).getD (jbh s) 0).toNat + 2 ^ s.thing).toUInt8).toNat = ((jb1 s).getD (jbh s) 0).toNat + 2 ^ s.thing := nat_u8 (by (first | lia | omega))
    refine ⟨⟨?_, ht2, fun h => ⟨?_, ?_⟩, ?_⟩, ?_, rfl, ?_, fun i hi hne => ?_, ?_⟩
    · show s.a + (fmR l s.a s.c).1.toNat ≤ l.length; (first | lia | omega)
    · show jbh s < _; simp only [List.length_append, List.length_set]; (first | lia | omega)
    · show (List.getD (α := UInt8) _ (jbh s) 0).toNat < 2 ^ ((s.thing + 1) % 8)
      rw [ht3 h, hset, hn]; (first | lia | omega)
    · exact f1.mono (by show s.a + 1 ≤ s.a + (fmR l s.a s.c).1.toNat; (first | lia | omega))
    · show s.a + 1 ≤ s.a + (fmR l s.a s.c).1.toNat; (first | lia | omega)
    · simp only [List.length_append, List.length_set]; (first | lia | omega)
    · show List.getD (α := UInt8) _ i 0 = _
      rw [getD_app (by rw [List.length_set]; exact hi), getD_set_ne hne]
    · show (List.getD (α := UInt8) _ (jbh s) 0).toNat = _
      rw [hset, hn]
  · rw [if_neg hm, if_neg hm]
    have hg : ((jb1 s ++ [l.getD s.a 0]).getD (jbh s) 0) = (jb1 s).getD (jbh s) 0 := getD_app h1
    refine ⟨⟨?_, ht2, fun h => ⟨?_, ?_⟩, f1⟩, Nat.le_refl _, rfl, ?_, fun i hi hne => ?_, ?_⟩
    · exact ha
    · show jbh s < _; simp only [List.length_append]; (first | lia | omega)
    · show (List.getD (α := UInt8) _ (jbh s) 0).toNat < 2 ^ ((s.thing + 1) % 8)
      rw [ht3 h, hg]; (first | lia | omega)
    · simp only [List.length_append]; (first | lia | omega)
    · show List.getD (α := UInt8) _ i 0 = _
      rw [getD_app hi]
    · show (List.getD (α := UInt8) _ (jbh s) 0).toNat = _
      rw [hg]; rfl
theorem JR.init (l : List UInt8) : JR l jb0 := ⟨⟨Nat.zero_le _, by decide, fun h => absurd h (Nat.lt_irrefl _), Tab.nil _⟩, l.length, Nat.sub_le _ _, rfl⟩
theorem JR.step {l : List UInt8} {s : JS} (h : JR l s) (ha : s.a < l.length) : JR l (jbStep l s) := by
  obtain ⟨w, n, hn, e⟩ := h
  obtain ⟨w', h1, _⟩ := step_facts w ha
  cases n with
  | zero => (first | lia | omega)
  | succ n =>
    rw [jbRun, if_pos ha] at e
    exact ⟨w', n, by (first | lia | omega), e⟩
theorem JR.fin {l : List UInt8} {s : JS} (h : JR l s) (ha : ¬ s.a < l.length) : s.found = jbF l := by
  obtain ⟨w, n, hn, e⟩ := h
  cases n with
  | zero => exact e
  | succ n => rw [jbRun, if_neg ha] at e; exact e
def Lo (F : List UInt8) (s : JS) : Prop := s.found.length ≤ F.length ∧ (∀ i, i < s.found.length → (s.thing = 0 ∨ i ≠ s.here) → F.getD i 0 = s.found.getD i 0) ∧ (0 < s.thing → (F.getD s.here 0).toNat % 2 ^ s.thing = (s.found.getD s.here 0).toNat)
def Lo1 (F l : List UInt8) (s : JS) : Prop := (jbStep l s).found.length ≤ F.length ∧ (∀ i, i < (jb1 s).length → i ≠ jbh s → F.getD i 0 = (jb1 s).getD i 0) ∧
  (F.getD (jbh s) 0).toNat % 2 ^ (s.thing + 1) = ((jb1 s).getD (jbh s) 0).toNat + (if 0 < (fmR l s.a s.c).1 then 2 ^ s.thing else 0) ∧ (∀ i, (jb1 s).length ≤ i → i < (jbStep l s).found.length → F.getD i 0 = (jbStep l s).found.getD i 0)
theorem step_thing (l : List UInt8) (s : JS) : (jbStep l s).thing = (s.thing + 1) % 8 := by unfold jbStep; split <;> rfl
theorem Lo.mid {F l : List UInt8} {s : JS} (w : JW l s) (ha : s.a < l.length) (h : Lo F (jbStep l s)) : Lo1 F l s := by
  obtain ⟨w', h1, h2, h3, h4, h5⟩ := step_facts w ha
  obtain ⟨g1, g2, g3⟩ := h
  rw [step_thing, h2] at g2 g3
  obtain ⟨k1, k2⟩ := w.head
  refine ⟨g1, fun i hi hne => ?_, ?_, fun i hi hi2 => g2 i hi2 (.inr (by (first | lia | omega)))⟩
  · rw [g2 i (by (first | lia | omega)) (.inr hne), h4 i hi hne]
  · rw [← h5]
    by_cases h7 : s.thing = 7
    · rw [h7, g2 (jbh s) (by (first | lia | omega)) (.inl (by (first | lia | omega)))]
      exact Nat.mod_eq_of_lt (UInt8.toNat_lt _)
    · have ht : (s.thing + 1) % 8 = s.thing + 1 := by have := w.t; (first | lia | omega)
      rw [ht] at g3
      exact g3 (by (first | lia | omega))
theorem Lo.back {F l : List UInt8} {s : JS} (w : JW l s) (ha : s.a < l.length) (h : Lo1 F l s) : Lo F s := by
  obtain ⟨w', h1, h2, h3, h4, h5⟩ := step_facts w ha
  obtain ⟨g1, g2, g3, _⟩ := h
  have hl := jb1_len s
  refine ⟨by split at hl <;> (first | lia | omega), fun i hi hc => ?_, fun ht => ?_⟩
  · by_cases h0 : s.thing = 0
    · have e1 : jb1 s = s.found ++ [0] := by unfold jb1; rw [if_pos h0]
      have e2 : jbh s = s.found.length := by unfold jbh; rw [if_pos h0]
      rw [g2 i (by rw [e1]; simp; (first | lia | omega)) (by (first | lia | omega)), e1, getD_app hi]
    · have e1 : jb1 s = s.found := by unfold jb1; rw [if_neg h0]
      have e2 : jbh s = s.here := by unfold jbh; rw [if_neg h0]
      rw [g2 i (by rw [e1]; exact hi) (by rw [e2]; exact hc.resolve_left h0), e1]
  · have h0 : ¬ s.thing = 0 := by (first | lia | omega)
    have e1 : jb1 s = s.found := by unfold jb1; rw [if_neg h0]
    have e2 : jbh s = s.here := by unfold jbh; rw [if_neg h0]
    rw [e1, e2] at g3
    have hlt := (w.h ht).2
    have hd : 2 ^ s.thing ∣ 2 ^ (s.thing + 1) := Nat.pow_dvd_pow 2 (by (first | lia | omega))
    rw [← Nat.mod_mod_of_dvd _ hd, g3]
    split
    · rw [Nat.add_mod_right, Nat.mod_eq_of_lt hlt]
    · rw [Nat.add_zero, Nat.mod_eq_of_lt hlt]
theorem Lo.self {l : List UInt8} {s : JS} (w : JW l s) : Lo s.found s := ⟨Nat.le_refl _, fun _ _ _ => rfl, fun h => Nat.mod_eq_of_lt (w.h h).2⟩
theorem Lo.run {l : List UInt8} : ∀ n s, JW l s → Lo (jbRun l n s).found s
  | 0, s, w => Lo.self w
  | n + 1, s, w => by
    unfold jbRun
    by_cases ha : s.a < l.length
    · rw [if_pos ha]
      exact Lo.back w ha (Lo.mid w ha (Lo.run n _ (step_facts w ha).1))
    · rw [if_neg ha]; exact Lo.self w
theorem JR.lo {l : List UInt8} {s : JS} (h : JR l s) : Lo (jbF l) s := by
  obtain ⟨w, n, _, e⟩ := h
  rw [← e]; exact Lo.run n s w
theorem JR.len {l : List UInt8} {s : JS} (h : JR l s) : s.found.length ≤ (jbF l).length := h.lo.1
/-- what the reader meets at a state of the writer -/
theorem JR.dec {l pad x : List UInt8} {s : JS} (h : JR l s) (ha : s.a < l.length) (hx : x = jbF l ++ pad) :
    (jb1 s).length < x.length ∧ jbh s < x.length ∧ (x.getD (jbh s) 0).toNat / 2 ^ s.thing % 2 = (if 0 < (fmR l s.a s.c).1 then 1 else 0) ∧
    (¬ 0 < (fmR l s.a s.c).1 → (jbStep l s).a = s.a + 1 ∧ (jbStep l s).found.length = (jb1 s).length + 1 ∧ x.getD (jb1 s).length 0 = l.getD s.a 0) ∧
    (0 < (fmR l s.a s.c).1 → ∃ m o : Nat, 3 ≤ m ∧ m ≤ 66 ∧ 0 < o ∧ o < 1024 ∧ o ≤ s.a ∧ s.a + m ≤ l.length ∧ (∀ i, i < m → l.getD (s.a + i) 0 = l.getD (s.a - o + i) 0) ∧ (jbStep l s).a = s.a + m ∧ (jbStep l s).found.length = (jb1 s).length + 2 ∧
      (jb1 s).length + 1 < x.length ∧ (x.getD (jb1 s).length 0).toNat = (m - 3) * 4 + o / 256 ∧ (x.getD ((jb1 s).length + 1) 0).toNat = o % 256) := by
  have w := h.1
  obtain ⟨f1, f2, f3⟩ := fmR_spec w.c ha
  obtain ⟨w', h1, h2, h3, h4, h5⟩ := step_facts w ha
  obtain ⟨k1, k2⟩ := w.head
  obtain ⟨g1, g2, g3, g4⟩ := Lo.mid w ha (h.step ha).lo
  have hlx : x.length = (jbF l).length + pad.length := by rw [hx, List.length_append]
  have hxF : ∀ i, i < (jbF l).length → x.getD i 0 = (jbF l).getD i 0 := fun i hi => by rw [hx, getD_app hi]
  have hbit : (x.getD (jbh s) 0).toNat / 2 ^ s.thing % 2 = (if 0 < (fmR l s.a s.c).1 then 1 else 0) := by
    rw [hxF _ (by (first | lia | omega)), ← Nat.mod_mul_right_div_self, ← Nat.pow_succ, g3]
    have hp : 0 < 2 ^ s.thing := Nat.pow_pos (by decide)
    split
    · rw [Nat.add_div_right _ hp, Nat.div_eq_of_lt k2]
    · rw [Nat.add_zero, Nat.div_eq_of_lt k2]
  by_cases hm : 0 < (fmR l s.a s.c).1
  · obtain ⟨m, o, e1, e2, m3, m66, o0, o1, oa, am, al⟩ := f3 hm
    have ef : (jbStep l s).found = (jb1 s).set (jbh s) (((jb1 s).getD (jbh s) 0).toNat + 2 ^ s.thing).toUInt8 ++ matchL (fmR l s.a s.c).1 (fmR l s.a s.c).2.1 := by unfold jbStep; rw [if_pos hm]
    have ea : (jbStep l s).a = s.a + (fmR l s.a s.c).1.toNat := by unfold jbStep; rw [if_pos hm]
    have el : (jbStep l s).found.length = (jb1 s).length + 2 := by rw [ef]; simp only [List.length_append, List.length_set, matchL_len]
    have eg : ∀ j, (jbStep l s).found.getD ((jb1 s).length + j) 0 = (matchL (m : Int) (o : Int)).getD j 0 := fun j => by
      rw [ef, e1, e2, List.getD_eq_getElem?_getD, List.getElem?_append_right (by rw [List.length_set]; (first | lia | omega)), List.length_set, Nat.add_sub_cancel_left, ← List.getD_eq_getElem?_getD]
    refine ⟨by (first | lia | omega), by (first | lia | omega), hbit, fun hn => absurd hm hn, fun _ => ⟨m, o, m3, m66, o0, o1, oa, am, al, by rw [ea, e1]; rfl, el, by (first | lia | omega), ?_, ?_⟩⟩
    · rw [hxF _ (by (first | lia | omega)), g4 _ (Nat.le_refl _) (by (first | lia | omega))]
      have := eg 0
      rw [Nat.add_zero] at this
      rw [this]
      show ((((m : Int) - 3) * 4 + (o : Int) / 256).toNat.toUInt8).toNat = _
      rw [u8_nat (by (first | lia | omega)) (by (first | lia | omega))]
      (first | lia | omega)
    · rw [hxF _ (by (first | lia | omega)), g4 _ (by (first | lia | omega)) (by (first | lia | omega)), eg 1]
      show (((o : Int) % 256).toNat.toUInt8).toNat = _
      rw [u8_nat (by (first | lia | omega)) (by (first | lia | omega))]
      (first | lia | omega)
  · have ef : (jbStep l s).found = jb1 s ++ [l.getD s.a 0] := by unfold jbStep; rw [if_neg hm]
    have ea : (jbStep l s).a = s.a + 1 := by unfold jbStep; rw [if_neg hm]
    have el : (jbStep l s).found.length = (jb1 s).length + 1 := by rw [ef]; simp
    refine ⟨by (first | lia | omega), by (first | lia | omega), hbit, fun _ => ⟨ea, el, ?_⟩, fun hp => absurd hp hm⟩
    rw [hxF _ (by (first | lia | omega)), g4 _ (Nat.le_refl _) (by (first | lia | omega)), ef, List.getD_eq_getElem?_getD, List.getElem?_append_right (Nat.le_refl _)]
    simp
end Np
end

section
namespace Np
open PySem.W
structure LS where
  found : List UInt8
  b : Nat
  a : Nat
  c : List (Int × Int)
def lzStep (l : List UInt8) (s : LS) : LS :=
  match caR l s.a s.b s.c with
  | none => { found := s.found, b := s.b, a := s.a + 1, c := kdfPut s.c (wordI l s.a) s.a }
  | some (x, y, z) => { found := s.found ++ seqL ((l.drop s.b).take (x.toNat - s.b)) y z, b := (x + z).toNat, a := (x + z).toNat, c := kdfPut (kdfPut s.c (wordI l s.a) s.a) (wordI l (x + z - 2)) (x + z - 2) }
def lzRun (l : List UInt8) : Nat → LS → LS
  | 0, s => s
  | n + 1, s => if s.a + 12 ≤ l.length then lzRun l n (lzStep l s) else s
def lz0 : LS := ⟨[], 0, 0, []⟩
def lzEnd (l : List UInt8) (s : LS) : List UInt8 := s.found ++ lastL (l.drop s.b)
def lzF (l : List UInt8) : List UInt8 := lzEnd l (lzRun l l.length lz0)
theorem octI_lt (l : List UInt8) (a : Int) : 0 ≤ octI l a ∧ octI l a < 256 := by
  unfold octI
  have := (l.getD a.toNat 0).toNat_lt
  (first | lia | omega)
theorem digit_inj {x y p q : Int} (hx : 0 ≤ x ∧ x < 256) (hy : 0 ≤ y ∧ y < 256) (h : x + p * 256 = y + q * 256) : x = y ∧ p = q := by
  have e : x = y := by
    have h1 : x % 256 = y % 256 := by rw [← Int.add_mul_emod_self_right x p 256, h, Int.add_mul_emod_self_right]
    rwa [Int.emod_eq_of_lt hx.1 hx.2, Int.emod_eq_of_lt hy.1 hy.2] at h1
  subst e
  exact ⟨rfl, Int.eq_of_mul_eq_mul_right (by decide) (Int.add_left_cancel h)⟩
theorem word_split {a b c d : Int} : a + b * 256 + c * 65536 + d * 16777216 = a + (b + (c + d * 256) * 256) * 256 := by
  rw [Int.add_mul, Int.add_mul, Int.add_mul, Int.mul_assoc c 256 256, Int.mul_assoc d 256 256, Int.mul_assoc d (256 * 256) 256, ← Int.add_assoc, ← Int.add_assoc]; rfl
theorem word_inj {l : List UInt8} {a b : Int} (h : wordI l a = wordI l b) : octI l a = octI l b ∧ octI l (a + 1) = octI l (b + 1) ∧ octI l (a + 2) = octI l (b + 2) ∧ octI l (a + 3) = octI l (b + 3) := by
  unfold wordI at h
  rw [word_split, word_split] at h
  obtain ⟨e0, h⟩ := digit_inj (octI_lt l a) (octI_lt l b) h
  obtain ⟨e1, h⟩ := digit_inj (octI_lt l (a + 1)) (octI_lt l (b + 1)) h
  obtain ⟨e2, h⟩ := digit_inj (octI_lt l (a + 2)) (octI_lt l (b + 2)) h
  exact ⟨e0, e1, e2, h⟩
theorem octI_nat {l : List UInt8} {a b : Nat} (h : octI l a = octI l b) : l.getD a 0 = l.getD b 0 := by
  unfold octI at h
  exact UInt8.toNat_inj.mp (Int.ofNat.inj h)
/-- the table knows places ahead of `a`, each under its word -/
def TabW (l : List UInt8) (c : List (Int × Int)) (a : Nat) : Prop := Tab c a ∧ ∀ k x, lookI c k = some x → wordI l x = k
theorem lookI_put2 {c : List (Int × Int)} {k v k' x : Int} (h : lookI (kdfPut c k v) k' = some x) : (k' = k ∧ x = v) ∨ lookI c k' = some x := by
  by_cases hk : k' = k
  · subst hk
    rcases lookI_put h with rfl | h'
    · exact .inl ⟨rfl, rfl⟩
    · exact .inr h'
  · refine .inr ?_
    unfold lookI kdfPut at *
    split at h
    · rw [List.find?_map] at h
      have e : ((fun p : Int × Int => decide (p.1 = k')) ∘ fun p : Int × Int => if decide (p.1 = k) = true then (p.1, v) else p) = fun p => decide (p.1 = k') := by
        funext p; simp only [Function.comp]; split <;> rfl
      rw [e] at h
      cases hf : c.find? fun p => decide (p.1 = k') with
      | none => rw [hf] at h; cases h
      | some p =>
        rw [hf] at h
        have h2 := List.find?_some hf
        simp only [decide_eq_true_eq] at h2
        simp only [Option.map_some, Option.some.injEq] at h ⊢
        rw [if_neg (by simp only [decide_eq_true_eq]; (first | lia | omega))] at h
        exact h
    · rw [List.find?_append] at h
      cases hf : c.find? fun p => decide (p.1 = k') with
      | none =>
        rw [hf] at h
        simp only [Option.none_or, List.find?_cons, List.find?_nil] at h
        rw [show decide (k = k') = false by simp only [decide_eq_false_iff_not]; (first | lia | omega)] at h
        cases h
      | some p => rw [hf] at h; exact h
theorem TabW.put {l : List UInt8} {c : List (Int × Int)} {a b : Nat} (h : TabW l c a) (hb : a < b) : TabW l (kdfPut c (wordI l a) a) b := by
  refine ⟨h.1.put hb, fun k x e => ?_⟩
  rcases lookI_put2 e with ⟨rfl, rfl⟩ | e
  · rfl
  · exact h.2 k x e
theorem TabW.nil (l : List UInt8) (a : Nat) : TabW l [] a := ⟨Tab.nil a, fun k x h => by cases h⟩
theorem cw_ge {f : Nat → Bool} : ∀ (k a n : Nat), k ≤ n → (∀ i, i < k → f (a + i) = true) → k ≤ cw f a n
  | 0, _, _, _, _ => Nat.zero_le _
  | k + 1, a, 0, h, _ => absurd h (by (first | lia | omega))
  | k + 1, a, n + 1, h, hf => by
    rw [cw, if_pos (show f a = true from hf 0 (by (first | lia | omega)))]
    have := cw_ge k (a + 1) n (by (first | lia | omega)) fun i hi => by
      have := hf (i + 1) (by (first | lia | omega))
      rwa [show a + (i + 1) = a + 1 + i by (first | lia | omega)] at this
    (first | lia | omega)
theorem aheadN_le (l : List UInt8) (a b e : Nat) : aheadN l a b e ≤ min (a - e) b := cw_le _ _ _
theorem aheadN_eq {l : List UInt8} {a b e i : Nat} (h : i < aheadN l a b e) : l.getD (a - i - 1) 0 = l.getD (b - i - 1) 0 := by
  have := cw_true _ _ _ i h
  simp only [Nat.zero_add, beq_iff_eq] at this
  exact this
theorem caR_ar {a w n k b L : Nat} (hw : w < a) (h1 : n + b ≤ a) (hn : n ≤ w) (h2 : k + a + 5 ≤ L) (h4 : 4 ≤ k) :
    ∃ p o : Nat, (a : Int) - n = p ∧ (a : Int) - w = o ∧ b ≤ p ∧ p ≤ a ∧ 0 < o ∧ o ≤ p ∧ a + 4 ≤ p + (k + n) ∧ p + (k + n) + 5 ≤ L ∧ p + n = a ∧ p = o + (w - n) := by
  obtain ⟨v, rfl⟩ := Nat.exists_eq_add_of_le hn
  obtain ⟨d, rfl⟩ := Nat.exists_eq_add_of_lt hw
  refine ⟨v + d + 1, d + 1, by omega, by omega, ?_, ?_, Nat.succ_pos _, ?_, ?_, ?_, ?_, ?_⟩
  · clear hw hn h2 h4; omega
  · clear hw hn h2 h4 h1; omega
  · clear hw hn h2 h4 h1; omega
  · clear hw hn h2 h1; omega
  · clear hw hn h1 h4; omega
  · clear hw hn h2 h4 h1; omega
  · rw [Nat.add_sub_cancel_left, Nat.add_assoc, Nat.add_comm]
theorem caR_ext {l : List UInt8} {w n k p o : Nat} (hA : ∀ i, i < n → l.getD (p + n - i - 1) 0 = l.getD (w - i - 1) 0) (hB : ∀ i, i < k → l.getD (p + n + i) 0 = l.getD (w + i) 0) (hn : n ≤ w) (hp : p = o + (w - n)) (i : Nat) (hi : i < k + n) : l.getD (p + i) 0 = l.getD (p - o + i) 0 := by
  obtain ⟨v, rfl⟩ := Nat.exists_eq_add_of_le hn
  rw [Nat.add_sub_cancel_left] at hp
  rw [show p - o = v by rw [hp, Nat.add_sub_cancel_left]]
  clear hp hn
  by_cases hq : i < n
  · obtain ⟨j, rfl⟩ := Nat.exists_eq_add_of_lt hq
    have := hA j (by clear hA hB hi hq; omega)
    rw [show p + (i + j + 1) - j - 1 = p + i by clear hA hB hi hq this; omega, show i + j + 1 + v - j - 1 = v + i by clear hA hB hi hq this; omega] at this
    exact this
  · obtain ⟨j, rfl⟩ := Nat.exists_eq_add_of_le (Nat.le_of_not_lt hq)
    have := hB j (by clear hA hB hq; omega)
    rw [Nat.add_assoc, show n + v + j = v + (n + j) by clear hA hB hi hq this; omega] at this
    exact this
theorem caR_spec {l : List UInt8} {c : List (Int × Int)} {a b : Nat} {x y z : Int} (h : TabW l c a) (hb : b ≤ a) (ha : a + 12 ≤ l.length) (e : caR l a b c = some (x, y, z)) :
    ∃ p o m : Nat, x = p ∧ y = o ∧ z = m ∧ b ≤ p ∧ p ≤ a ∧ 0 < o ∧ o ≤ p ∧ 4 ≤ m ∧ a + 4 ≤ p + m ∧ p + m + 5 ≤ l.length ∧ ∀ i, i < m → l.getD (p + i) 0 = l.getD (p - o + i) 0 := by
  unfold caR at e
  cases hk : lookI c (wordI l a) with
  | none => rw [hk] at e; cases e
  | some w0 =>
    rw [hk] at e
    simp only [Option.some.injEq, Prod.mk.injEq] at e
    obtain ⟨e1, e2, e3⟩ := e
    have hw := h.1.2 _ _ hk
    have hword := h.2 _ _ hk
    obtain ⟨w, rfl⟩ : ∃ w : Nat, w0 = w := ⟨w0.toNat, by (first | lia | omega)⟩
    have g1 := aheadN_le l a w b
    have g2 := likeN_le l a w (l.length - 5)
    have t1 : ((a : Nat) : Int).toNat = a := rfl
    have t2 : ((w : Nat) : Int).toNat = w := rfl
    have t3 : ((b : Nat) : Int).toNat = b := rfl
    have t4 : ((l.length : Int) - 5).toNat = l.length - 5 := by (first | lia | omega)
    rw [t1, t2, t3] at e1
    rw [t1, t2, t3, t4] at e3
    have h4 : 4 ≤ likeN l a w (l.length - 5) := by
      refine cw_ge 4 0 _ (by (first | lia | omega)) fun i hi => ?_
      obtain ⟨w1, w2, w3, w4⟩ := word_inj hword.symm
      simp only [Nat.zero_add, beq_iff_eq]
      have hi4 : i = 0 ∨ i = 1 ∨ i = 2 ∨ i = 3 := by (first | lia | omega)
      rcases hi4 with rfl | rfl | rfl | rfl
      · exact octI_nat w1
      · exact octI_nat w2
      · exact octI_nat w3
      · exact octI_nat w4
    have hA := fun i => aheadN_eq (l := l) (a := a) (b := w) (e := b) (i := i)
    have hB := fun i => likeN_eq (l := l) (a := a) (b := w) (e := l.length - 5) (i := i)
    have hwa := Int.ofNat_lt.mp hw.2
    have g3 : aheadN l a w b + b ≤ a := by have := Nat.le_trans g1 (Nat.min_le_left _ _); clear h hA hB hw hword e1 e2 e3 g1 g2 t1 t2 t3 t4 hk h4 hwa; omega
    have g4 := Nat.le_trans g1 (Nat.min_le_right _ _)
    have g5 : likeN l a w (l.length - 5) + a + 5 ≤ l.length := by clear h hA hB hw hword e1 e2 e3 g1 t1 t2 t3 t4 hk h4 hwa g3 g4; omega
    clear h hw hword t1 t2 t3 t4 hk g1 g2
    generalize aheadN l a w b = n at *
    generalize likeN l a w (l.length - 5) = k at *
    obtain ⟨p, o, f1, f2, f3, f4, f5, f6, f7, f8, f9, f10⟩ := caR_ar hwa g3 g4 g5 h4
    subst f9
    exact ⟨p, o, k + n, by rw [← e1, f1], by rw [← e2, f2], by rw [← e3, Int.natCast_add], f3, f4, f5, f6, Nat.le_trans h4 (Nat.le_add_right _ _), f7, f8, caR_ext hA hB g4 f10⟩
structure LW (l : List UInt8) (s : LS) : Prop where
  ba : s.b ≤ s.a
  al : s.a ≤ l.length
  t : TabW l s.c s.a
theorem lz_none {l : List UInt8} {s : LS} (w : LW l s) (ha : s.a + 12 ≤ l.length) (e : caR l s.a s.b s.c = none) :
    lzStep l s = ⟨s.found, s.b, s.a + 1, kdfPut s.c (wordI l s.a) s.a⟩ ∧ LW l (lzStep l s) := by
  have h : lzStep l s = ⟨s.found, s.b, s.a + 1, kdfPut s.c (wordI l s.a) s.a⟩ := by unfold lzStep; rw [e]
  refine ⟨h, ?_⟩
  rw [h]
  exact ⟨by show s.b ≤ s.a + 1; have := w.ba; (first | lia | omega), by show s.a + 1 ≤ l.length; (first | lia | omega), w.t.put (by show s.a < s.a + 1; (first | lia | omega))⟩
theorem lzRun_pre (l : List UInt8) : ∀ n s, ∃ r, (lzRun l n s).found = s.found ++ r
  | 0, s => ⟨[], by simp [lzRun]⟩
  | n + 1, s => by
    unfold lzRun
    split
    · obtain ⟨r, hr⟩ := lzRun_pre l n (lzStep l s)
      have h : ∃ q, (lzStep l s).found = s.found ++ q := by
        unfold lzStep
        split
        · exact ⟨[], by simp⟩
        · exact ⟨_, rfl⟩
      obtain ⟨q, hq⟩ := h
      exact ⟨q ++ r, by rw [hr, hq, List.append_assoc]⟩
    · exact ⟨[], by simp⟩
theorem lz_some {l : List UInt8} {s : LS} {x y z : Int} (w : LW l s) (ha : s.a + 12 ≤ l.length) (e : caR l s.a s.b s.c = some (x, y, z)) :
    ∃ p o m : Nat, x = p ∧ y = o ∧ z = m ∧ s.b ≤ p ∧ p ≤ s.a ∧ 0 < o ∧ o ≤ p ∧ 4 ≤ m ∧ s.a + 4 ≤ p + m ∧ p + m + 5 ≤ l.length ∧ (∀ i, i < m → l.getD (p + i) 0 = l.getD (p - o + i) 0) ∧
      lzStep l s = ⟨s.found ++ seqL ((l.drop s.b).take (p - s.b)) o m, p + m, p + m, kdfPut (kdfPut s.c (wordI l s.a) s.a) (wordI l ((p + m - 2 : Nat) : Int)) ((p + m - 2 : Nat) : Int)⟩ ∧ LW l (lzStep l s) := by
  obtain ⟨p, o, m, rfl, rfl, rfl, h1, h2, h3, h4, h5, h6, h7, h8⟩ := caR_spec w.t w.ba ha e
  have e1 : ((p : Int) + (m : Int) - 2) = ((p + m - 2 : Nat) : Int) := by (first | lia | omega)
  have h : lzStep l s = ⟨s.found ++ seqL ((l.drop s.b).take (p - s.b)) o m, p + m, p + m, kdfPut (kdfPut s.c (wordI l s.a) s.a) (wordI l ((p + m - 2 : Nat) : Int)) ((p + m - 2 : Nat) : Int)⟩ := by
    unfold lzStep
    rw [e]
    simp only [e1]
    rfl
  refine ⟨p, o, m, rfl, rfl, rfl, h1, h2, h3, h4, h5, h6, h7, h8, h, ?_⟩
  rw [h]
  exact ⟨Nat.le_refl _, by show p + m ≤ l.length; (first | lia | omega), (w.t.put (b := p + m - 2) (by (first | lia | omega))).put (by show p + m - 2 < p + m; (first | lia | omega))⟩
def LR (l : List UInt8) (s : LS) : Prop := LW l s ∧ ∃ n, l.length - s.a ≤ n ∧ lzEnd l (lzRun l n s) = lzF l
theorem LR.init (l : List UInt8) : LR l lz0 := ⟨⟨Nat.le_refl _, Nat.zero_le _, TabW.nil l 0⟩, l.length, Nat.sub_le _ _, rfl⟩
theorem LR.step {l : List UInt8} {s : LS} (h : LR l s) (ha : s.a + 12 ≤ l.length) : LR l (lzStep l s) ∧ s.a < (lzStep l s).a := by
  obtain ⟨w, n, hn, e⟩ := h
  have hs : LW l (lzStep l s) ∧ s.a < (lzStep l s).a := by
    cases hc : caR l s.a s.b s.c with
    | none => obtain ⟨h1, h2⟩ := lz_none w ha hc; exact ⟨h2, by rw [h1]; show s.a < s.a + 1; (first | lia | omega)⟩
    | some r =>
      obtain ⟨x, y, z⟩ := r
      obtain ⟨p, o, m, _, _, _, _, _, _, _, _, _, _, _, h1, h2⟩ := lz_some w ha hc
      exact ⟨h2, by rw [h1]; show s.a < p + m; (first | lia | omega)⟩
  cases n with
  | zero => (first | lia | omega)
  | succ n =>
    rw [lzRun, if_pos ha] at e
    exact ⟨⟨hs.1, n, by have := hs.2; (first | lia | omega), e⟩, hs.2⟩
theorem LR.fin {l : List UInt8} {s : LS} (h : LR l s) (ha : ¬ s.a + 12 ≤ l.length) : lzEnd l s = lzF l := by
  obtain ⟨w, n, hn, e⟩ := h
  cases n with
  | zero => exact e
  | succ n => rw [lzRun, if_neg ha] at e; exact e
theorem LR.pre {l : List UInt8} {s : LS} (h : LR l s) : ∃ r, lzF l = s.found ++ r := by
  obtain ⟨w, n, hn, e⟩ := h
  obtain ⟨r, hr⟩ := lzRun_pre l n s
  exact ⟨r ++ lastL (l.drop (lzRun l n s).b), by rw [← e, lzEnd, hr, List.append_assoc]⟩
theorem LR.len {l : List UInt8} {s : LS} (h : LR l s) : s.found.length ≤ (lzF l).length := by
  obtain ⟨r, e⟩ := h.pre
  rw [e, List.length_append]; (first | lia | omega)
end Np
end

section
namespace Np
theorem LR.next {l : List UInt8} : ∀ (k : Nat) {s : LS}, l.length - s.a ≤ k → LR l s → (lzF l = s.found ++ lastL (l.drop s.b)) ∨
    ∃ (p o m : Nat) (s' : LS), LR l s' ∧ s.b ≤ p ∧ 0 < o ∧ o ≤ p ∧ 4 ≤ m ∧ p + m + 5 ≤ l.length ∧ (∀ i, i < m → l.getD (p + i) 0 = l.getD (p - o + i) 0) ∧
      s'.found = s.found ++ seqL ((l.drop s.b).take (p - s.b)) o m ∧ s'.b = p + m
  | 0, s, hk, h => .inl (h.fin (by (first | lia | omega))).symm
  | k + 1, s, hk, h => by
    by_cases ha : s.a + 12 ≤ l.length
    · obtain ⟨hs, hlt⟩ := h.step ha
      cases hc : caR l s.a s.b s.c with
      | none =>
        obtain ⟨h1, h2⟩ := lz_none h.1 ha hc
        have := LR.next k (s := lzStep l s) (by (first | lia | omega)) hs
        rw [h1] at this
        exact this
      | some r =>
        obtain ⟨x, y, z⟩ := r
        obtain ⟨p, o, m, _, _, _, g1, g2, g3, g4, g5, g6, g7, g8, h1, h2⟩ := lz_some h.1 ha hc
        refine .inr ⟨p, o, m, lzStep l s, hs, g1, g3, g4, g5, g7, g8, ?_, ?_⟩
        · rw [h1]
        · rw [h1]
    · exact .inl (h.fin ha).symm
theorem getD_at {x y : List UInt8} {i n : Nat} (h : n = x.length) : (x ++ y).getD (n + i) 0 = y.getD i 0 := by
  subst h
  rw [List.getD_eq_getElem?_getD, List.getElem?_append_right (by (first | lia | omega)), Nat.add_sub_cancel_left, ← List.getD_eq_getElem?_getD]
theorem drop_at {x y : List UInt8} {i n : Nat} (h : n = x.length) : (x ++ y).drop (n + i) = y.drop i := by
  subst h
  rw [List.drop_append]
  rw [List.drop_of_length_le (by (first | lia | omega)), List.nil_append, Nat.add_sub_cancel_left]
def mo (n : Nat) : Nat := if n < 15 then 0 else 1
theorem moreL_len' (n : Nat) : (moreL (n : Int)).length = mo n := by
  unfold moreL mo
  split <;> split <;> first | rfl | (first | lia | omega)
theorem moreL_get {n : Nat} {y : List UInt8} (h : 15 ≤ n) (h' : n < 270) : ((moreL (n : Int) ++ y).getD 0 0).toNat = n - 15 := by
  unfold moreL
  rw [if_neg (by (first | lia | omega))]
  show (((n : Int) - 15).toNat.toUInt8).toNat = _
  rw [u8_nat (by (first | lia | omega)) (by (first | lia | omega))]; (first | lia | omega)
theorem tok_nat {n m : Nat} : (((if (15 : Int) < (n : Int) then 15 else (n : Int)) * 16 + (if (15 : Int) < (m : Int) then 15 else (m : Int))).toNat.toUInt8).toNat = min n 15 * 16 + min m 15 := by
  rw [u8_nat (by split <;> split <;> (first | lia | omega)) (by split <;> split <;> (first | lia | omega))]
  split <;> split <;> (first | lia | omega)
/-- what the reader meets at a sequence -/
theorem seq_dec {F l pad x q r : List UInt8} {b p o m : Nat} (hx : x = F ++ seqL ((l.drop b).take (p - b)) o m ++ r) (hb : b ≤ p) (hp : p ≤ l.length) (hl : l.length ≤ 100) (ho : 0 < o) (ho' : o < 200) (hm : 4 ≤ m) (hm' : m < 200) :
    (x.getD F.length 0).toNat = min (p - b) 15 * 16 + min (m - 4) 15 ∧ (15 ≤ p - b → (x.getD (F.length + 1) 0).toNat = p - b - 15) ∧
    (x.drop (F.length + 1 + mo (p - b))).take (p - b) = (l.drop b).take (p - b) ∧
    (x.getD (F.length + 1 + mo (p - b) + (p - b)) 0).toNat = o % 256 ∧ (x.getD (F.length + 1 + mo (p - b) + (p - b) + 1) 0).toNat = o / 256 ∧
    (15 ≤ m - 4 → (x.getD (F.length + 1 + mo (p - b) + (p - b) + 2) 0).toNat = m - 4 - 15) ∧
    (seqL ((l.drop b).take (p - b)) o m).length = 1 + mo (p - b) + (p - b) + 2 + mo (m - 4) := by
  have hlen : ((l.drop b).take (p - b)).length = p - b := by rw [List.length_take, List.length_drop]; (first | lia | omega)
  have hx0 : x = F ++ (octs [tokI ((p - b : Nat) : Int) ((m : Int) - 4)] ++ (moreL ((p - b : Nat) : Int) ++ ((l.drop b).take (p - b) ++ (octs [(o : Int) % 256, (o : Int) / 256] ++ (moreL ((m - 4 : Nat) : Int) ++ r))))) := by
    rw [hx, seqL, hlen, show ((m : Int) - 4) = ((m - 4 : Nat) : Int) by (first | lia | omega)]
    simp only [List.append_assoc]
  have ht : (octs [tokI ((p - b : Nat) : Int) ((m : Int) - 4)]).length = 1 := rfl
  have ho2 : (octs [(o : Int) % 256, (o : Int) / 256]).length = 2 := rfl
  refine ⟨?_, fun h => ?_, ?_, ?_, ?_, fun h => ?_, ?_⟩
  · rw [hx0, show F.length = F.length + 0 from rfl, getD_at rfl]
    show ((tokI ((p - b : Nat) : Int) ((m : Int) - 4)).toNat.toUInt8).toNat = _
    rw [tokI, show ((m : Int) - 4) = ((m - 4 : Nat) : Int) by (first | lia | omega)]
    exact tok_nat
  · rw [hx0, getD_at rfl, show 1 = 1 + 0 from rfl, getD_at ht.symm, moreL_get h (by (first | lia | omega))]
  · rw [hx0, show F.length + 1 + mo (p - b) = F.length + (1 + (mo (p - b) + 0)) by (first | lia | omega), drop_at rfl, drop_at ht.symm, drop_at (moreL_len' _).symm, List.drop_zero, List.take_left' hlen]
  · rw [hx0, show F.length + 1 + mo (p - b) + (p - b) = F.length + (1 + (mo (p - b) + ((p - b) + 0))) by (first | lia | omega), getD_at rfl, getD_at ht.symm, getD_at (moreL_len' _).symm, getD_at hlen.symm]
    show (((o : Int) % 256).toNat.toUInt8).toNat = _
    rw [u8_nat (by (first | lia | omega)) (by (first | lia | omega))]; (first | lia | omega)
  · rw [hx0, show F.length + 1 + mo (p - b) + (p - b) + 1 = F.length + (1 + (mo (p - b) + ((p - b) + 1))) by (first | lia | omega), getD_at rfl, getD_at ht.symm, getD_at (moreL_len' _).symm, getD_at hlen.symm]
    show (((o : Int) / 256).toNat.toUInt8).toNat = _
    rw [u8_nat (by (first | lia | omega)) (by (first | lia | omega))]; (first | lia | omega)
  · rw [hx0, show F.length + 1 + mo (p - b) + (p - b) + 2 = F.length + (1 + (mo (p - b) + ((p - b) + (2 + 0)))) by (first | lia | omega), getD_at rfl, getD_at ht.symm, getD_at (moreL_len' _).symm, getD_at hlen.symm, getD_at ho2.symm, moreL_get h (by (first | lia | omega))]
  · rw [seqL, hlen, show ((m : Int) - 4) = ((m - 4 : Nat) : Int) by (first | lia | omega)]
    simp only [List.length_append, moreL_len', hlen]
    rfl
theorem last_dec {F l x r : List UInt8} {b : Nat} (hx : x = F ++ lastL (l.drop b) ++ r) (hb : b ≤ l.length) (hl : l.length ≤ 100) :
    (x.getD F.length 0).toNat = min (l.length - b) 15 * 16 ∧ (15 ≤ l.length - b → (x.getD (F.length + 1) 0).toNat = l.length - b - 15) ∧
    (x.drop (F.length + 1 + mo (l.length - b))).take (l.length - b) = l.drop b ∧ (lastL (l.drop b)).length = 1 + mo (l.length - b) + (l.length - b) := by
  have hlen : (l.drop b).length = l.length - b := List.length_drop
  have hx0 : x = F ++ (octs [(if 15 < ((l.length - b : Nat) : Int) then 15 else ((l.length - b : Nat) : Int)) * 16] ++ (moreL ((l.length - b : Nat) : Int) ++ (l.drop b ++ r))) := by
    rw [hx, lastL, hlen]
    simp only [List.append_assoc]
  have ht : (octs [(if 15 < ((l.length - b : Nat) : Int) then 15 else ((l.length - b : Nat) : Int)) * 16]).length = 1 := rfl
  refine ⟨?_, fun h => ?_, ?_, ?_⟩
  · rw [hx0, show F.length = F.length + 0 from rfl, getD_at rfl]
    have := tok_nat (n := l.length - b) (m := 0)
    simpa [octs] using this
  · rw [hx0, getD_at rfl, show 1 = 1 + 0 from rfl, getD_at ht.symm, moreL_get h (by (first | lia | omega))]
  · rw [hx0, show F.length + 1 + mo (l.length - b) = F.length + (1 + (mo (l.length - b) + 0)) by (first | lia | omega), drop_at rfl, drop_at ht.symm, drop_at (moreL_len' _).symm, List.drop_zero, List.take_left' hlen]
  · rw [lastL, hlen]
    simp only [List.length_append, moreL_len', hlen]
    rfl
/-- the reader at a boundary: a sequence that is the last, or one with a copy -/
structure LzLast (l x : List UInt8) (i b : Nat) : Prop where
  tok : (x.getD i 0).toNat = min (l.length - b) 15 * 16
  more : 15 ≤ l.length - b → (x.getD (i + 1) 0).toNat = l.length - b - 15
  lits : (x.drop (i + 1 + mo (l.length - b))).take (l.length - b) = l.drop b
  len : i + 1 + mo (l.length - b) + (l.length - b) ≤ x.length
structure LzSeq (l x : List UInt8) (i b p o m j : Nat) : Prop where
  tok : (x.getD i 0).toNat = min (p - b) 15 * 16 + min (m - 4) 15
  more : 15 ≤ p - b → (x.getD (i + 1) 0).toNat = p - b - 15
  lits : (x.drop (i + 1 + mo (p - b))).take (p - b) = (l.drop b).take (p - b)
  o0 : (x.getD (i + 1 + mo (p - b) + (p - b)) 0).toNat = o % 256
  o1 : (x.getD (i + 1 + mo (p - b) + (p - b) + 1) 0).toNat = o / 256
  more2 : 15 ≤ m - 4 → (x.getD (i + 1 + mo (p - b) + (p - b) + 2) 0).toNat = m - 4 - 15
  je : j = i + (1 + mo (p - b) + (p - b) + 2 + mo (m - 4))
  len : j ≤ x.length
  bp : b ≤ p
  op : 0 < o
  oa : o ≤ p
  m4 : 4 ≤ m
  pm : p + m + 5 ≤ l.length
  like : ∀ i, i < m → l.getD (p + i) 0 = l.getD (p - o + i) 0
theorem LR.dec {l pad x : List UInt8} {s : LS} (h : LR l s) (hx : x = lzF l ++ pad) (hl : l.length ≤ 100) :
    LzLast l x s.found.length s.b ∨ ∃ p o m s', LR l s' ∧ s'.b = p + m ∧ LzSeq l x s.found.length s.b p o m s'.found.length := by
  have hbl : s.b ≤ l.length := Nat.le_trans h.1.ba h.1.al
  rcases LR.next _ (Nat.le_refl _) h with e | ⟨p, o, m, s', h', h1, h2, h3, h4, h5, h6, e, h8⟩
  · have hx' : x = s.found ++ lastL (l.drop s.b) ++ pad := by rw [hx, e]
    obtain ⟨g1, g2, g3, g4⟩ := last_dec hx' hbl hl
    refine .inl ⟨g1, g2, g3, ?_⟩
    rw [hx']
    simp only [List.length_append, g4]
    (first | lia | omega)
  · obtain ⟨r, hr⟩ := h'.pre
    have hx' : x = s.found ++ seqL ((l.drop s.b).take (p - s.b)) o m ++ (r ++ pad) := by rw [hx, hr, e]; simp only [List.append_assoc]
    obtain ⟨g1, g2, g3, g4, g5, g6, g7⟩ := seq_dec (q := []) (pad := []) hx' h1 (by (first | lia | omega)) hl h2 (by (first | lia | omega)) h4 (by (first | lia | omega))
    refine .inr ⟨p, o, m, s', h', h8, g1, g2, g3, g4, g5, g6, ?_, ?_, h1, h2, h3, h4, h5, h6⟩
    · rw [e, List.length_append, g7]
    · rw [hx', e]
      simp only [List.length_append]
      (first | lia | omega)
end Np
end

section
namespace Np
theorem mo_lt {n : Nat} (h : n < 15) : mo n = 0 := by unfold mo; rw [if_pos h]
theorem mo_ge {n : Nat} (h : 15 ≤ n) : mo n = 1 := by unfold mo; rw [if_neg (by (first | lia | omega))]
theorem lenA {x : List UInt8} {i n k : Nat} (h : (x.getD i 0).toNat = min n 15 * 16 + k) (hk : k < 16) (hm : 15 ≤ n → (x.getD (i + 1) 0).toNat = n - 15) (hl : i + 1 + mo n ≤ x.length) (hn : n < 200) :
    ((((x.getD ((i : Nat) : Int).toNat 0).toNat : Nat) : Int) / 16 < 15 ∧ ((n : Nat) : Int) = (((x.getD ((i : Nat) : Int).toNat 0).toNat : Nat) : Int) / 16 ∧ ((i + 1 + mo n : Nat) : Int) = ((i : Nat) : Int) + 1) ∨
    ((((x.getD ((i : Nat) : Int).toNat 0).toNat : Nat) : Int) / 16 = 15 ∧ ((i : Nat) : Int) + 1 < x.length ∧ (x.getD (((i : Nat) : Int) + 1).toNat 0).toNat < 255 ∧ ((n : Nat) : Int) = 15 + (x.getD (((i : Nat) : Int) + 1).toNat 0).toNat ∧ ((i + 1 + mo n : Nat) : Int) = ((i : Nat) : Int) + 1 + 1) := by
  rw [Int.toNat_natCast, show (((i : Nat) : Int) + 1).toNat = i + 1 by (first | lia | omega), h]
  by_cases h15 : n < 15
  · rw [mo_lt h15]
    exact .inl ⟨by (first | lia | omega), by (first | lia | omega), by (first | lia | omega)⟩
  · rw [mo_ge (by (first | lia | omega))] at hl ⊢
    have := hm (by (first | lia | omega))
    exact .inr ⟨by (first | lia | omega), by (first | lia | omega), by (first | lia | omega), by (first | lia | omega), by (first | lia | omega)⟩
theorem lenB {x : List UInt8} {i m k i2 : Nat} {z : Int} (h : (x.getD i 0).toNat = k * 16 + min m 15) (hz : z = ((i2 : Nat) : Int)) (hm : 15 ≤ m → (x.getD (i2 + 2) 0).toNat = m - 15) (hl : i2 + 2 + mo m ≤ x.length) (hn : m < 200) :
    ((((x.getD ((i : Nat) : Int).toNat 0).toNat : Nat) : Int) % 16 < 15 ∧ ((m : Nat) : Int) = (((x.getD ((i : Nat) : Int).toNat 0).toNat : Nat) : Int) % 16 ∧ ((i2 + 2 + mo m : Nat) : Int) = z + 2) ∨
    ((((x.getD ((i : Nat) : Int).toNat 0).toNat : Nat) : Int) % 16 = 15 ∧ z + 2 < x.length ∧ (x.getD (z + 2).toNat 0).toNat < 255 ∧ ((m : Nat) : Int) = 15 + (x.getD (z + 2).toNat 0).toNat ∧ ((i2 + 2 + mo m : Nat) : Int) = z + 2 + 1) := by
  subst hz
  rw [Int.toNat_natCast, show (((i2 : Nat) : Int) + 2).toNat = i2 + 2 by (first | lia | omega), h]
  by_cases h15 : m < 15
  · rw [mo_lt h15]
    exact .inl ⟨by (first | lia | omega), by (first | lia | omega), by (first | lia | omega)⟩
  · rw [mo_ge (by (first | lia | omega))] at hl ⊢
    have := hm (by (first | lia | omega))
    exact .inr ⟨by (first | lia | omega), by (first | lia | omega), by (first | lia | omega), by (first | lia | omega), by (first | lia | omega)⟩
theorem take_ext {l : List UInt8} {b n : Nat} : l.take b ++ (l.drop b).take n = l.take (b + n) := by rw [List.take_add]
end Np
end

section
namespace Np
def pkF (which : Nat) (l : List UInt8) : List UInt8 := if which = 1 then zleF l else if which = 2 then jbF l else lzF l
def upN (n s : Nat) : Nat := (n + s - 1) / s * s
def wholeL (l : List UInt8) (s : Nat) : List UInt8 := l ++ List.replicate (upN l.length s - l.length) 0
abbrev dueOk (which : Nat) (l : List UInt8) (s : Nat) : Prop := which ≠ 0 ∧ 0 < (pkF which l).length ∧ upN (pkF which l).length s < upN l.length s
def dueW (which : Nat) (l : List UInt8) (s : Nat) : Nat := if dueOk which l s then which else 0
def dueL (which : Nat) (l : List UInt8) (s : Nat) : List UInt8 := if dueOk which l s then wholeL (pkF which l) s else wholeL l s
theorem upN_ge {n s : Nat} (hs : 0 < s) : n ≤ upN n s := by
  unfold upN
  have := Nat.div_add_mod (n + s - 1) s
  have h2 := Nat.mod_lt (n + s - 1) hs
  rw [Nat.mul_comm] at this
  (first | lia | omega)
theorem upN_lt {n s : Nat} (hs : 0 < s) : upN n s < n + s := by
  unfold upN
  have := Nat.div_add_mod (n + s - 1) s
  rw [Nat.mul_comm] at this
  (first | lia | omega)
theorem upN_mod {n s : Nat} : upN n s % s = 0 := by unfold upN; exact Nat.mul_mod_left _ _
theorem mul_lt_step {a b s : Nat} (h : a * s < b * s) : a * s + s ≤ b * s := by
  have : a < b := Nat.lt_of_mul_lt_mul_right h
  have h2 : (a + 1) * s ≤ b * s := Nat.mul_le_mul_right s this
  rw [Nat.add_mul, Nat.one_mul] at h2
  exact h2
/-- the packed fits the room of a sector less: as whole sectors it wants fewer -/
theorem fits_iff {p n s : Nat} (hs : 0 < s) (hp : 0 < p) : p ≤ upN n s - s ↔ upN p s < upN n s := by
  have hp1 := upN_ge (n := p) hs
  have hp2 := upN_lt (n := p) hs
  constructor
  · intro h
    by_cases hn : upN n s < s
    · (first | lia | omega)
    · by_cases h2 : upN p s < upN n s
      · exact h2
      · exfalso
        (first | lia | omega)
  · intro h
    unfold upN at h hp1 ⊢
    have := mul_lt_step h
    (first | lia | omega)
theorem whole_len {l : List UInt8} {s : Nat} (hs : 0 < s) : (wholeL l s).length = upN l.length s := by
  unfold wholeL
  rw [List.length_append, List.length_replicate]
  have := upN_ge (n := l.length) hs
  (first | lia | omega)
theorem up_stop {n j s : Nat} (hs : 0 < s) (hj : n + j ≤ upN n s) : (n + j) % s = 0 ↔ n + j = upN n s := by
  constructor
  · intro h
    have h2 := upN_lt (n := n) hs
    have h3 : upN n s % s = 0 := upN_mod
    have h4 : (upN n s - (n + j)) % s = 0 := by
      have hd1 := Nat.dvd_of_mod_eq_zero h
      have hd2 := Nat.dvd_of_mod_eq_zero h3
      exact Nat.mod_eq_zero_of_dvd (Nat.dvd_sub hd2 hd1)
    rw [Nat.mod_eq_of_lt (by (first | lia | omega))] at h4
    (first | lia | omega)
  · intro h; rw [h]; exact upN_mod
end Np
end

section
namespace Np
open PySem PySem.W PySem.Spec PySem.Calls PyProof.Rows
open Sem (wp)
section
variable {prog : Program} {w : World} {A : Around} {E : Value → Shared → Prop} {R : Result → Shared → Prop} {s : Shared}
end
end Np
end

section
namespace Np
open PySem PySem.W PySem.Spec PySem.Calls PyProof.Rows
open Sem (wp)
section
variable {M : Model} {A : Around} {E : Value → Shared → Prop} {s : Shared} {env : Env}
theorem callWith_ofC {pos : Pos} {f : Value} {first : List Value} {Q : Value → Shared → Prop} {P : Heap → Prop} {args : List (Bool × Sem Value)} {keywords : List (Option Str × Sem Value)} (hplain : (args.any (·.1) || keywords.any (·.1.isNone)) = false)
    (hk : ∀ h, P h → ∃ k, (k = Keeper.frame ∨ k = Keeper.machine ∨ k = Keeper.boundFrame) ∧ Looks M h (keeperOf f) k)
    (h : wpAny M A (evalArgs f true args keywords) (fun a s₁ => P s₁.heap ∧ wpC M A (call f (first ++ a.pos) a.kw) Q E s₁) E s) : wpC M A (callWith pos f first args keywords) Q E s := by
  unfold callWith
  refine wpC_bindA (wpAny_holding (wpAny_mono h (fun a s₁ h₁ => wpC_standAt ?_) fun _ _ x => x))
  obtain ⟨k, hk', L⟩ := hk _ h₁.1
  simp only [hplain]
  refine wpC_bindA (L.here ?_)
  have marked (mk : Value) : wpC M A (callMarked mk f (first ++ a.pos) a.kw) Q E s₁ := callMarkedC h₁.2
  rcases hk' with rfl | rfl | rfl <;> dsimp only <;> first | exact call_tailC h₁.2 | (split <;> first | exact call_tailC h₁.2 | exact call_tailC (marked _))
theorem callWith_KC {K : Frag} {pos : Pos} {f : Value} {first : List Value} {h₀ : Heap} {e : Expr} {rest : List Expr} {Q : Value → Shared → Prop} (_X : K.In h₀) (hk : keepIn K f = true)
    (h : wpAny M A (spliced (backTo pos (starEach (e :: rest) env))) (fun vs s₁ => K.In s₁.heap ∧ wpC M A (call f (first ++ vs)) Q E s₁) E s)
    (he : starEach (e :: rest) env = (false, eval e env) :: starEach rest env := by rfl) (hplain : (backTo pos (starEach rest env)).any (·.1) = false := by rfl) :
    wpC M A (callWith pos f first (backTo pos (starEach (e :: rest) env)) []) Q E s := by
  rw [he] at h ⊢
  exact callWith_ofC (by show ((false || (backTo pos (starEach rest env)).any (·.1)) || false) = false; rw [hplain]; rfl) (keeps_K hk) (evalArgs_plain h)
theorem CallC' {func : Expr} {args : List Expr} {pos : Pos} {Q : Value → Shared → Prop}
    (h : wpAny M A (eval func env) (fun f s₁ => wpC M A (callWith pos f [] (backTo pos (starEach args env)) []) Q E s₁) E s)
    (he : eval (.Call func args [] pos) env = (do callWith pos (← eval func env) [] (backTo pos (starEach args env)) (backToKw pos (keywordEach [] env))) := by rfl) :
    wpC M A (eval (.Call func args [] pos) env) Q E s := CallC h he
end
section
variable {prog : Program} {w : World} {A : Around} {E : Value → Shared → Prop} {s : Shared} {env : Env}
theorem return_call {e : Expr} {pos : Pos} {rest : List Stmt} {Q : Flow → Shared → Prop} (h : wpC (model prog w) A (eval e env) (fun v => Q (.ret v)) E s) :
    wpC (model prog w) A (execs (.Return (some e) pos :: rest) env) Q E s := wpC_execs_cons (wpC_Return h)
end
end Np
end

section
namespace Np
open PySem PySem.W PySem.Spec PySem.Calls PyProof.Rows
/-- an exception in flight that has its own dict -/
def FlyAt (base : Heap) (l : List Env) (e : Addr) (C : Value) (dd : Addr) (fl : Value) (h : Heap) : Prop :=
  base.StaysIn h ∧ base.get? e = none ∧ h.FunFrames base l ∧
  ∃ oe vs T oT ts, h.get? e = some oe ∧ oe.cls = C ∧ oe.dict = some dd ∧ oe.data = .fields vs ∧ vs[1]? = some (.ref T) ∧ base.get? T = none ∧ T ≠ e ∧ h.get? T = some oT ∧ oT.data = .fields ts ∧ ts[3]? = some fl
theorem dict_mapFields (o : Obj) (f : Array Value → Array Value) : (o.mapFields f).dict = o.dict := by
  unfold Obj.mapFields
  split <;> rfl
section
variable {M : Model} {A : Around} {E : Value → Shared → Prop} {s : Shared}
theorem exd_entry {base : Heap} {env : Env} {outer : List Env} {L e dd : Addr} {oe : Obj} {vs : Array Value} {head : Value} {hadNext : Bool} {Q : Unit → Shared → Prop}
    (hfr : A.frames = some (env :: outer)) (hl : s.heap.FunFrames base (env :: outer)) (hf : env.frame = some L)
    (he : s.heap.get? e = some oe) (hkb : base.StaysIn s.heap) (hen : base.get? e = none) (hd : oe.data = .fields vs) (hsz : 1 < vs.size) (hdict : oe.dict = some dd)
    (h : ∀ h', FlyAt base (env :: outer) e oe.cls dd (rawInt L) h' → s.heap.UpToSlots h' → Q () { s with heap := h' }) :
    wpAny M A (do let a ← frameOf env; let pl ← entryPlaceOf L hadNext; let b ← EntryCells.newEntry head a .none (rawInt L) .none pl; setField (.ref e) 1 b) Q E s := by
  have hene : e ∉ (env :: outer).filterMap (·.frame) := fun hm => by
    obtain ⟨_, o, ho, hnf⟩ := hl.mem hm
    rw [he] at ho; injection ho with ho; subst ho; exact hnf vs hd
  refine wpAny_bind (wpAny_frameOf_fun hfr hl hf fun h₁ hs₁ => wpAny_bind (wpAny_entryPlaceOf fun pl hpl => ?_))
  unfold EntryCells.newEntry newFields
  refine wpAny_bind (wpAny_newObj_type ?_ (hpl.sizeOk5 _ _ _ _ _))
  have he₁ : h₁.get? e = some oe := (hs₁.2.1 e hene).trans he
  have kb₁ : base.StaysIn h₁ := fun b o hbo => (hs₁.2.1 b fun hm => by rw [(hl.mem hm).1] at hbo; cases hbo).trans (hkb b o hbo)
  generalize ho : ({ cls := .type "traceback", dict := none, data := .fields ([head, .ref L, .none, rawInt L, .none] ++ (if pl.isEmpty then List.replicate 6 Value.none else pl)).toArray } : Obj) = oT
  have hTe : h₁.objs.size ≠ e := Nat.ne_of_gt (Heap.lt_size he₁)
  refine wpAny_setField (Heap.get?_push_of_some _ he₁) hd hsz (h _ ?_ ?_)
  · have keep : ∀ b o, b ≠ e → h₁.get? b = some o → ((h₁.push oT).update e (Obj.mapFields (·.setIfInBounds 1 (Value.ref h₁.objs.size)))).get? b = some o := fun b o hbe hb => by
      rw [Heap.get?_update_other _ _ (Ne.symm hbe)]
      exact Heap.get?_push_of_some _ hb
    refine ⟨fun b o hbo => keep b o (fun q => by rw [q, hen] at hbo; cases hbo) (kb₁ b o hbo), hen, hl.of_keeps fun b o hb hnf => ?_, ?_⟩
    · obtain ⟨sl, hsl⟩ := hs₁.2.2 b o hb
      refine ⟨_, keep b _ (fun q => ?_) hsl, rfl⟩
      rw [q, he] at hb; injection hb with hb; subst hb; exact hnf vs hd
    · refine ⟨_, _, h₁.objs.size, oT, ([head, .ref L, .none, rawInt L, .none] ++ (if pl.isEmpty then List.replicate 6 Value.none else pl)).toArray, Heap.get?_update_self _ (Heap.get?_push_of_some _ he₁) (Obj.isFreed_of_fields (Obj.data_mapFields hd _)), Obj.cls_mapFields _ _, (dict_mapFields _ _).trans hdict, Obj.data_mapFields hd _, ?_, kb₁.fresh, hTe, ?_, by rw [← ho], ?_⟩
      · simp [hsz]
      · rw [Heap.get?_update_other _ _ (Ne.symm hTe)]
        exact Heap.get?_push_size h₁ (by rw [← ho]; rfl)
      · rcases hpl with rfl | ⟨_, _, _, _, _, _, _, rfl⟩ <;> simp
  · intro b o hb hnf
    obtain ⟨sl, hsl⟩ := hs₁.2.2 b o hb
    refine ⟨sl, ?_⟩
    have hbe : b ≠ e := fun q => by rw [q, he] at hb; injection hb with hb; subst hb; exact hnf vs hd
    rw [Heap.get?_update_other _ _ (Ne.symm hbe)]
    exact Heap.get?_push_of_some _ hsl
/-- the exception's first note -/
theorem exd_note0 {base : Heap} {env : Env} {outer : List Env} {L e dd : Addr} {oe : Obj} {vs : Array Value} {Q : Unit → Shared → Prop}
    (hfr : A.frames = some (env :: outer)) (hl : s.heap.FunFrames base (env :: outer)) (hf : env.frame = some L)
    (he : s.heap.get? e = some oe) (hkb : base.StaysIn s.heap) (hen : base.get? e = none) (hd : oe.data = .fields vs) (h1 : vs[1]? = some .none) (hdict : oe.dict = some dd)
    (h : ∀ h', FlyAt base (env :: outer) e oe.cls dd (rawInt L) h' → s.heap.UpToSlots h' → Q () { s with heap := h' }) : wpAny M A (noteFrame (.ref e) env) Q E s := by
  unfold noteFrame
  simp only [hf]
  refine wpAny_bind (wpAny_field he hd h1 ?_)
  rw [if_neg (by decide)]
  exact exd_entry hfr hl hf he hkb hen hd (Array.getElem?_eq_some_iff.mp h1).1 hdict h
/-- a further frame notes it -/
theorem exd_note {base : Heap} {env : Env} {outer : List Env} {L e dd : Addr} {C : Value} {Q : Unit → Shared → Prop}
    (hfr : A.frames = some (env :: outer)) (hf : env.frame = some L) (x : FlyAt base (env :: outer) e C dd .none s.heap)
    (h : ∀ h', FlyAt base (env :: outer) e C dd (rawInt L) h' → s.heap.UpToSlots h' → Q () { s with heap := h' }) : wpAny M A (noteFrame (.ref e) env) Q E s := by
  obtain ⟨hkb, hen, hl, oe, vs, T, oT, ts, he, hc, hdict, hd, h1, hnT, hTe, hT, hdT, h3⟩ := x
  subst hc
  unfold noteFrame
  simp only [hf]
  refine wpAny_bind (wpAny_field he hd h1 ?_)
  rw [if_pos (show (Value.ref T != Value.none) = true from by simp)]
  refine wpAny_bind (wpAny_field hT hdT h3 ?_)
  rw [if_neg (show ¬ ((Value.none == rawInt L) = true) from by simp [rawInt])]
  refine wpAny_bind (wpAny_setField hT hdT (Array.getElem?_eq_some_iff.mp h3).1 ?_)
  have other : ∀ b, b ≠ T → (s.heap.update T (Obj.mapFields (·.setIfInBounds 3 Value.none))).get? b = s.heap.get? b := fun b hb => Heap.get?_update_other _ _ (Ne.symm hb)
  have noRec : ∀ b o, s.heap.get? b = some o → (∀ vs, o.data ≠ .fields vs) → b ≠ T := fun b o hb hnf q => by
    rw [q, hT] at hb; injection hb with hb; subst hb; exact hnf ts hdT
  refine exd_entry hfr (hl.of_keeps fun b o hb hnf => ⟨o, (other b (noRec b o hb hnf)).trans hb, rfl⟩) hf ((other e (Ne.symm hTe)).trans he)
    (fun b o hbo => (other b fun q => by rw [q, hnT] at hbo; cases hbo).trans (hkb b o hbo)) hen hd (Array.getElem?_eq_some_iff.mp h1).1 hdict
    fun h' x1 x2 => h h' x1 fun b o hb hnf => x2 b o ((other b (noRec b o hb hnf)).trans hb) hnf
/-- the frame that it notes is the one that holds it already -/
theorem exd_again {base : Heap} {l : List Env} {env : Env} {L e dd : Addr} {C : Value} {Q : Unit → Shared → Prop} (hf : env.frame = some L) (x : FlyAt base l e C dd (rawInt L) s.heap) (h : Q () s) : wpAny M A (noteFrame (.ref e) env) Q E s := by
  obtain ⟨_, _, _, oe, vs, T, oT, ts, he, hc, hdict, hd, h1, hnT, hTe, hT, hdT, h3⟩ := x
  unfold noteFrame
  simp only [hf]
  refine wpAny_bind (wpAny_field he hd h1 ?_)
  rw [if_pos (show (Value.ref T != Value.none) = true from by simp)]
  refine wpAny_bind (wpAny_field hT hdT h3 ?_)
  rw [if_pos (show (rawInt L == rawInt L) = true from by simp)]
  exact wpAny_pure h
theorem exd_flight {base : Heap} {l : List Env} {e dd : Addr} {C fl : Value} {fr : Option Addr} {Q : Unit → Shared → Prop} (x : FlyAt base l e C dd fl s.heap)
    (h : ∀ h', FlyAt base l e C dd (fr.elim .none fun f => rawInt f) h' → s.heap.UpToSlots h' → Q () { s with heap := h' }) : wpAny M A (setFlight (.ref e) fr) Q E s := by
  obtain ⟨hkb, hen, hl, oe, vs, T, oT, ts, he, hc, hdict, hd, h1, hnT, hTe, hT, hdT, h3⟩ := x
  have hsz : 3 < ts.size := (Array.getElem?_eq_some_iff.mp h3).1
  have other : ∀ b, b ≠ T → (s.heap.update T (Obj.mapFields (·.setIfInBounds 3 (fr.elim Value.none fun f => rawInt f)))).get? b = s.heap.get? b := fun b hb => Heap.get?_update_other _ _ (Ne.symm hb)
  have noRec : ∀ b o, s.heap.get? b = some o → (∀ vs, o.data ≠ .fields vs) → b ≠ T := fun b o hb hnf q => by
    rw [q, hT] at hb; injection hb with hb; subst hb; exact hnf ts hdT
  unfold setFlight
  refine wpAny_bind (wpAny_field he hd h1 ?_)
  rw [if_pos (show (Value.ref T != Value.none) = true from by simp)]
  refine wpAny_setField hT hdT hsz (h _ ⟨fun b o hbo => (other b fun q => by rw [q, hnT] at hbo; cases hbo).trans (hkb b o hbo), hen, hl.of_keeps fun b o hb hnf => ⟨o, (other b (noRec b o hb hnf)).trans hb, rfl⟩,
    oe, vs, T, _, _, (other e (Ne.symm hTe)).trans he, hc, hdict, hd, h1, hnT, hTe, Heap.get?_update_self _ hT (Obj.isFreed_of_fields (Obj.data_mapFields hdT _)), Obj.data_mapFields hdT _, by simp [hsz]⟩
    fun b o hb hnf => ⟨o.slots, (other b (noRec b o hb hnf)).trans hb⟩)
theorem FlyAt.pop {base h : Heap} {env : Env} {outer : List Env} {e dd : Addr} {C fl : Value} (x : FlyAt base (env :: outer) e C dd fl h) : FlyAt base outer e C dd fl h :=
  let ⟨a, b, ⟨_, _, c⟩, d⟩ := x; ⟨a, b, c, d⟩
theorem exd_leaves0 {base : Heap} {env : Env} {outer : List Env} {L e dd : Addr} {oe : Obj} {vs : Array Value} {Q : Unit → Shared → Prop}
    (hfr : A.frames = some (env :: outer)) (hl : s.heap.FunFrames base (env :: outer)) (hf : env.frame = some L)
    (he : s.heap.get? e = some oe) (hkb : base.StaysIn s.heap) (hen : base.get? e = none) (hd : oe.data = .fields vs) (h1 : vs[1]? = some .none) (hdict : oe.dict = some dd)
    (h : ∀ h', FlyAt base outer e oe.cls dd .none h' → s.heap.UpToSlots h' → Q () { s with heap := h' }) : wpAny M A (leaving env (.ref e)) Q E s := by
  unfold leaving
  exact wpAny_bind (exd_note0 hfr hl hf he hkb hen hd h1 hdict fun h₁ x₁ u₁ => exd_flight (fr := none) x₁ fun h₂ x₂ u₂ => h h₂ x₂.pop (u₁.trans u₂))
theorem exd_leaves {base : Heap} {env : Env} {outer : List Env} {L e dd : Addr} {C : Value} {Q : Unit → Shared → Prop} (hfr : A.frames = some (env :: outer)) (hf : env.frame = some L) (x : FlyAt base (env :: outer) e C dd .none s.heap)
    (h : ∀ h', FlyAt base outer e C dd .none h' → s.heap.UpToSlots h' → Q () { s with heap := h' }) : wpAny M A (leaving env (.ref e)) Q E s := by
  unfold leaving
  exact wpAny_bind (exd_note hfr hf x fun h₁ x₁ u₁ => exd_flight (fr := none) x₁ fun h₂ x₂ u₂ => h h₂ x₂.pop (u₁.trans u₂))
theorem exd_leavesHeld {base : Heap} {env : Env} {outer : List Env} {L e dd : Addr} {C : Value} {Q : Unit → Shared → Prop} (hf : env.frame = some L) (x : FlyAt base (env :: outer) e C dd (rawInt L) s.heap)
    (h : ∀ h', FlyAt base outer e C dd .none h' → s.heap.UpToSlots h' → Q () { s with heap := h' }) : wpAny M A (leaving env (.ref e)) Q E s := by
  unfold leaving
  exact wpAny_bind (exd_again hf x (exd_flight (fr := none) x fun h₂ x₂ u₂ => h h₂ x₂.pop u₂))
end
end Np
end

section
namespace Np
open PySem PySem.W PySem.Spec PySem.Calls PyProof.Rows
def RaisedD (base G : Heap) (l : List Env) (e : Addr) (C : Value) (dd : Addr) (od : Obj) (fl : Value) (news : List (Addr × Obj)) (h : Heap) : Prop :=
  ∃ B, base.StaysIn B ∧ (∀ b o, G.get? b = some o → b ∉ l.filterMap (·.frame) → B.get? b = some o) ∧ (∀ q ∈ news, B.get? q.1 = some q.2 ∧ G.get? q.1 = none ∧ base.get? q.1 = none) ∧ FlyAt B l e C dd fl h ∧ B.get? dd = some od ∧ G.get? dd = none ∧ base.get? dd = none
theorem frames_mem {env : Env} {L b : Addr} {outer : List Env} (hf : env.frame = some L) (hm : b ∈ (env :: outer).filterMap (·.frame)) : b = L ∨ b ∈ outer.filterMap (·.frame) := by
  obtain ⟨x, he, hx⟩ := List.mem_filterMap.mp hm
  rcases List.mem_cons.mp he with rfl | he
  · rw [hf] at hx; exact .inl (Option.some.inj hx).symm
  · exact .inr (List.mem_filterMap.mpr ⟨x, he, hx⟩)
section
variable {M : Model} {A A' : Around} {E : Value → Shared → Prop} {s' : Shared} {base g g₂ : Heap} {outer : List Env} {env : Env} {L e dd : Addr} {m : Str → Option Value} {Q : Unit → Shared → Prop} {news : List (Addr × Obj)} {oe od : Obj} {C : Value} {vs : Array Value}
theorem push_frames (K : Below A base outer g) (F : Fr g L s'.heap m) (hf : env.frame = some L) (hk : env.scope.kind = .function) : s'.heap.FunFrames base (env :: outer) := by
  have hnew : base.get? L = none := by
    cases hq : base.get? L with
    | none => rfl
    | some o => exact absurd (Nat.lt_of_lt_of_le (Heap.lt_size (K.stays L o hq)) F.above) (Nat.lt_irrefl _)
  exact .cons (by rw [hk]; decide) hf F.ns hnew (K.frames.of_keeps fun b o e _ => ⟨o, F.keep b o e, rfl⟩)
/-- a raise's own function is left -/
theorem rD_leave0 (K : Below A base outer g) (hA : A'.frames = some (env :: outer)) (hf : env.frame = some L) (hk : env.scope.kind = .function) (F : Fr g L s'.heap m) (N : News g L s'.heap ((e, oe) :: news)) (hne : ∀ p ∈ news, p.1 ≠ e)
    (hc : oe.cls = C) (hd : oe.data = .fields vs) (h1 : vs[1]? = some .none) (hdict : oe.dict = some dd) (hdd : (dd, od) ∈ news)
    (hQ : ∀ h', RaisedD base g outer e C dd od .none news h' → g.UpToSlots h' → Q () { s' with heap := h' }) : wpAny M A' (leaving env (.ref e)) Q E s' := by
  subst hc
  have P := push_frames (s' := s') K F hf hk
  have hin : ∀ x ∈ (env :: outer), ∀ b, x.frame = some b → b ∈ e :: (env :: outer).filterMap (·.frame) := fun x he b hb => .tail _ (List.mem_filterMap.mpr ⟨x, he, hb⟩)
  have hge : g.get? e = none := (N _ (.head _)).2.2
  have hgL : g.get? L = none := kts_self F
  have gf : ∀ b ∈ (env :: outer).filterMap (·.frame), base.get? b = none := fun b hb => (P.mem hb).1
  have out : ∀ b, b ∈ outer.filterMap (·.frame) → ∃ o, g.get? b = some o := fun b hb => by obtain ⟨_, o, ho, _⟩ := K.frames.mem hb; exact ⟨o, ho⟩
  have st : base.StaysIn (hideAll s'.heap (e :: (env :: outer).filterMap (·.frame))) := fun b o q => hideAll_get _ (F.keep b o (K.stays b o q)) fun hm => by
    rcases List.mem_cons.mp hm with rfl | hm
    · have := K.stays _ o q; rw [hge] at this; cases this
    · rw [gf b hm] at q; cases q
  have sg : ∀ b o, g.get? b = some o → b ∉ outer.filterMap (·.frame) → (hideAll s'.heap (e :: (env :: outer).filterMap (·.frame))).get? b = some o := fun b o q nm => hideAll_get _ (F.keep b o q) fun hm => by
    rcases List.mem_cons.mp hm with rfl | hm
    · rw [hge] at q; cases q
    · rcases frames_mem hf hm with rfl | hm
      · rw [hgL] at q; cases q
      · exact nm hm
  have hl : ∀ q ∈ news, (hideAll s'.heap (e :: (env :: outer).filterMap (·.frame))).get? q.1 = some q.2 ∧ g.get? q.1 = none ∧ base.get? q.1 = none := fun q hq => by
    have z := N q (.tail _ hq)
    refine ⟨hideAll_get _ z.1 fun hm => ?_, z.2.2, kts_none K.stays z.2.2⟩
    rcases List.mem_cons.mp hm with hm | hm
    · exact hne q hq hm
    · rcases frames_mem hf hm with hm | hm
      · exact z.2.1 hm
      · obtain ⟨o, ho⟩ := out _ hm
        rw [z.2.2] at ho; cases ho
  refine exd_leaves0 (base := hideAll s'.heap (e :: (env :: outer).filterMap (·.frame))) hA (funFrames_hide P hin) hf (N _ (.head _)).1 (fun b o q => of_hideAll _ q) (hideAll_none _ (.head _)) hd h1 hdict fun h' x u => hQ h' ⟨_, st, sg, hl, x, (hl _ hdd).1, (hl _ hdd).2⟩ ((Heap.UpToSlots.of_keeps F.keep).trans u)
/-- a further function is left -/
theorem rD_leave (K : Below A base outer g) (hA : A'.frames = some (env :: outer)) (hf : env.frame = some L) (F : Fr g L g₂ m) (R : RaisedD base g₂ (env :: outer) e C dd od .none news s'.heap) (hsm : g₂.UpToSlots s'.heap)
    (hQ : ∀ h', RaisedD base g outer e C dd od .none news h' → g.UpToSlots h' → Q () { s' with heap := h' }) : wpAny M A' (leaving env (.ref e)) Q E s' := by
  obtain ⟨B, hB, hBG, hl, hfl, hdd, h2, h3⟩ := R
  exact exd_leaves hA hf hfl fun h' x u => hQ h' ⟨B, hB, fun b o q nm => hBG b o (F.keep b o q) (fun hm => by
      rcases frames_mem hf hm with rfl | hm
      · rw [kts_self F] at q; cases q
      · exact nm hm), fun q hq => ⟨(hl q hq).1, kts_none F.keep (hl q hq).2.1, (hl q hq).2.2⟩, x, hdd, kts_none F.keep h2, h3⟩ ((Heap.UpToSlots.of_keeps F.keep).trans (hsm.trans u))
/-- noted where it is raised, in a loop of the function: the frame holds it -/
theorem rD_note0 (K : Below A base outer g) (hA : A'.frames = some (env :: outer)) (hf : env.frame = some L) (hk : env.scope.kind = .function) (F : Fr g L s'.heap m) (N : News g L s'.heap ((e, oe) :: news)) (hne : ∀ p ∈ news, p.1 ≠ e)
    (hc : oe.cls = C) (hd : oe.data = .fields vs) (h1 : vs[1]? = some .none) (hdict : oe.dict = some dd) (hdd : (dd, od) ∈ news)
    (hQ : ∀ h', RaisedD base g (env :: outer) e C dd od (rawInt L) news h' → g.UpToSlots h' → Q () { s' with heap := h' }) : wpAny M A' (noteFrame (.ref e) env) Q E s' := by
  subst hc
  have P := push_frames (s' := s') K F hf hk
  have hin : ∀ x ∈ (env :: outer), ∀ b, x.frame = some b → b ∈ e :: (env :: outer).filterMap (·.frame) := fun x he b hb => .tail _ (List.mem_filterMap.mpr ⟨x, he, hb⟩)
  have hge : g.get? e = none := (N _ (.head _)).2.2
  have hgL : g.get? L = none := kts_self F
  have gf : ∀ b ∈ (env :: outer).filterMap (·.frame), base.get? b = none := fun b hb => (P.mem hb).1
  have out : ∀ b, b ∈ outer.filterMap (·.frame) → ∃ o, g.get? b = some o := fun b hb => by obtain ⟨_, o, ho, _⟩ := K.frames.mem hb; exact ⟨o, ho⟩
  have st : base.StaysIn (hideAll s'.heap (e :: (env :: outer).filterMap (·.frame))) := fun b o q => hideAll_get _ (F.keep b o (K.stays b o q)) fun hm => by
    rcases List.mem_cons.mp hm with rfl | hm
    · have := K.stays _ o q; rw [hge] at this; cases this
    · rw [gf b hm] at q; cases q
  have sg : ∀ b o, g.get? b = some o → b ∉ (env :: outer).filterMap (·.frame) → (hideAll s'.heap (e :: (env :: outer).filterMap (·.frame))).get? b = some o := fun b o q nm => hideAll_get _ (F.keep b o q) fun hm => by
    rcases List.mem_cons.mp hm with rfl | hm
    · rw [hge] at q; cases q
    · exact nm hm
  have hl : ∀ q ∈ news, (hideAll s'.heap (e :: (env :: outer).filterMap (·.frame))).get? q.1 = some q.2 ∧ g.get? q.1 = none ∧ base.get? q.1 = none := fun q hq => by
    have z := N q (.tail _ hq)
    refine ⟨hideAll_get _ z.1 fun hm => ?_, z.2.2, kts_none K.stays z.2.2⟩
    rcases List.mem_cons.mp hm with hm | hm
    · exact hne q hq hm
    · rcases frames_mem hf hm with hm | hm
      · exact z.2.1 hm
      · obtain ⟨o, ho⟩ := out _ hm
        rw [z.2.2] at ho; cases ho
  refine exd_note0 (base := hideAll s'.heap (e :: (env :: outer).filterMap (·.frame))) hA (funFrames_hide P hin) hf (N _ (.head _)).1 (fun b o q => of_hideAll _ q) (hideAll_none _ (.head _)) hd h1 hdict fun h' x u => hQ h' ⟨_, st, sg, hl, x, (hl _ hdd).1, (hl _ hdd).2⟩ ((Heap.UpToSlots.of_keeps F.keep).trans u)
theorem rD_leaveHeld (hf : env.frame = some L) (R : RaisedD base g (env :: outer) e C dd od (rawInt L) news s'.heap) (hsm : g.UpToSlots s'.heap) (hgL : g.get? L = none)
    (hQ : ∀ h', RaisedD base g outer e C dd od .none news h' → g.UpToSlots h' → Q () { s' with heap := h' }) : wpAny M A' (leaving env (.ref e)) Q E s' := by
  obtain ⟨B, hB, hBG, hl, hfl, hdd, h2⟩ := R
  exact exd_leavesHeld hf hfl fun h' x u => hQ h' ⟨B, hB, fun b o q nm => hBG b o q (fun hm => by
      rcases frames_mem hf hm with rfl | hm
      · rw [hgL] at q; cases q
      · exact nm hm), hl, x, hdd, h2⟩ (hsm.trans u)
theorem rD_flight {fl : Value} {fr : Option Addr} {l : List Env} (R : RaisedD base g l e C dd od fl news s'.heap) (hsm : g.UpToSlots s'.heap)
    (hQ : ∀ h', RaisedD base g l e C dd od (fr.elim .none fun f => rawInt f) news h' → g.UpToSlots h' → Q () { s' with heap := h' }) : wpAny M A' (setFlight (.ref e) fr) Q E s' := by
  obtain ⟨B, hB, hBG, hl, hfl, hdd, h2⟩ := R
  exact exd_flight (fr := fr) hfl fun h' x u => hQ h' ⟨B, hB, hBG, hl, x, hdd, h2⟩ (hsm.trans u)
theorem rD_note (hA : A'.frames = some (env :: outer)) (hf : env.frame = some L) (R : RaisedD base g (env :: outer) e C dd od .none news s'.heap) (hsm : g.UpToSlots s'.heap)
    (hQ : ∀ h', RaisedD base g (env :: outer) e C dd od (rawInt L) news h' → g.UpToSlots h' → Q () { s' with heap := h' }) : wpAny M A' (noteFrame (.ref e) env) Q E s' := by
  obtain ⟨B, hB, hBG, hl, hfl, hdd, h2⟩ := R
  exact exd_note hA hf hfl fun h' x u => hQ h' ⟨B, hB, hBG, hl, x, hdd, h2⟩ (hsm.trans u)
end
end Np
end

section
namespace Np
open PySem PySem.W PySem.Spec PySem.Calls PyProof.Rows
section
variable {M : Model} {A : Around} {E : Value → Shared → Prop}
variable {nm q nm' q' : Str} {C N C' N' : Addr} {bs bm bs' bm' : List Value} {hdct hdct' : Bool} {sn sn' : List Str} {sub sub' : List Value} {ab ab' : Bool} {col col' : Option Bool} {dd dd' : Option Addr} {k0 k1 k2 k3 k5 j0 j1 j2 j3 j5 : Option Value} {newId newId' : String}
theorem exm_own {h : Heap} {g : Array GenState} {d : Drawn} {t : Nat} {os : OsState} {e : Addr} {oe : Obj} {b : Bool} {Q : Bool → Shared → Prop}
    (hC : h.get? C = some (excClassObj nm q C N bs bm hdct sn sub ab col dd k0 k1 k2 k3 k5 newId)) (hC' : h.get? C' = some (excClassObj nm' q' C' N' bs' bm' hdct' sn' sub' ab' col' dd' j0 j1 j2 j3 j5 newId'))
    (he : h.get? e = some oe) (hcls : oe.cls = .ref C) (hbase : bm'.contains (.type "BaseException") = true) (hb : (Value.ref C :: bm).contains (.ref C') = b)
    (hq : Q b ⟨h, g, d, t, os⟩) : wpAny M A (excMatches (.ref e) (.ref C')) Q E ⟨h, g, d, t, os⟩ := by
  have hcB : (Value.ref C' :: bm').contains (.type "BaseException") = true := by rw [List.contains_cons, hbase, Bool.or_true]
  have f := tc_notTuple
  unfold excMatches
  repeat (first | (with_reducible refine wpAny_loadPart_at he ?_; rw [hcls]) | with_reducible refine wpAny_loadPart_at hC' ?_ | (with_reducible refine wpAny_isSubtype_exc hC' ?_; rw [hcB]) | (with_reducible refine wpAny_isSubtype_exc hC ?_; rw [hb]) | wp_step)
  all_goals (cases b <;> (wp_walk; exact hq))
end
section
variable {prog : Program} {w : World} {A₀ : Around} {E : Value → Shared → Prop} {s' : Shared} {base g g₀ G : Heap} {outer : List Env} {L a e de C C' : Addr} {m : Str → Option Value} {name : Str} {scope : Scope} {cd : Value}
  {n : Str} {b₀ : Stmt} {suite : List Stmt} {pos np : Pos} {rest : List ExceptHandler} {Q : Flow → Shared → Prop} {news : List (Addr × Obj)} {KF : Frag} {od : Obj}
  {p : Program} {loose : List Str} {mean : ExcName → Option Value} {mg mb : Str → Option Value} {x : Str}
variable {nm q nm' q' : Str} {N N' : Addr} {bs bm bs' bm' : List Value} {hdct hdct' : Bool} {sn sn' : List Str} {sub sub' : List Value} {ab ab' : Bool} {col col' : Option Bool} {dd dd' : Option Addr} {k0 k1 k2 k3 k5 j0 j1 j2 j3 j5 : Option Value} {newId newId' : String}
theorem caught_no (R : RaisedD base G (envOf name scope L a cd :: outer) e (.ref C) de od .none news s'.heap) (F : Fr g L G m) (K : Below A₀ base outer g) (hsm : G.UpToSlots s'.heap) (XB : KF.In base) (TB : Top p loose mean mg mb base)
    (ex : nsIn KF mainGlobals x = some (some (.ref C'))) (hC : KF.lookup C = some (excClassObj nm q C N bs bm hdct sn sub ab col dd k0 k1 k2 k3 k5 newId)) (hC' : KF.lookup C' = some (excClassObj nm' q' C' N' bs' bm' hdct' sn' sub' ab' col' dd' j0 j1 j2 j3 j5 newId'))
    (hbase : bm'.contains (.type "BaseException") = true) (hb : (Value.ref C :: bm).contains (.ref C') = false)
    (k : wpAny (model prog w) (A₀.deeper (envOf name scope L a cd)) (handleBy (.ref e) (envOf name scope L a cd) rest) Q E s')
    (hk : scope.kind = .function := by rfl) (hx : (envOf name scope L a cd).kindOf x = some .globalImplicit := by rfl) (hd : (x == ("__debug__" : Str)) = false := by decide) :
    wpAny (model prog w) (A₀.deeper (envOf name scope L a cd)) (handleBy (.ref e) (envOf name scope L a cd) (.ExceptHandler (some (.Name x np)) (some n) (b₀ :: suite) pos :: rest)) Q E s' := by
  obtain ⟨B, hB, hBG, hl, hfl, hdd, h2, h3⟩ := R
  obtain ⟨g₅, T₅, F₅, K₅⟩ := kts_ground K F hBG hfl.1 hsm
  have X₅ : KF.In g₅ := XB.keeps K₅.stays
  have P₅ : TopRead p loose mg mb g₅ := topRead_of (TB.keeps K₅.stays)
  obtain ⟨_, _, _, oe, _, _, _, _, hob, hobc, _⟩ := hfl
  obtain ⟨hp, gs, ds, tk, os⟩ := s'
  exact wpAny_handleBy_cons (codeAny_handlers_test (name_K F₅ X₅ P₅ ex (exm_own (F₅.keep _ _ (X₅ _ _ hC)) (F₅.keep _ _ (X₅ _ _ hC')) hob hobc hbase hb k) hk hx hd)) (by intro q; cases q)
theorem caught_yes (R : RaisedD base G (envOf name scope L a cd :: outer) e (.ref C) de od .none news s'.heap) (F : Fr g L G m) (K : Below A₀ base outer g) (hsm : G.UpToSlots s'.heap) (XB : KF.In base) (TB : Top p loose mean mg mb base)
    (D : KtsDicts (outer.filterMap (·.frame)) g) (T0 : KtsTurn (outer.filterMap (·.frame)) g₀ g)
    (ex : nsIn KF mainGlobals x = some (some (.ref C))) (hC : KF.lookup C = some (excClassObj nm q C N bs bm hdct sn sub ab col dd k0 k1 k2 k3 k5 newId))
    (hbase : bm.contains (.type "BaseException") = true)
    (k : ∀ h' g' oe vs tk, oe.cls = .ref C → oe.dict = some de → oe.data = .fields vs → KtsTurn (outer.filterMap (·.frame)) g₀ g' → Fr g' L h' (fun y => if y = n then some (.ref e) else m y) → News g' L h' ((e, oe) :: (de, od) :: news) → Below A₀ base outer g' → KF.In g' → Top p loose mean mg mb g' → KtsDicts (outer.filterMap (·.frame)) g' →
      wpAny (model prog w) ((A₀.deeper (envOf name scope L a cd)).mark (some (.ref e))) (execs (b₀ :: suite) (envOf name scope L a cd))
        (fun f s₄ => wpAny (model prog w) (A₀.deeper (envOf name scope L a cd)) (do bindName (envOf name scope L a cd) n .none; unbindBehindTheSuite (envOf name scope L a cd) n pos) (fun _ s₅ => Q f s₅) E s₄)
        (AsSuiteRaised (model prog w) ((A₀.deeper (envOf name scope L a cd)).mark (some (.ref e))) (envOf name scope L a cd) n pos (notedBy (model prog w) ((A₀.deeper (envOf name scope L a cd)).mark (some (.ref e))) (envOf name scope L a cd) (cameBackBy (model prog w) (A₀.deeper (envOf name scope L a cd)) (envOf name scope L a cd) E)))
        { s' with heap := h', toks := tk })
    (hk : scope.kind = .function := by rfl) (hlo : (envOf name scope L a cd).kindOf n = some .local := by rfl) (hx : (envOf name scope L a cd).kindOf x = some .globalImplicit := by rfl) (hd : (x == ("__debug__" : Str)) = false := by decide) :
    wpAny (model prog w) (A₀.deeper (envOf name scope L a cd)) (handleBy (.ref e) (envOf name scope L a cd) (.ExceptHandler (some (.Name x np)) (some n) (b₀ :: suite) pos :: rest)) Q E s' := by
  obtain ⟨B, hB, hBG, hl, hfl, hdd, h2, h3⟩ := R
  have hL : B.get? L = none := by
    obtain ⟨_, ⟨L', _, hf, hn', _⟩, _⟩ := hfl.2.2.1
    obtain rfl : L = L' := Option.some.inj hf
    exact hn'
  obtain ⟨g₅, T₅, F₅, K₅⟩ := kts_ground K F hBG hfl.1 hsm
  have X₅ : KF.In g₅ := XB.keeps K₅.stays
  have P₅ : TopRead p loose mg mb g₅ := topRead_of (TB.keeps K₅.stays)
  obtain ⟨_, _, _, oe₀, _, _, _, _, hob, hobc, _⟩ := id hfl
  obtain ⟨hp, gs, ds, tk, os⟩ := s'
  refine wpAny_handleBy_cons (codeAny_handlers_test (name_K F₅ X₅ P₅ ex (exm_own (b := true) (F₅.keep _ _ (X₅ _ _ hC)) (F₅.keep _ _ (X₅ _ _ hC)) hob hobc hbase (by simp) (codeAny_handlers_suite_as ?_)) hk hx hd)) (by intro q; cases q)
  refine exd_flight (fr := none) hfl fun h₆ hfl₆ hsm₆ => ?_
  obtain ⟨g₆, T₆, F₆, K₆⟩ := kts_ground K F hBG hfl₆.1 (hsm.trans hsm₆)
  obtain ⟨hst, hBe, _, oe, vs, T, oT, ts, hoe, hoec, hoed, hoef, _⟩ := id hfl₆
  have ne₆ : g₆.get? e = none := T₆.none_ _ (kts_fresh F hBG hBe fun o ho mm => by
    obtain ⟨_, o', ho', hd⟩ := K.frames.mem mm
    rw [ho] at ho'
    cases ho'
    obtain ⟨sl, hs⟩ := (hsm.trans hsm₆) _ _ (F.keep _ _ ho) hd
    rw [hoe] at hs
    cases hs
    exact hd _ hoef)
  have eL : e ≠ L := fun z => by
    obtain ⟨o, es, ep, ho, hd, _⟩ := F₆.ns
    rw [← z, hoe] at ho; cases ho
    rw [hoef] at hd; cases hd
  have inB : ∀ b o, B.get? b = some o → G.get? b = none → News g₆ L h₆ [(b, o)] := fun b o q z => by
    intro pq hpq
    rw [List.mem_singleton.mp hpq]
    refine ⟨hst _ _ q, fun y => ?_, T₆.none_ _ (kts_none F.keep z)⟩
    have y' : b = L := y
    rw [y', hL] at q; cases q
  have N₆ : News g₆ L h₆ ((e, oe) :: (de, od) :: news) := fun pq hpq => by
    rcases List.mem_cons.mp hpq with rfl | hpq
    · exact ⟨hoe, eL, ne₆⟩
    · rcases List.mem_cons.mp hpq with rfl | hpq
      · exact inB _ _ hdd h2 _ (.head _)
      · exact inB _ _ (hl _ hpq).1 (hl _ hpq).2.1 _ (.head _)
  refine stN F₆ N₆ (fun h₇ F₇ N₇ => ?_) hk hlo
  exact k h₇ g₆ oe vs _ hoec hoed hoef (T0.trans T₆) F₇ N₇ K₆ (XB.keeps K₆.stays) (TB.keeps K₆.stays) (D.turn T₆)
end
end Np
end

section
namespace Np
open PySem PySem.W PySem.Spec PySem.Calls PyProof.Rows
abbrev excObj (C t : Addr) : Obj := { cls := .ref C, data := .fields #[.ref t, .none, .none, .none, .bool false, .none] }
section
variable {prog : Program} {w : World} {A : Around} {E : Value → Shared → Prop} {R : Result → Shared → Prop} {h : Heap} {g : Array GenState} {d : Drawn} {t : Nat} {os : OsState}
variable {nm q : Str} {C N : Addr} {bs bm bmB : List Value} {hdct : Bool} {sn : List Str} {sub : List Value} {ab : Bool} {col : Option Bool} {dd : Option Addr} {k0 k1 k2 k3 k5 : Option Value} {B newId initId : String}
theorem exn_check_new {M : Model} (F : ExcBaseFacts B newId initId bmB) {rest : List Value} {Q : Unit → Shared → Prop} (hC : h.get? C = some (excClassObj nm q C N bs bm hdct sn sub ab col dd k0 k1 k2 k3 k5 newId))
    (hcont : (Value.ref C :: bm).contains (.type B) = true) (hq : Q () ⟨h, g, d, t, os⟩) : wpAny M A (checkBuiltinCall newId ⟨.ref C :: rest, []⟩) Q E ⟨h, g, d, t, os⟩ := by
  have hstar := F.noStar
  simp only [checkBuiltinCall, F.newKind, F.newSplit, F.newRow]
  repeat (first | refine wpAny_loadPart_at hC ?_ | (refine wpAny_isSubtype_exc hC ?_; rw [hcont]) | refine wpAny_staticBase_exc hC ?_ | refine wpAny_madeBy_exc hC ?_ | simp only [bne_self_eq_false, Bool.false_eq_true, if_false] | wp_step)
  exact hq
theorem exn_new (F : ExcBaseFacts B newId initId bmB) {rest : List Value} (hC : h.get? C = some (excClassObj nm q C N bs bm hdct sn sub ab col dd k0 k1 k2 k3 k5 newId))
    (hcB : (Value.ref C :: bm).contains (.type B) = true) (hcA : (Value.ref C :: bm).contains (.type "AttributeError") = false) (hcN : (Value.ref C :: bm).contains (.type "NameError") = false)
    (hq : R (.ok (.ret (.ref (h.objs.size + 1)))) ⟨(h.push { cls := .type "tuple", data := .seq rest.toArray }).push (excObj C h.objs.size), g, d, t, os⟩) (hrest : rest.length ≤ sizeLine) :
    codeAny (model prog w) A (.builtin newId ⟨.ref C :: rest, []⟩) R ⟨h, g, d, t, os⟩ := by
  have hends := F.ends
  refine PySem.codeAny_builtinAt F.entry ?_
  unfold Builtin.«BaseException.__new__»
  refine PySem.wpAt_bind ?_
  show PySem.wpAt _ _ _ (stack >>= _) _ _ _
  refine PySem.wpAt_bind (PySem.wpAt_stack fun p below => PySem.wpAt_of_wpAny ?_)
  wp_walk
  refine PySem.wpAt_of_wpAny ?_
  rw [F.owner]
  repeat (first | with_reducible refine wpAny_madeHere_exc F.canon hC ?_ | with_reducible refine wpAny_loadPart_at hC ?_ | (with_reducible refine wpAny_isSubtype_exc hC ?_; first | rw [hcB] | rw [hcA] | rw [hcN]) | wp_step)
  show R _ _
  rw [Heap.size_push]
  exact hq
theorem make_exn {K : Frag} {rest : List Value} {fI : Addr} (F : ExcBaseFacts B newId initId bmB) (X : K.In h) (hC : h.get? C = some (excClassObj nm q C N bs bm hdct sn sub ab col dd k0 k1 k2 k3 k5 newId))
    (hcB : (Value.ref C :: bm).contains (.type B) = true) (hcA : (Value.ref C :: bm).contains (.type "AttributeError") = false) (hcN : (Value.ref C :: bm).contains (.type "NameError") = false)
    (hi : findIn K (.ref C) "__init__" = some (some (.ref fI))) (hf : typeIn K (.ref fI) = some (.type "function")) (hrest : rest.length ≤ sizeLine)
    (hq : wpAny (model prog w) (A.under (.builtin "type.__call__" ⟨.ref C :: rest, []⟩)) (call (.ref fI) (.ref (h.objs.size + 1) :: rest)) (fun v s' => v = .none ∧ R (.ok (.ret (.ref (h.objs.size + 1)))) s') (fun e s' => R (.error e) s') ⟨(h.push { cls := .type "tuple", data := .seq rest.toArray }).push (excObj C h.objs.size), g, d, t, os⟩) :
    codeAny (model prog w) A (.call (.ref C) ⟨rest, []⟩) R ⟨h, g, d, t, os⟩ := by
  have f1 := tc_lookup
  have f2 := tc_bind (.ref C)
  have hT : (⟨h, g, d, t, os⟩ : Shared).TypeIs (.ref C) "type" := ⟨_, hC, rfl⟩
  refine codeAny_of_tree ?_
  show wpAny _ _ (callAny (.ref C) _) _ _ _
  repeat (any_goals (first | assumption | with_reducible refine wpAny_loadPart_at hC ?_ | wp_step))
  refine ⟨rfl, ?_⟩
  refine codeAny_call_builtin_at (Code.quiet_builtin _ (by decide +kernel)) entry_typeCall (wpAny_check_type_call_sub hC ?_)
  repeat (first | with_reducible refine wpAny_loadPart_at hC ?_ | with_reducible refine wpAny_madeBy_exc hC ?_ | wp_step)
  refine codeAny_call_builtin_code (Code.quiet_builtin _ F.quiet) (exn_check_new F hC hcB ?_)
  refine exn_new F hC hcB hcA hcN ?_ hrest
  show wpAny _ _ _ _ _ _
  have k : ∀ b o, h.get? b = some o → ((h.push { cls := .type "tuple", data := .seq rest.toArray }).push (excObj C h.objs.size)).get? b = some o := fun b o e => Heap.get?_push_of_some _ (Heap.get?_push_of_some _ e)
  have hget : ((h.push { cls := .type "tuple", data := .seq rest.toArray }).push (excObj C h.objs.size)).get? (h.objs.size + 1) = some (excObj C h.objs.size) := by heap_get
  have hcC : (Value.ref C :: bm).contains (.ref C) = true := by simp
  have hC₁ := k _ _ hC
  unfold isInstance
  repeat (first | with_reducible refine wpAny_loadPart_at hget ?_ | (with_reducible refine wpAny_isSubtype_exc hC₁ ?_; rw [hcC]) | wp_step)
  refine wpAny_isSubtype_exc hC₁ ?_
  rw [hcC]
  have t1 : Looks (model prog w) ((h.push { cls := .type "tuple", data := .seq rest.toArray }).push (excObj C h.objs.size)) (typeOf (.ref (h.objs.size + 1))) (.ref C) := (Looks.ld hget).andThen .now
  have i1 := (looks_findIn (M := model prog w) X hi).keeps k
  have b1 := (bind_fn (M := model prog w) X (.ref (h.objs.size + 1)) hf).keeps k
  show wpAny (model prog w) _ _ _ _ (⟨(h.push { cls := .type "tuple", data := .seq rest.toArray }).push (excObj C h.objs.size), g, d, t, os⟩ : Shared)
  unfold callSpecial? specialOf
  repeat (first | ((with_reducible show wpAny _ _ (call _ _ _) _ _ _); refine wpAny_mono hq (fun v s' z => ?_) fun _ _ z => z) | lk)
  obtain ⟨rfl, z⟩ := z
  exact wpAny_pure z
end
end Np
end

section
namespace Np
open PySem PySem.W PySem.Spec PySem.Calls PyProof.Rows
open PySem.Builtin PySem.Builtin.ObjectAttr
theorem exc_passes (self : Value) : refuseLoop self "__setattr__" [.type "Exception", .type "BaseException", .type "object"] = pure () := PySem.F.store_Exception.passes self
section
variable {prog : Program} {w : World} {A : Around} {E : Value → Shared → Prop} {R : Result → Shared → Prop} {s : Shared} {K : Frag} {h₀ : Heap} {L e C t : Addr} {m : Str → Option Value} {news : List (Addr × Obj)} {cd : ClassData} {name : Str} {v : Value}
theorem osa_exc {tk : Tok} (F : Fr h₀ L s.heap m) (X : K.In s.heap) (N : News h₀ L s.heap ((e, excObj C t) :: news)) (hne : ∀ p ∈ news, p.1 ≠ e)
    (hc : clsIn K C = some cd) (hd : cd.hasDict = true) (hob : cd.mro.contains (.type "object") = true) (hem : cd.mro.isEmpty = false) (hp : refuseLoop (.ref e) "__setattr__" cd.mro = pure ())
    (ht : findIn K (.ref C) name = some none)
    (h : ∀ h' d n tk', Fr h₀ L h' m → News h₀ L h' ((e, { excObj C t with dict := some d }) :: (d, dictOf (putL name (PyData.keyHash w.params name) (.str name tk') v []) n) :: news) → (∀ p ∈ news, p.1 < d) → e < d → R (.ok (.ret .none)) { s with heap := h', toks := s.toks + 1 }) :
    codeAny (model prog w) A (.call (.builtin "object.__setattr__") ⟨[.ref e, .str name tk, v], []⟩) R s := by
  have hx := (N _ (.head _)).1
  have I : InstAt s.heap e (excObj C t) C none := ⟨hx, rfl, rfl, trivial⟩
  have SF := PySem.F.store_object
  have sub : Looks (model prog w) s.heap (isInstance (.ref e) (.type "object")) true := I.type.andThen (looks_mroIn X (by unfold mroIn; rw [hc, Option.bind_some, if_neg (by rw [hem]; decide), hob]))
  refine codeAny_call_builtin SF.slot.plain SF.entry (@check_slot (model prog w) _ _ s "object.__setattr__" "object" "__setattr__" (.ref e) [.str name tk, v] [] _ SF.kind SF.split sub (SF.args (.ref e) (.str name tk) v) ?_)
  have hm : Looks (model prog w) s.heap (mroOf (.ref C)) cd.mro := (looks_clsIn X hc).andThen .now
  rw [osa_eq, refuse_eq]
  refine wpAny_bind (wpAny_bind (I.type.here (wpAny_bind (hm.here ?_))))
  rw [hp]
  refine wpAny_pure (wpAny_bind (I.type.here (wpAny_bind ((looks_findIn X ht).here (wpAny_bind (wpAny_pure ?_))))))
  show wpAny _ _ (storeInOwnDict (.ref e) (.ref C) (.str name tk) name v _) _ _ _
  refine wpAny_bind (wpAny_pure (wpAny_bind (wpAny_bind (wpAny_loadPart hx (wpAny_bind ((looks_clsIn X hc).here ?_))))))
  rw [hd]
  have F₁ := F.push emptyDict
  have N₁ := N.push F emptyDict
  have hes : e < s.heap.objs.size := Heap.lt_size hx
  have hx₁ : (s.heap.push emptyDict).get? e = some (excObj C t) := Heap.get?_push_of_some _ hx
  refine wpAny_bind (wpAny_alloc' ?_)
  refine wpAny_bind (wpAny_update' hx₁ ?_)
  obtain ⟨F₂, N₂⟩ := news_upd (pre := [(s.heap.objs.size, emptyDict)]) (f := fun o => { cls := o.cls, dict := some s.heap.objs.size, data := o.data, slots := o.slots }) F₁ N₁
    (fun p hp => by rw [List.mem_singleton.mp hp]; exact Nat.ne_of_gt hes) hne rfl rfl
  refine wpAny_pure (a := some s.heap.objs.size) ?_
  show wpAny _ _ (storeInDict s.heap.objs.size (.str name tk) name v) _ _ _
  unfold storeInDict newKeyGuard
  refine wpAny_bind (wpAny_pure (wpAny_bind ?_))
  have D := (N₂ (s.heap.objs.size, emptyDict) (.head _)).1
  obtain ⟨F₃, N₃⟩ := news_upd (pre := []) (f := Obj.putName name (PyData.keyHash w.params name) (.str name s.toks) v) F₂ N₂ (fun p hp => nomatch hp)
    (fun p hp => by
      rcases List.mem_cons.mp hp with rfl | hp
      · exact Nat.ne_of_lt hes
      · exact Nat.ne_of_lt (Heap.lt_size (N _ (.tail _ hp)).1)) (putName_dict ..) rfl
  unfold nsSet
  refine wpAny_bind (wpAny_bind (wpAny_askSetting (wpAny_pure (wpAny_bind (wpAny_mkText (wpAny_bind (wpAny_loadPart D ?_)))))))
  dsimp only
  have cz : (!(#[] : Array DictEntry).any (·.key.isStr name) && (#[] : Array DictEntry).any (·.refKey)) = false := by simp
  rw [aRefKeyMayBeTheName_at, cz]
  have D' := (N₃ (s.heap.objs.size, _) (.head _)).1
  have hz : (putL name (PyData.keyHash w.params name) (.str name s.toks) v []).length ≤ 1 := Nat.le_refl _
  refine wpAny_updatePart D ?_
  refine wpAny_bind (wpAny_lookBehind D' (pastItsLine_dict (by rw [List.size_toArray, sizeLine_eq]; (first | lia | omega))) ?_)
  refine wpAny_pure (h _ s.heap.objs.size (putN name [] 0) s.toks F₃ (fun p (hp : p ∈ _ :: _ :: _) => N₃ p ?_) (fun p hp => Heap.lt_size (N _ (.tail _ hp)).1) hes)
  rcases List.mem_cons.mp hp with rfl | hp
  · exact .tail _ (.head _)
  · rcases List.mem_cons.mp hp with rfl | hp
    · exact .head _
    · exact .tail _ (.tail _ hp)
theorem exn_set {Q : Unit → Shared → Prop} (F : Fr h₀ L s.heap m) (X₀ : K.In h₀) (N : News h₀ L s.heap ((e, excObj C t) :: news)) (hne : ∀ p ∈ news, p.1 ≠ e)
    (hs : findIn K (.ref C) "__setattr__" = some (some (.builtin "object.__setattr__"))) (hc : clsIn K C = some cd) (hd : cd.hasDict = true) (hob : cd.mro.contains (.type "object") = true) (hem : cd.mro.isEmpty = false) (hp : refuseLoop (.ref e) "__setattr__" cd.mro = pure ())
    (ht : findIn K (.ref C) name = some none)
    (h : ∀ h' d n tk', Fr h₀ L h' m → News h₀ L h' ((e, { excObj C t with dict := some d }) :: (d, dictOf (putL name (PyData.keyHash w.params name) (.str name tk') v []) n) :: news) → (∀ p ∈ news, p.1 < d) → e < d → Q () { s with heap := h', toks := s.toks + 2 }) :
    wpAny (model prog w) A (setAttr (.ref e) name v) Q E s :=
  set_plain (od := none) (X₀.keeps F.keep) ⟨(N _ (.head _)).1, rfl, rfl, trivial⟩ hs (osa_exc (s := { s with toks := s.toks + 1 }) F (X₀.keeps F.keep) N hne hc hd hob hem hp ht fun h' d n tk' F' N' l1 l2 => h h' d n tk' F' N' l1 l2)
end
section
variable {prog : Program} {w : World} {A : Around} {E : Value → Shared → Prop} {h₀ : Heap} {s : Shared} {L e t : Addr} {m : Str → Option Value} {news : List (Addr × Obj)}
variable {nm q : Str} {C N : Addr} {bs bm bmB : List Value} {hdct : Bool} {sn : List Str} {sub : List Value} {ab : Bool} {col : Option Bool} {dd : Option Addr} {k0 k1 k2 k3 k5 : Option Value} {B newId initId newId' : String}
theorem exn_check_init {h : Heap} {g : Array GenState} {d : Drawn} {tt : Nat} {os : OsState} (F : ExcBaseFacts B newId initId bmB) {M : Model} {oe : Obj} {rest : List Value} {Q : Unit → Shared → Prop}
    (hC : h.get? C = some (excClassObj nm q C N bs bm hdct sn sub ab col dd k0 k1 k2 k3 k5 newId')) (he : h.get? e = some oe) (hcls : oe.cls = .ref C) (hcB : (Value.ref C :: bm).contains (.type B) = true) (hq : Q () ⟨h, g, d, tt, os⟩) :
    wpAny M A (checkBuiltinCall initId ⟨.ref e :: rest, []⟩) Q E ⟨h, g, d, tt, os⟩ := by
  have hshort := F.noStar
  simp only [checkBuiltinCall, F.initKind, F.initSplit, F.initRow]
  repeat (first | (with_reducible refine wpAny_loadPart_at he ?_; rw [hcls]) | with_reducible refine wpAny_loadPart_at hC ?_ | (with_reducible refine wpAny_isSubtype_exc hC ?_; rw [hcB]) | wp_step)
  refine wpAny_onRaise ?_
  rw [show ∀ (a b : String) (n : Nat), Bind.check ⟨.positional, "*", B, .self, [⟨"args", .varPos, false⟩]⟩ a b n (List.map (fun x => x.fst) ({ pos := Value.ref e :: rest } : Args).kw) = pure () from
    fun a b n => check_star_args _ _ _ _ _ _]
  exact wpAny_pure hq
theorem exn_base_init {arg : Value} {Q : Value → Shared → Prop} (F : ExcBaseFacts B newId initId bmB) (Fr₀ : Fr h₀ L s.heap m) (Ns : News h₀ L s.heap ((e, excObj C t) :: news)) (hne : ∀ p ∈ news, p.1 ≠ e)
    (hC : s.heap.get? C = some (excClassObj nm q C N bs bm hdct sn sub ab col dd k0 k1 k2 k3 k5 newId')) (hcB : (Value.ref C :: bm).contains (.type B) = true)
    (h : ∀ h' t', Fr h₀ L h' m → News h₀ L h' ((e, excObj C t') :: (t', { cls := .type "tuple", data := .seq [arg].toArray }) :: news) → (∀ p ∈ news, p.1 < t') → e < t' → Q .none { s with heap := h' }) :
    wpAny (model prog w) A (call (.builtin initId) [.ref e, arg]) Q E s := by
  obtain ⟨hh, g, d, tk, os⟩ := s
  have he := (Ns _ (.head _)).1
  refine wpAny_call (codeAny_call_builtin F.init.plain F.initEntry (exn_check_init F hC he rfl hcB ?_))
  wp_walk
  have hes : e < hh.objs.size := Heap.lt_size he
  obtain ⟨F₂, N₂⟩ := news_upd (pre := [(hh.objs.size, { cls := .type "tuple", data := .seq [arg].toArray })]) (f := Obj.mapFields fun x => x.setIfInBounds 0 (Value.ref hh.objs.size)) (o' := excObj C hh.objs.size) (Fr₀.push _) (Ns.push Fr₀ { cls := .type "tuple", data := .seq [arg].toArray })
    (fun p hp => by rw [List.mem_singleton.mp hp]; exact Nat.ne_of_gt hes) hne rfl rfl
  refine h _ hh.objs.size F₂ (fun p (hp : p ∈ _ :: _ :: _) => N₂ p ?_) (fun p hp => Heap.lt_size (Ns _ (.tail _ hp)).1) hes
  rcases List.mem_cons.mp hp with rfl | hp
  · exact .tail _ (.head _)
  · rcases List.mem_cons.mp hp with rfl | hp
    · exact .head _
    · exact .tail _ (.tail _ hp)
end
end Np
end

section
namespace Np
open PySem PySem.W PySem.Spec PySem.Calls PyProof.Rows
section
variable {M : Model} {A : Around} {E : Value → Shared → Prop} {s : Shared} {env : Env}
variable {nm q : Str} {C N : Addr} {bs bm bmB : List Value} {hdct : Bool} {sn : List Str} {sub : List Value} {ab : Bool} {col : Option Bool} {dd : Option Addr} {k0 k1 k2 k3 k5 : Option Value} {newId : String}
theorem exn_raise {x : Sem Value} {Q : Flow → Shared → Prop} (hbase : bm.contains (.type "BaseException") = true) (hh : A.handled = none)
    (h : wpAny M A x (fun v s₁ => ∃ e t d, v = .ref e ∧ s₁.heap.get? C = some (excClassObj nm q C N bs bm hdct sn sub ab col dd k0 k1 k2 k3 k5 newId) ∧
      s₁.heap.get? e = some { excObj C t with dict := some d } ∧ E (.ref e) s₁) E s) :
    wpAny M A (raiseStmt env (some x) none) Q E s := by
  have hcB : (Value.ref C :: bm).contains (.type "BaseException") = true := by rw [List.contains_cons, hbase, Bool.or_true]
  unfold raiseStmt
  refine wpAny_bind (wpAny_mono h (fun v s₁ h₁ => ?_) fun _ _ x => x)
  obtain ⟨e, t, d, rfl, hC, he, hE⟩ := h₁
  obtain ⟨hp, g, dr, tk, os⟩ := s₁
  repeat (first | with_reducible refine wpAny_loadPart_at he ?_ | with_reducible refine wpAny_loadPart_at hC ?_ | (with_reducible refine wpAny_isSubtype_exc hC ?_; rw [hcB]) | wp_step)
  exact wpAny_raiseNew_none hh hE
def RaiseEnd (C : Addr) (h₀ : Heap) (E : Value → Shared → Prop) (v : Value) (s₁ : Shared) : Prop :=
  ∃ e t d, v = .ref e ∧ h₀.StaysIn s₁.heap ∧ s₁.heap.get? e = some { excObj C t with dict := some d } ∧ E (.ref e) s₁
theorem raise_K {K : Frag} {h₀ : Heap} {f : Expr} {args : List Expr} {cpos pos : Pos} {Q : Flow → Shared → Prop} (X : K.In h₀) (hC : K.lookup C = some (excClassObj nm q C N bs bm hdct sn sub ab col dd k0 k1 k2 k3 k5 newId))
    (hbase : bm.contains (.type "BaseException") = true) (hh : A.handled = none) (h : wpAny M A (eval (.Call f args [] cpos) env) (RaiseEnd C h₀ E) E s) :
    wpAny M A (exec (.Raise (some (.Call f args [] cpos)) none pos) env) Q E s := by
  rw [arm_exec_Raise]
  refine wpAny_bind (wpAny_standAt ?_)
  show wpAny M A (raiseStmt env (some (eval (.Call f args [] cpos) env >>= fun v => standAt pos >>= fun _ => pure v)) none) Q E s
  refine exn_raise (C := C) (nm := nm) (q := q) (N := N) (bs := bs) (bm := bm) (hdct := hdct) (sn := sn) (sub := sub) (ab := ab) (col := col) (dd := dd) (k0 := k0) (k1 := k1) (k2 := k2) (k3 := k3) (k5 := k5) (newId := newId) hbase hh
    (wpAny_bind (wpAny_mono h (fun v s₁ h₁ => wpAny_bind (wpAny_standAt (wpAny_pure ?_))) fun _ _ x => x))
  obtain ⟨e, t, d, rfl, hst, he, hE⟩ := h₁
  exact ⟨e, t, d, rfl, hst _ _ (X _ _ hC), he, hE⟩
theorem raise_end {h₀ : Heap} {L e t d : Addr} {m : Str → Option Value} {news : List (Addr × Obj)} (F : Fr h₀ L s.heap m) (N' : News h₀ L s.heap ((e, { excObj C t with dict := some d }) :: news)) (hE : E (.ref e) s) : RaiseEnd C h₀ E (.ref e) s :=
  ⟨e, t, d, rfl, F.keep, (N' _ (.head _)).1, hE⟩
end
end Np
end

section
namespace Np
open PySem PySem.W PySem.Spec PySem.Calls PyProof.Rows
abbrev whyDict (w : World) (msg : Str) (tk tk' : Tok) (n : Nat) : Obj := dictOf (putL (Str.ofString "why") (PyData.keyHash w.params (Str.ofString "why")) (.str (Str.ofString "why") tk') (.str msg tk) []) n
/-- a raise in a def's own text: the def is left -/
theorem raise_fin {M : Model} {A A₁ : Around} {E E' : Value → Shared → Prop} {s : Shared} {base g : Heap} {outer : List Env} {env : Env} {L e d t C : Addr} {m : Str → Option Value} {news : List (Addr × Obj)} {od : Obj}
    (K : Below A base outer g) (hA₁ : A₁.frames = some (env :: outer)) (hf : env.frame = some L) (hk : env.scope.kind = .function) (F : Fr g L s.heap m) (N : News g L s.heap ((e, { excObj C t with dict := some d }) :: (d, od) :: news)) (hde : d ≠ e) (hne : ∀ p ∈ news, p.1 ≠ e)
    (hQ : ∀ h', RaisedD base g outer e (.ref C) d od .none ((d, od) :: news) h' → g.UpToSlots h' → E (.ref e) { s with heap := h' }) :
    RaiseEnd C g (fun e s' => wpAny M A₁ (leaving env e) (fun _ s'' => E e s'') E' s') (.ref e) s :=
  raise_end F N (rD_leave0 K hA₁ hf hk F N (List.forall_mem_cons.mpr ⟨hde, hne⟩) rfl rfl rfl rfl (.head _) fun h' R u => hQ h' R u)
end Np
end

section
namespace Np
open PySem PySem.W PySem.Spec PySem.Calls PyProof.Rows
open Sem (wp)
section
variable {M : Model} {A : Around} {E : Value → Shared → Prop} {s : Shared}
theorem wpC_onRaiseE {α : Type} {m : Sem α} {k : Value → Sem Unit} {Q : α → Shared → Prop} (h : wpC M A m Q (fun e s' => wpAny M A (k e) (fun _ s'' => E e s'') E s') s) : wpC M A (m.onRaise k) Q E s := fun Γ p hΓ hc => by
  rw [Sem.wp_onRaise]
  exact Sem.wp_mono M Γ m (fun _ _ _ h' => h') (fun e p' s' h' => h' Γ p' hΓ) p s (h Γ p hΓ hc)
end
section
variable {prog : Program} {w : World} {A : Around} {E : Value → Shared → Prop} {R : Result → Shared → Prop} {s : Shared}
theorem codeC_funcE {body env} (h : wpC (model prog w) (A.deeper env) (execs body env) (fun f s' => R (.ok (.ret (match f with | .ret v => v | _ => .none))) s')
    (fun e s' => wpAny (model prog w) (A.deeper env) (leaving env e) (fun _ s'' => R (.error e) s'') (fun e' s'' => R (.error e') s'') s') s) : codeC (model prog w) A (.func body env) R s := by
  refine codeC_treeC rfl ?_
  show wpC _ (A.deeper env) (do point; match ← (execs body env).onRaise (leaving env) with | .ret v => ret v | _ => ret .none) _ _ s
  refine wpC_bindA (wpAny_point (wpC_bind (wpC_onRaiseE (wpC_mono h (fun f s' h' => ?_) fun _ _ x => x))))
  cases f <;> exact wpC_pure h'
theorem code_defNE {A₀ : Around} {base h₀ : Heap} {outer : List Env} {L : Addr} {m : Str → Option Value} {env : Env} {news : List (Addr × Obj)} {K : Frag}
  {name qual : Str} {params : Arguments} {body : List Stmt} {scope : Scope} {dV kV doc pm cdv ct oc : Value} {an od : Option Addr} {osl : Array (Option Value)} {f : Addr} {args : Args} {binds : List (Str × Value)}
  {p : Program} {loose : List Str} {mean : ExcName → Option Value} {mg mb : Str → Option Value} (B : Below A₀ base outer h₀) (F : Fr h₀ L s.heap m) (X₀ : K.In h₀) (N : News h₀ L s.heap news) (T : Top p loose mean mg mb h₀) (hA : A.frames = some (env :: outer)) (hf : env.frame = some L) (hke : env.scope.kind = .function)
    (ho : K.lookup f = some ⟨oc, od, .func (fnOf name qual params body scope dV kV doc pm an cdv ct), osl⟩) (hcd : codeIn K cdv qual = true) (hroom : A.depth < recursionLimit)
    (hbind : BindsTo s (fnOf name qual params body scope dV kV doc pm an cdv ct) args binds) (hloc : ∀ y ∈ binds, scope.names.lookup y.1 = some .local)
    (h : ∀ g L' h₁, Fr h₀ L g m → Fr g L' h₁ (fun y => binds.reverse.lookup y) → News g L' h₁ news → Below A base (env :: outer) g → K.In g → Top p loose mean mg mb g →
      wpC (model prog w) (A.deeper (envOf qual scope L' f cdv)) (execs body (envOf qual scope L' f cdv))
        (fun fl s' => LeaveK h₀ L m g R (match fl with | .ret v => v | _ => .none) s')
        (fun e s' => wpAny (model prog w) (A.deeper (envOf qual scope L' f cdv)) (leaving (envOf qual scope L' f cdv) e) (fun _ s'' => R (.error e) s'') (fun e' s'' => R (.error e') s'') s')
        { s with heap := h₁, toks := s.toks + binds.length })
    (hco : scope.isCoroutine = false) (hgen : scope.isGenerator = false) (hk : scope.kind = .function)
    (hcell : ∀ x ∈ scope.names, x.2 ≠ .cell) : codeC (model prog w) A (.call (.ref f) args) R s := by
  have ho' := (X₀.keeps F.keep) _ _ ho
  have hcd' : s.heap.CodeRec cdv qual := codeRec_of (X₀.keeps F.keep) hcd
  obtain ⟨FG, BG, st, lv⟩ := groundX (R := R) B F N hA hf hke
  refine codeC_call_function hroom ho' rfl hco hgen rfl hcd' (hbind _ _ _ _ ?_)
  refine wpAny_newFunctionEnv hcell hloc (fun h₁ hns hsb => ⟨(T.nolimit.keeps F.keep).fresh _ hsb, codeC_funcE ?_⟩) hk
  have hk₁ : ∀ b o, s.heap.get? b = some o → h₁.get? b = some o := fun b o e => hsb.extBut b o (Nat.ne_of_lt (Heap.lt_size e)) (Heap.get?_push_of_some _ e)
  exact wpC_mono (h _ s.heap.objs.size h₁ FG ⟨hns, fun b o e => hk₁ b o (of_hideAll _ e), Nat.le_of_eq (hideAll_size _ _)⟩
    (fun q hq => ⟨hk₁ _ _ (N q hq).1, Nat.ne_of_lt (Heap.lt_size (N q hq).1), hideAll_none _ (List.mem_map_of_mem hq)⟩) BG (X₀.keeps st) (T.keeps st)) (fun fl s' hl => lv _ _ hl) fun _ _ y => y
/-- a while whose first turn raises -/
theorem codeC_whileRaise {test body env} (turn : wpAny (model prog w) A (isTrue test env (eval test env)) (fun b s₂ => if b then wpC (model prog w) A (execs body env) (fun _ _ => False) (fun e s₃ => wpAny (model prog w) A (noteFrame e env) (fun _ s₄ => wpAny (model prog w) A (theTreesLotGoes e) (fun _ s₅ => R (.error e) s₅) (fun _ _ => False) s₄) (fun _ _ => False) s₃) s₂ else False) (fun _ _ => False) s) :
    codeC (model prog w) A (.whileLoop test body [] env) R s := by
  refine codeC_treeC rfl ?_
  show wpC _ A ((whileTurn test body [] env).onRaise (fun x => do noteFrame x env; theTreesLotGoes x)) _ _ s
  refine wpC_onRaiseE ?_
  simp only [whileTurn]
  refine wpC_bindA (wpAny_mono turn (fun b s₂ h₂ => ?_) fun _ _ h' => h'.elim)
  cases b with
  | false => exact absurd h₂ (by simp)
  | true =>
    simp only [if_true] at h₂ ⊢
    refine wpC_bind (wpC_mono h₂ (fun f s₃ h₃ => h₃.elim) fun e s₃ h₃ => ?_)
    exact wpAny_bind (wpAny_mono h₃ (fun _ s₄ h₄ => wpAny_mono h₄ (fun _ _ x => x) fun _ _ x => x.elim) fun _ _ x => x.elim)
def ownPass (x : Value) (env : Env) : Sem Unit := do
  if (← field x 1) == .none then unsupported "frame.own-activation:exception-without-traceback"
  setFlight x env.frame
def WhileBack (prog : Program) (w : World) (A : Around) (env : Env) (Q : Flow → Shared → Prop) (E : Value → Shared → Prop) (r : Result) (s' : Shared) : Prop := match r with
  | .ok f => Q f s'
  | .error e => wpAny (model prog w) A (ownPass e env) (fun _ s'' => E e s'') (fun _ _ => False) s'
theorem wpC_WhileE {test body env pos} {Q : Flow → Shared → Prop} (h : codeC (model prog w) A (.whileLoop test body [] env) (WhileBack prog w A env Q E) s) :
    wpC (model prog w) A (exec (.While test body [] pos) env) Q E s := by
  refine wpC_eq (exec_While env test body [] pos) (wpC_standAt ?_)
  unfold runOwn
  refine wpC_onRaiseE (wpC_run (codeC_mono h fun r s' h' => ?_))
  cases r with
  | ok f => exact h'
  | error e => exact wpAny_mono h' (fun _ _ x => x) fun _ _ x => x.elim
theorem ownPass_D {base g : Heap} {l : List Env} {env : Env} {e C dd : Addr} {od : Obj} {fl : Value} {news : List (Addr × Obj)} {Q : Unit → Shared → Prop} {M : Model} (R : RaisedD base g l e (.ref C) dd od fl news s.heap) (hsm : g.UpToSlots s.heap)
    (hQ : ∀ h', RaisedD base g l e (.ref C) dd od (env.frame.elim .none fun f => rawInt f) news h' → g.UpToSlots h' → Q () { s with heap := h' }) : wpAny M A (ownPass (.ref e) env) Q E s := by
  unfold ownPass
  obtain ⟨_, _, _, _, ⟨_, _, _, oe, vs, T, oT, ts, he, _, _, hd, h1, _⟩, _⟩ := id R
  refine wpAny_bind (wpAny_field he hd h1 ?_)
  rw [if_neg (show ¬ ((Value.ref T == Value.none) = true) from by simp)]
  exact rD_flight R hsm hQ
theorem raise_finW {A A₁ A₂ : Around} {base g : Heap} {outer : List Env} {env : Env} {L e d t C : Addr} {m : Str → Option Value} {news : List (Addr × Obj)} {od : Obj} {Q : Flow → Shared → Prop} {F₁ F₂ : Value → Shared → Prop}
    (K : Below A base outer g) (hA₁ : A₁.frames = some (env :: outer)) (hf : env.frame = some L) (hk : env.scope.kind = .function) (F : Fr g L s.heap m) (N : News g L s.heap ((e, { excObj C t with dict := some d }) :: (d, od) :: news)) (hde : d ≠ e) (hne : ∀ p ∈ news, p.1 ≠ e)
    (hQ : ∀ h', RaisedD base g outer e (.ref C) d od .none ((d, od) :: news) h' → g.UpToSlots h' → E (.ref e) { s with heap := h' }) :
    RaiseEnd C g (fun e s₃ => wpAny (model prog w) A₁ (noteFrame e env) (fun _ s₄ => wpAny (model prog w) A₁ (theTreesLotGoes e) (fun _ s₅ => WhileBack prog w A₁ env Q (fun e s' => wpAny (model prog w) A₂ (leaving env e) (fun _ s'' => E e s'') (fun e' s'' => E e' s'') s') (.error e) s₅) F₁ s₄) F₂ s₃) (.ref e) s := by
  refine raise_end F N (rD_note0 K hA₁ hf hk F N (List.forall_mem_cons.mpr ⟨hde, hne⟩) rfl rfl rfl rfl (.head _) fun h₁ R₁ u₁ => wpAny_theTreesLotGoes ?_)
  refine ownPass_D (s := { s with heap := h₁ }) R₁ u₁ fun h₂ R₂ u₂ => ?_
  rw [hf] at R₂
  exact rD_leaveHeld (s' := { s with heap := h₂ }) hf R₂ u₂ (kts_self F) fun h₃ R₃ u₃ => hQ h₃ R₃ u₃
end
section
variable {k : Nat} {w : World} {mean : ExcName → Option Value} {mg mb : Str → Option Value} {f : Addr} {news : List (Addr × Obj)} {args : List Value} {C : Addr} {msg : Str}
    {dp un : Nat} {gd : Option (List Code)} {cn : Str} {cs : Scope} {a : Addr} {ccd : Value} {cl : List (Str × Addr)} {outer : List Env} {A₀ : Around} {base h₀ : Heap} {L : Addr} {m : Str → Option Value} {s : Shared} {Q E : Value → Shared → Prop}
end
end Np
end

section
namespace Np
open PySem PySem.W PySem.Spec PySem.Calls PyProof.Rows
open Sem (wp)
section
variable {A₀ : Around} {base h₀ h h' g' : Heap} {outer : List Env} {env : Env} {L L' : Addr} {m m' : Str → Option Value} {news news' : List (Addr × Obj)}
/-- what a function whose ground has turned leaves to its caller -/
theorem turn_out (B : Below A₀ base outer h₀) (F : Fr h₀ L h m) (N : News h₀ L h news) (hf : env.frame = some L) (T' : KtsTurn ((env :: outer).filterMap (·.frame)) (hideAll h (news.map (·.1))) g') (F' : Fr g' L' h' m') (N' : News g' L' h' news') :
    ∃ h₁, KtsTurn (outer.filterMap (·.frame)) h₀ h₁ ∧ Fr h₁ L h' m ∧ News h₁ L h' news' ∧ Below A₀ base outer h₁ := by
  have nm : ∀ b o, h₀.get? b = some o → b ∉ news.map (·.1) := fun b o e q => by
    obtain ⟨p, hp, rfl⟩ := List.mem_map.mp q
    rw [(N p hp).2.2] at e; cases e
  have st : h₀.StaysIn (hideAll h (news.map (·.1))) := fun b o e => hideAll_get _ (F.keep b o e) (nm b o e)
  obtain ⟨oL, es, ep, hL, hLd, hLk, hLf⟩ := F.ns
  have nL : L ∉ news.map (·.1) := fun q => by
    obtain ⟨p, hp, e⟩ := List.mem_map.mp q
    exact (N p hp).2.1 e
  have hLg := hideAll_get (news.map (·.1)) hL nL
  have nL₀ : h₀.get? L = none := kts_self F
  obtain ⟨sl, hs⟩ := T'.up hLg
  obtain ⟨T₁, S₁⟩ := kts_turn_at (h := h') (fs := outer.filterMap (·.frame)) (g := h₀)
    (fun b hb => by
      obtain ⟨_, o, ho', _⟩ := B.frames.mem hb
      exact ⟨o, ho'⟩)
    (fun b o e nmem => F'.keep b o (T'.other b o (st b o e) (fun q => by
      rcases frames_mem hf q with z | z
      · rw [z, nL₀] at e; cases e
      · exact nmem z)))
    (fun b o e hm => by
      obtain ⟨sl', hs'⟩ := T'.up (st b o e)
      exact ⟨sl', F'.keep _ _ hs'⟩)
  refine ⟨_, T₁, ⟨⟨_, es, ep, F'.keep _ _ hs, hLd, hLk, hLf⟩, S₁, by rw [T₁.size]; exact F.above⟩, fun p hp => ⟨(N' p hp).1, fun q => ?_, ?_⟩, ⟨B.stack, fun b o e => T₁.other b o (B.stays b o e) (fun hm => by
    rw [(B.frames.mem hm).1] at e; cases e), B.frames.of_keeps fun b o e _ => ?_⟩⟩
  · have := (N' p hp).2.2; rw [q, hs] at this; cases this
  · refine T₁.none_ _ ?_
    cases q : h₀.get? p.1 with
    | none => rfl
    | some o =>
      obtain ⟨sl', hs'⟩ := T'.up (st _ _ q)
      have := (N' p hp).2.2
      rw [hs'] at this; cases this
  · obtain ⟨sl', hs'⟩ := T₁.up e
    exact ⟨_, hs', rfl⟩
end
def LeaveT (fs : List Addr) (A₀ : Around) (base : Heap) (outer : List Env) (h₀ : Heap) (L : Addr) (m : Str → Option Value) (g : Heap) (R : Result → Shared → Prop) (v : Value) (s' : Shared) : Prop :=
  ∃ g' L' m' news', KtsTurn fs g g' ∧ Fr g' L' s'.heap m' ∧ News g' L' s'.heap news' ∧ ∀ h₁, KtsTurn (outer.filterMap (·.frame)) h₀ h₁ → Fr h₁ L s'.heap m → News h₁ L s'.heap news' → Below A₀ base outer h₁ → R (.ok (.ret v)) s'
section
variable {prog : Program} {w : World} {A₀ A : Around} {s : Shared} {base h₀ : Heap} {outer : List Env} {L : Addr} {m : Str → Option Value} {env : Env} {news : List (Addr × Obj)} {K : Frag}
  {R : Result → Shared → Prop} {name qual : Str} {params : Arguments} {body : List Stmt} {scope : Scope} {dV kV doc pm cdv ct oc : Value} {an od : Option Addr} {osl : Array (Option Value)} {f : Addr} {args : Args} {binds : List (Str × Value)}
  {p : Program} {loose : List Str} {mean : ExcName → Option Value} {mg mb : Str → Option Value}
theorem dicts_push (D : KtsDicts (outer.filterMap (·.frame)) h₀) (F : Fr h₀ L s.heap m) (N : News h₀ L s.heap news) (hf : env.frame = some L) : KtsDicts ((env :: outer).filterMap (·.frame)) (hideAll s.heap (news.map (·.1))) := fun b hb => by
  rcases frames_mem hf hb with rfl | hb
  · obtain ⟨oL, es, ep, hL, hLd, _⟩ := F.ns
    exact ⟨oL, es, ep, hideAll_get _ hL (fun q => by obtain ⟨p, hp, e⟩ := List.mem_map.mp q; exact (N p hp).2.1 e), hLd⟩
  · obtain ⟨o, es, n, ho, hd⟩ := D b hb
    exact ⟨o, es, n, hideAll_get _ (F.keep b o ho) (fun q => by obtain ⟨p, hp, e⟩ := List.mem_map.mp q; have z := (N p hp).2.2; rw [e, ho] at z; cases z), hd⟩
/-- a def entered clean whose ground may turn -/
theorem code_defT (B : Below A₀ base outer h₀) (F : Fr h₀ L s.heap m) (X₀ : K.In h₀) (N : News h₀ L s.heap news) (T : Top p loose mean mg mb h₀) (D : KtsDicts (outer.filterMap (·.frame)) h₀) (hA : A.frames = some (env :: outer)) (hf : env.frame = some L) (hke : env.scope.kind = .function)
    (ho : K.lookup f = some ⟨oc, od, .func (fnOf name qual params body scope dV kV doc pm an cdv ct), osl⟩) (hcd : codeIn K cdv qual = true) (hroom : A.depth < recursionLimit)
    (hbind : BindsTo s (fnOf name qual params body scope dV kV doc pm an cdv ct) args binds) (hloc : ∀ y ∈ binds, scope.names.lookup y.1 = some .local)
    (h : ∀ g L' h₁, Fr h₀ L g m → Fr g L' h₁ (fun y => binds.reverse.lookup y) → News g L' h₁ news → Below A base (env :: outer) g → K.In g → Top p loose mean mg mb g → KtsDicts ((env :: outer).filterMap (·.frame)) g →
      wpC (model prog w) (A.deeper (envOf qual scope L' f cdv)) (execs body (envOf qual scope L' f cdv))
        (fun fl s' => LeaveT ((env :: outer).filterMap (·.frame)) A₀ base outer h₀ L m g R (match fl with | .ret v => v | _ => .none) s') (fun _ _ => False)
        { s with heap := h₁, toks := s.toks + binds.length })
    (hco : scope.isCoroutine = false) (hgen : scope.isGenerator = false) (hk : scope.kind = .function)
    (hcell : ∀ x ∈ scope.names, x.2 ≠ .cell) : codeC (model prog w) A (.call (.ref f) args) R s := by
  have ho' := (X₀.keeps F.keep) _ _ ho
  have hcd' : s.heap.CodeRec cdv qual := codeRec_of (X₀.keeps F.keep) hcd
  obtain ⟨FG, BG, st, _⟩ := groundX (R := R) B F N hA hf hke
  refine codeC_call_function hroom ho' rfl hco hgen rfl hcd' (hbind _ _ _ _ ?_)
  refine wpAny_newFunctionEnv hcell hloc (fun h₁ hns hsb => ⟨(T.nolimit.keeps F.keep).fresh _ hsb, codeC_func ?_⟩) hk
  have hk₁ : ∀ b o, s.heap.get? b = some o → h₁.get? b = some o := fun b o e => hsb.extBut b o (Nat.ne_of_lt (Heap.lt_size e)) (Heap.get?_push_of_some _ e)
  refine wpC_mono (h _ s.heap.objs.size h₁ FG ⟨hns, fun b o e => hk₁ b o (of_hideAll _ e), Nat.le_of_eq (hideAll_size _ _)⟩
    (fun q hq => ⟨hk₁ _ _ (N q hq).1, Nat.ne_of_lt (Heap.lt_size (N q hq).1), hideAll_none _ (List.mem_map_of_mem hq)⟩) BG (X₀.keeps st) (T.keeps st) (dicts_push D F N hf)) (fun fl s' hl => ?_) fun _ _ y => y
  obtain ⟨g', L', m', news', T', F', N', k⟩ := hl
  obtain ⟨h₂, a, b, c, d⟩ := turn_out B F N hf T' F' N'
  exact k h₂ a b c d
theorem code_defTC (B : Below A₀ base outer h₀) (F : Fr h₀ L s.heap m) (X₀ : K.In h₀) (N : News h₀ L s.heap news) (T : Top p loose mean mg mb h₀) (D : KtsDicts (outer.filterMap (·.frame)) h₀) (hA : A.frames = some (env :: outer)) (hf : env.frame = some L) (hke : env.scope.kind = .function)
    (ho : K.lookup f = some ⟨oc, od, .func (fnOf name qual params body scope dV kV doc pm an cdv ct), osl⟩) (hcd : codeIn K cdv qual = true) (hroom : A.depth < recursionLimit)
    (hbind : BindsTo s (fnOf name qual params body scope dV kV doc pm an cdv ct) args binds) (hkind : (binds.all fun y => scope.names.lookup y.1 == some .local || scope.names.lookup y.1 == some .cell) = true)
    (hnd : ((cellsFrom 0 scope.names []).map (·.1)).Nodup)
    (h : ∀ g L' h₁ tk cells, Fr h₀ L g m → Fr g L' h₁ (bindL (envOfC qual scope L' f cdv).kindOf binds fun _ => none) → News g L' h₁ (cells ++ news) →
      CellsAre (bindC (envOfC qual scope L' f cdv).kindOf binds fun _ => none) (cellsFrom (L' + 1) scope.names []) cells → Below A base (env :: outer) g → K.In g → Top p loose mean mg mb g → KtsDicts ((env :: outer).filterMap (·.frame)) g → (∀ q ∈ news, q.1 < L') →
      wpC (model prog w) (A.deeper (envOfC qual scope L' f cdv)) (execs body (envOfC qual scope L' f cdv))
        (fun fl s' => LeaveT ((env :: outer).filterMap (·.frame)) A₀ base outer h₀ L m g R (match fl with | .ret v => v | _ => .none) s') (fun _ _ => False)
        { s with heap := h₁, toks := tk })
    (hco : scope.isCoroutine = false) (hgen : scope.isGenerator = false) (hk : scope.kind = .function) : codeC (model prog w) A (.call (.ref f) args) R s := by
  have ho' := (X₀.keeps F.keep) _ _ ho
  have hcd' : s.heap.CodeRec cdv qual := codeRec_of (X₀.keeps F.keep) hcd
  obtain ⟨FG, BG, st, _⟩ := groundX (R := R) B F N hA hf hke
  refine codeC_call_function hroom ho' rfl hco hgen rfl hcd' (hbind _ _ _ _ ?_)
  refine wpAny_newFunctionEnv_cells hk (kindsX hkind _) fun env' he s' x => ?_
  subst he
  refine ⟨(T.nolimit.keeps F.keep).keeps x.toInCall.keep, codeC_func ?_⟩
  obtain ⟨h₁, tk, rfl, _⟩ := x.done
  have hk₁ := x.toInCall.keep
  obtain ⟨cells, NC, Y⟩ := Cl.news (h₀ := s.heap) (Nat.le_refl _) fun n c hm => ⟨x.cell n c (lookup_of_mem_nodup (cellsFrom_names scope.names 0 (s.heap.objs.size + 1) [] [] rfl ▸ hnd) hm), x.above n c hm⟩
  refine wpC_mono (h _ s.heap.objs.size h₁ tk cells FG ⟨x.toInCall.ns, fun b o e => hk₁ b o (of_hideAll _ e), Nat.le_of_eq (hideAll_size _ _)⟩ (fun q hq => ?_) Y BG (X₀.keeps st) (T.keeps st) (dicts_push D F N hf) (fun q hq => Heap.lt_size (N q hq).1)) (fun fl s' hl => ?_) fun _ _ y => y
  · rcases List.mem_append.mp hq with hq | hq
    · refine ⟨(NC q hq).1, (NC q hq).2.1, ?_⟩
      cases e : (hideAll s.heap (news.map (·.1))).get? q.1 with
      | none => rfl
      | some o => have := of_hideAll _ e; rw [(NC q hq).2.2] at this; cases this
    · exact ⟨hk₁ _ _ (N q hq).1, Nat.ne_of_lt (Heap.lt_size (N q hq).1), hideAll_none _ (List.mem_map_of_mem hq)⟩
  · obtain ⟨g', L', m', news', T', F', N', k⟩ := hl
    obtain ⟨h₂, a, b, c, d⟩ := turn_out B F N hf T' F' N'
    exact k h₂ a b c d
end
section
variable {M : Model} {A : Around} {E : Value → Shared → Prop} {s : Shared} {env : Env}
theorem wpC_tryStmt {body orelse : Sem Flow} {h₀ : ExceptHandler} {hs : List ExceptHandler} {Q : Flow → Shared → Prop}
    (h : wpC M A body (fun f s₁ => match f with | .next => wpC M A orelse Q E s₁ | f => Q f s₁)
      (fun e s₁ => wpAny M A (noteFrame e env) (fun _ s₂ => wpAny M A (setFlight e none) (fun _ s₃ => wpAny M A (handleBy e env (h₀ :: hs)) Q E s₃) E s₂) E s₁) s) :
    wpC M A (tryStmt false body (h₀ :: hs) orelse [] env) Q E s := by
  unfold tryStmt
  simp only [List.isEmpty_nil, if_true, List.isEmpty_cons, Bool.false_and, Bool.false_eq_true, if_false]
  refine wpC_bind (m := body.attempt) ?_
  intro Γ p hΓ hc
  rw [Sem.wp_attempt]
  refine Sem.wp_mono M Γ body (fun f p' s₁ h₁ => ?_) (fun e p' s₁ h₁ => ?_) p s (h Γ p hΓ hc)
  · cases f <;> first | exact h₁ | exact wpC_pure h₁
  · exact wpC_of (wpAny_bind (wpAny_mono h₁ (fun _ _ h₂ => wpAny_bind h₂) fun _ _ x => x))
theorem wpC_Try {prog : Program} {w : World} {body orelse : List Stmt} {h₀ : ExceptHandler} {hs : List ExceptHandler} {pos : Pos} {Q : Flow → Shared → Prop}
    (h : wpC (model prog w) A (execs body env) (fun f s₁ => match f with | .next => wpC (model prog w) A (execs orelse env) Q E s₁ | f => Q f s₁)
      (fun e s₁ => wpAny (model prog w) A (noteFrame e env) (fun _ s₂ => wpAny (model prog w) A (setFlight e none) (fun _ s₃ => wpAny (model prog w) A (handleBy e env (h₀ :: hs)) Q E s₃) E s₂) E s₁) s) :
    wpC (model prog w) A (exec (.Try body (h₀ :: hs) orelse [] pos) env) Q E s := by
  rw [arm_exec_Try]
  exact wpC_standAt (wpC_tryStmt h)
end
end Np
end

section
namespace Np
open PySem PySem.W PySem.Spec PySem.Calls PyProof.Rows
section
variable {prog : Program} {w : World} {A : Around} {E : Value → Shared → Prop} {R : Result → Shared → Prop} {s : Shared} {K : Frag} {x C : Addr} {ox : Obj} {od : Option Obj} {name : Str} {v : Value} {expr : Bool}
theorem exn_get {Q : Value → Shared → Prop} (ga : Slot "Exception" "__getattribute__" "BaseException.__getattribute__") (X : K.In s.heap) (I : InstAt s.heap x ox C od) (hga : findIn K (.ref C) "__getattribute__" = some (some (.builtin "BaseException.__getattribute__"))) (hgt : findIn K (.ref C) "__getattr__" = some none)
    (hm : mroIn K C (.type "BaseException") = some true) (hf : findObj K C od name = some (.value v)) (hh : handedIn v = true) (h : Q v { s with toks := s.toks + 1 }) : wpAny (model prog w) A (getAttr (.ref x) name expr) Q E s := by
  have L0 := I.type (M := model prog w)
  have L1 := looks_find (M := model prog w) X I hf
  have G := looks_findIn (M := model prog w) X hga
  have G2 := looks_findIn (M := model prog w) X hgt
  have sub : Looks (model prog w) s.heap (isInstance (.ref x) (.type "BaseException")) true := I.type.andThen (looks_mroIn X hm)
  obtain ⟨hh', g, d, t, os⟩ := s
  unfold getAttr
  refine wpAny_bind (wpAny_mkText ?_)
  unfold getAttrBy
  refine wpAny_holding (wpAny_bind (L0.at (wpAny_bind (G.at ?_))))
  dsimp only
  rw [show (Value.builtin "BaseException.__getattribute__" == Value.builtin "object.__getattribute__") = false by decide +kernel, Bool.and_false, if_neg (by decide)]
  unfold getAttrByItsOwn
  refine wpAny_bind (show wpAny _ _ (typeLookup (.ref C) "__getattr__") _ _ _ from G2.at ?_)
  refine wpAny_bind (wpAny_attempt (wpAny_holding ?_))
  rw [show callGetattribute (.ref x) (.str name t) (.builtin "BaseException.__getattribute__") expr = boundAndCalled (.builtin "BaseException.__getattribute__") (.ref x) (.str name t) by unfold callGetattribute; cases expr <;> rfl]
  unfold boundAndCalled
  rw [ga.bind]
  refine wpAny_bind (wpAny_pure (wpAny_call (codeAny_call_builtin ga.plain PySem.F.entry_bexc_ga (@check_slot (model prog w) _ _ _ "BaseException.__getattribute__" "BaseException" "__getattribute__" (.ref x) [.str name t] [] _ (by decide +kernel) (by decide +kernel) sub (PySem.F.args_bexc_ga (.ref x) (.str name t)) ?_))))
  unfold Builtin.«object.__getattribute__»
  refine wpAny_bind (wpAny_of_eq (a := (.ref x, [.str name t])) rfl ?_)
  refine wpAny_bind (wpAny_pure (wpAny_bind (L0.at (wpAny_bind (L1.at ?_)))))
  refine wpAny_pure ?_
  show wpAny _ _ (handedOut v) _ _ _
  rw [handedOut_of hh]; exact wpAny_pure h
end
end Np
end

section
namespace Np
open PySem PySem.W PySem.Spec PySem.Calls PyProof.Rows
section
variable {prog : Program} {w : World} {A : Around} {E : Value → Shared → Prop} {s : Shared} {K : Frag} {h₀ : Heap} {L e d C : Addr} {m : Str → Option Value} {news : List (Addr × Obj)} {oe : Obj} {v : Value} {expr : Bool} {vs : Array Value} {es : List DictEntry} {n : Nat} {name : Str}
theorem exn_get_K {Q : Value → Shared → Prop} (F : Fr h₀ L s.heap m) (X₀ : K.In h₀) (N : News h₀ L s.heap news) (he : (e, oe) ∈ news) (hd : (d, dictOf es n) ∈ news) (hc : oe.cls = .ref C) (hdi : oe.dict = some d) (hda : oe.data = .fields vs)
    (hga : findIn K (.ref C) "__getattribute__" = some (some (.builtin "BaseException.__getattribute__"))) (hgt : findIn K (.ref C) "__getattr__" = some none) (hm : mroIn K C (.type "BaseException") = some true)
    (hh : hasDictIn K C = true) (ha : findIn K (.ref C) name = some none) (hl : getL name es = some (some v)) (hv : handedIn v = true) (h : Q v { s with toks := s.toks + 1 }) : wpAny (model prog w) A (getAttr (.ref e) name expr) Q E s :=
  exn_get (od := some (dictOf es n)) PySem.F.attr_Exception.ga (X₀.keeps F.keep) ⟨(N _ he).1, hc, by unfold notCls; rw [hda], by rw [hdi]; exact (N _ hd).1⟩ hga hgt hm (findObj_own hh ha rfl hl) hv h
end
section
variable {k : Nat} {w : World} {mean : ExcName → Option Value} {mg mb : Str → Option Value} {f : Addr} {news : List (Addr × Obj)} {args : List Value} {post : Value → List (Addr × Obj) → Prop}
    {dp un : Nat} {gd : Option (List Code)} {cn : Str} {cs : Scope} {a : Addr} {ccd : Value} {cl : List (Str × Addr)} {outer : List Env} {A₀ : Around} {base h₀ : Heap} {L : Addr} {m : Str → Option Value} {s : Shared} {Q E : Value → Shared → Prop}
end
section
variable {M : Model} {A : Around} {E : Value → Shared → Prop} {s : Shared} {env : Env}
theorem callWith_F0C {pos : Pos} {q : Addr} {first : List Value} {Q : Value → Shared → Prop} (X : FnAt q s.heap) (h : wpC M A (call (.ref q) (first ++ [])) Q E s) : wpC M A (callWith pos (.ref q) first (backTo pos (starEach [] env)) []) Q E s :=
  callWith_ofC rfl keeps_F (evalArgs_nil3 ⟨X, h⟩)
theorem splicedC_any {x : Sem Value} {rest : List (Bool × Sem Value)} {Q : List Value → Shared → Prop}
    (h : wpAny M A x (fun v s₁ => wpC M A (spliced rest) (fun vs s₂ => Q (v :: vs) s₂) E s₁) E s) : wpC M A (spliced ((false, x) :: rest)) Q E s := by
  rw [spliced]
  refine wpC_bindA (wpAny_mono h (fun v s₁ h₁ => ?_) fun _ _ x => x)
  simp only [Bool.false_eq_true, if_false]
  exact wpC_bind (wpC_pure (wpC_bind (wpC_holding (wpC_mono h₁ (fun vs s₂ h₂ => wpC_pure h₂) fun _ _ x => x))))
theorem Tuple2C {e e' : Expr} {k : Nat} {pos : Pos} {Q : Value → Shared → Prop}
    (h : wpAny M A (eval e env) (fun v s₀ => wpC M A (eval e' env) (fun v' s₁ => wpAny M A (newTuple [v, v']) Q E s₁) E s₀) E s)
    (he : starEach [e, e'] env = [(false, eval e env), (false, eval e' env)] := by rfl) : wpC M A (eval (.Tuple [e, e'] k pos) env) Q E s := by
  refine wpC_eq (show eval (.Tuple [e, e'] k pos) env = (do standAt pos; newTuple (← spliced (backTo pos (starEach [e, e'] env)))) from rfl) ?_
  rw [he]
  refine wpC_standAt (wpC_bind ?_)
  show wpC M A (spliced [(false, eval e env), (false, eval e' env)]) _ E s
  exact splicedC_any (wpAny_mono h (fun v s₀ h₀ => splicedC_cons (wpC_mono h₀ (fun v' s₁ h₁ => wpAny_pure (wpC_of h₁)) fun _ _ x => x)) fun _ _ x => x)
end
end Np
end

section
namespace Np
open PySem PySem.W PySem.Spec PySem.Calls PyProof.Rows
open Sem (wp)
section
variable {prog : Program} {w : World} {A : Around} {R : Result → Shared → Prop} {s : Shared}
theorem codeC_expr {e : Expr} {env : Env}
    (h : wpC (model prog w) (A.deeper env) (eval e env) (fun v s' => R (.ok (.ret v)) s')
      (fun e' s' => wpAny (model prog w) (A.deeper env) (leaving env e') (fun _ s'' => R (.error e') s'') (fun e'' s'' => R (.error e'') s'') s') s) :
    codeC (model prog w) A (.expr e env) R s := by
  refine codeC_treeC rfl ?_
  show wpC _ (A.deeper env) (do point; ret (← (eval e env).onRaise (leaving env))) _ _ s
  exact wpC_bindA (wpAny_point (wpC_bind (wpC_onRaiseE (wpC_mono h (fun v s' h' => wpC_pure h') fun _ _ h' => h'))))
theorem codeC_callLam {a : Addr} {args : Args} {o : Obj} {fd : FuncData} {body : Expr} (hroom : A.depth < recursionLimit)
    (ho : s.heap.get? a = some o)
    (hd' : o.data = .func fd) (hco : fd.scope.isCoroutine = false) (hgen : fd.scope.isGenerator = false) (hbody : fd.body = .expr body) (hcd : s.heap.CodeRec fd.code fd.qualname)
    (h : wpAny (model prog w) A.in1 (bindArgs fd args) (fun binds s₁ =>
      wpAny (model prog w) A.in1 (newFunctionEnv fd.scope fd.globals fd.closure binds (fd.qualname ++ ".<locals>.") (some a) fd.code none fd.builtins)
        (fun env s₂ => s₂.heap.NoLimit ∧ codeC (model prog w) A (.expr body env) R s₂) (fun e s' => R (.error e) s') s₁) (fun e s' => R (.error e) s') s) :
    codeC (model prog w) A (.call (.ref a) args) R s := by
  refine codeC_tree ?_
  show wpAny _ A.in1 (callAny (.ref a) args) _ _ s
  simp only [callAny]
  refine wpAny_bind (wpAny_load ho ?_)
  obtain ⟨c, oc, vs, tq, hc, hoc, hdc, hq⟩ := hcd
  simp only [hd', callFunction, hco, hgen, hbody, hc]
  rw [hc] at h
  refine wpAny_bind (m := field (.ref c) 1) (wpAny_field hoc hdc hq (wpAny_bind (wpAny_pure ?_)))
  exact wpAny_bind (wpAny_mono h (fun binds s₁ h₁ => wpAny_bind (wpAny_mono h₁ (fun env s₂ h₂ => wpAny_bind (wpAny_enterFrame h₂.1 hroom
    (wpAny_pure (And.intro rfl h₂.2)))) fun _ _ h' => h')) fun _ _ h' => h')
end
section
variable {prog : Program} {w : World} {A A₀ : Around} {s : Shared} {K : Frag} {L : Addr} {h₀ base : Heap} {m mg mb : Str → Option Value} {news : List (Addr × Obj)} {p : Program} {loose : List Str} {mean : ExcName → Option Value}
theorem lam_code {env : Env} {outer : List Env} {R : Result → Shared → Prop} {name qual : Str} {params : Arguments} {body : Expr} {scope : Scope} {cl : List (Str × Addr)} {pm ctv : Value} {c' : Addr} {f : Addr} {args : Args} {binds : List (Str × Value)}
    (B : Below A₀ base outer h₀) (F : Fr h₀ L s.heap m) (X₀ : K.In h₀) (N : News h₀ L s.heap news) (T : Top p loose mean mg mb h₀) (hA : A.frames = some (env :: outer)) (hf : env.frame = some L) (hke : env.scope.kind = .function)
    (ho : (f, kla_obj name qual params body scope cl pm c' ctv) ∈ news) (hcd : s.heap.CodeRec (.ref c') qual) (hroom : A.depth < recursionLimit)
    (hbind : bindArgs (kla_fn name qual params body scope cl pm (.ref c') ctv) args = pure binds) (hloc : ∀ y ∈ binds, scope.names.lookup y.1 = some .local)
    (h : ∀ g L' h₁, Fr h₀ L g m → Fr g L' h₁ (fun y => binds.reverse.lookup y) → News g L' h₁ news → Below A base (env :: outer) g → K.In g → Top p loose mean mg mb g →
      wpC (model prog w) (A.deeper (envX qual scope L' f (.ref c') cl)) (eval body (envX qual scope L' f (.ref c') cl))
        (fun v s' => LeaveK h₀ L m g R v s')
        (fun e s' => wpAny (model prog w) (A.deeper (envX qual scope L' f (.ref c') cl)) (leaving (envX qual scope L' f (.ref c') cl) e) (fun _ s'' => R (.error e) s'') (fun e' s'' => R (.error e') s'') s')
        { s with heap := h₁, toks := s.toks + binds.length })
    (hco : scope.isCoroutine = false) (hgen : scope.isGenerator = false) (hk : scope.kind = .function)
    (hcell : ∀ x ∈ scope.names, x.2 ≠ .cell) : codeC (model prog w) A (.call (.ref f) args) R s := by
  obtain ⟨FG, BG, st, lv⟩ := groundX (R := R) B F N hA hf hke
  refine codeC_callLam hroom (N _ ho).1 rfl hco hgen rfl hcd ?_
  rw [hbind]
  refine wpAny_pure (wpAny_newFunctionEnv hcell hloc (fun h₁ hns hsb => ⟨((T.nolimit).keeps F.keep).fresh _ hsb, ?_⟩) hk)
  show codeC _ _ (.expr body (envX qual scope s.heap.objs.size f (.ref c') cl)) _ _
  have hk₁ : ∀ b o, s.heap.get? b = some o → h₁.get? b = some o := fun b o e => hsb.extBut b o (Nat.ne_of_lt (Heap.lt_size e)) (Heap.get?_push_of_some _ e)
  exact codeC_expr (wpC_mono (h _ s.heap.objs.size h₁ FG ⟨hns, fun b o e => hk₁ b o (of_hideAll _ e), Nat.le_of_eq (hideAll_size _ _)⟩
    (fun p hp => ⟨hk₁ _ _ (N p hp).1, Nat.ne_of_lt (Heap.lt_size (N p hp).1), hideAll_none _ (List.mem_map_of_mem hp)⟩) BG (X₀.keeps st) (T.keeps st)) (fun v s' hl => lv _ _ hl) fun _ _ y => y)
end
end Np
end

section
namespace Np
open PySem PySem.W PySem.Spec PySem.Calls PyProof.Rows
/-- a text's table of inner codes, each of them in the ledger -/
def TabSt (q : Str) (ps : Array Value) (cds : List (Addr × Obj)) : Prop :=
  TriplesOk ps.toList ∧ (∀ pos v, codeAmong pos ps.toList = some v → ∃ a oc vs t, v = .ref a ∧ (a, oc) ∈ cds ∧ oc.data = .fields vs ∧ vs[1]? = some (.str q t)) ∧ ∀ p ∈ cds, ∃ vs t, p.2.data = .fields vs ∧ vs[1]? = some (.str q t)
theorem TabSt.nil (q : Str) : TabSt q #[] [] := ⟨trivial, (fun pos v h => by cases h), fun _ h => nomatch h⟩
theorem among_add {l c : Int} {t u : Tok} {v : Value} : ∀ {xs : List Value}, TriplesOk xs → TriplesOk (xs ++ [.int l t, .int c u, v]) ∧ ∀ pos, codeAmong pos (xs ++ [.int l t, .int c u, v]) = match codeAmong pos xs with | some y => some y | none => if (l == pos.line && c == pos.col) = true then some v else none
  | [], _ => ⟨trivial, fun pos => by
    show (if (l == pos.line && c == pos.col) = true then some v else codeAmong pos []) = _
    rfl⟩
  | .int a x :: .int b y :: z :: r, h => by
    have ih := among_add (l := l) (c := c) (t := t) (u := u) (v := v) (xs := r) h
    refine ⟨ih.1, fun pos => ?_⟩
    show (if (a == pos.line && b == pos.col) = true then some z else codeAmong pos (r ++ [.int l t, .int c u, v])) = match (if (a == pos.line && b == pos.col) = true then some z else codeAmong pos r) with | some y => some y | none => _
    by_cases hh : (a == pos.line && b == pos.col) = true
    · rw [if_pos hh, if_pos hh]
    · rw [if_neg hh, if_neg hh]; exact ih.2 pos
theorem TabSt.add {q : Str} {ps : Array Value} {cds : List (Addr × Obj)} {pos : Pos} {c' : Addr} {oc : Obj} {vs : Array Value} {t : Tok} (S : TabSt q ps cds) (hd : oc.data = .fields vs) (hv : vs[1]? = some (.str q t)) :
    TabSt q (ps ++ #[rawInt pos.line, rawInt pos.col, .ref c']) ((c', oc) :: cds) := by
  have h := among_add (l := pos.line) (c := pos.col) (t := 0) (u := 0) (v := .ref c') S.1
  have e : (ps ++ #[rawInt pos.line, rawInt pos.col, .ref c']).toList = ps.toList ++ [rawInt pos.line, rawInt pos.col, .ref c'] := by simp
  refine ⟨by rw [e]; exact h.1, fun p v hp => ?_, List.forall_mem_cons.mpr ⟨⟨vs, t, hd, hv⟩, S.2.2⟩⟩
  rw [e] at hp
  have hp' := (h.2 p).symm.trans hp
  cases hc : codeAmong p ps.toList with
  | some y =>
    rw [hc] at hp'
    cases hp'
    obtain ⟨a, oc', vs', t', h1, h2, h3⟩ := S.2.1 p _ hc
    exact ⟨a, oc', vs', t', h1, .tail _ h2, h3⟩
  | none =>
    rw [hc] at hp'
    dsimp only at hp'
    split at hp'
    · cases hp'
      exact ⟨c', oc, vs, t, rfl, .head _, hd, hv⟩
    · cases hp'
end Np
end

section
namespace Np
open PySem PySem.W PySem.Spec PySem.Calls PyProof.Rows
open Sem (wp)
section
variable {M : Model} {A : Around} {E : Value → Shared → Prop} {s : Shared} {env : Env}
theorem isTrue_OrC {x y : Expr} {pos : Pos} {whole : Sem Value} {Q : Bool → Shared → Prop}
    (h : wpC M A (isTrue x env (eval x env)) (fun b s₁ => if b = true then Q true s₁ else wpC M A (isTrue y env (eval y env)) Q E s₁) E s) : wpC M A (isTrue (.BoolOp .Or [x, y] pos) env whole) Q E s := by
  refine wpC_eq (arm_isTrue_BoolOp ..) ?_
  refine wpC_eq (arm_allTrue_cons ..) (wpC_bind (wpC_mono h (fun b s₁ h₁ => ?_) fun _ _ x => x))
  cases b with
  | true => exact wpC_pure h₁
  | false =>
    refine wpC_eq (arm_allTrue_cons ..) (wpC_bind (wpC_mono h₁ (fun b s₂ h₂ => ?_) fun _ _ x => x))
    cases b with
    | true => exact wpC_pure h₂
    | false => exact wpC_pure h₂
theorem isTrue_NotC {x : Expr} {pos : Pos} {whole : Sem Value} {Q : Bool → Shared → Prop} (h : wpC M A (isTrue x env (eval x env)) (fun b s₁ => Q (!b) s₁) E s) : wpC M A (isTrue (.UnaryOp .Not x pos) env whole) Q E s := by
  refine wpC_eq (arm_isTrue_UnaryOp ..) (wpC_bind (wpC_mono h (fun b s₁ h₁ => wpC_pure h₁) fun _ _ x => x))
theorem isTrue_CallC {f : Expr} {args : List Expr} {kws : List Keyword} {pos : Pos} {Q : Bool → Shared → Prop} (h : wpC M A (eval (.Call f args kws pos) env) (fun v s₁ => wpAny M A (truthy v) Q E s₁) E s) : wpC M A (isTrue (.Call f args kws pos) env (eval (.Call f args kws pos) env)) Q E s := by
  refine wpC_eq (show isTrue (.Call f args kws pos) env (eval (.Call f args kws pos) env) = (do let v ← eval (.Call f args kws pos) env; standAt (PySem.Expr.Call f args kws pos).pos; holding [v] (truthy v)) from rfl) ?_
  exact wpC_bind (wpC_mono h (fun v s₁ h₁ => wpC_standAt (wpC_holding (wpC_of h₁))) fun _ _ x => x)
theorem BoolOp_orC {e₁ e₂ : Expr} {pos : Pos} {Q : Value → Shared → Prop}
    (h : wpAny M A (eval e₁ env) (fun v s₁ => wpAny M A (truthy v) (fun c s₂ => if c = true then Q v s₂ else wpC M A (eval e₂ env) Q E s₂) E s₁) E s) : wpC M A (eval (.BoolOp .Or [e₁, e₂] pos) env) Q E s := by
  refine wpC_eq (show eval (.BoolOp .Or [e₁, e₂] pos) env = (do
    let v ← eval e₁ env
    standAt pos
    let c ← holding [v] (truthy v)
    match BoolOp.Or, c with
    | .And, false | .Or, true => pure v
    | _, _ => eval e₂ env) from rfl) ?_
  refine wpC_bindA (wpAny_mono h (fun v s₁ h₁ => wpC_standAt (wpC_bindA (wpAny_holding (wpAny_mono h₁ (fun c s₂ h₂ => ?_) fun _ _ x => x)))) fun _ _ x => x)
  cases c with
  | true => exact wpC_pure h₂
  | false => exact h₂
theorem SubscriptC {value slice : Expr} {pos : Pos} {Q : Value → Shared → Prop}
    (h : wpC M A (eval value env) (fun o s₁ => wpAny M A (eval slice env) (fun i s₂ => wpAny M A (subscriptTail value slice o i) Q E s₂) E s₁) E s) : wpC M A (eval (.Subscript value slice pos) env) Q E s := by
  refine wpC_eq (eval_Subscript ..) (wpC_bind (wpC_mono h (fun o s₁ h₁ => wpC_bindA (wpAny_holding (wpAny_mono h₁ (fun i s₂ h₂ => wpC_standAt (wpC_of h₂)) fun _ _ x => x))) fun _ _ x => x))
end
end Np
end

section
namespace Np
open PySem PySem.W PySem.Spec PySem.Calls PyProof.Rows PySem.SeqAt
section
variable {prog : Program} {w : World} {A : Around} {E : Value → Shared → Prop} {s : Shared} {l b : Addr} {x y x' y' : Value}
theorem eqAt_bytes {l : List UInt8} {t u : Tok} : EqAt A s (.bytes l.toArray t) (.bytes l.toArray u) true := fun prog w E Q hq => by
  unfold eqBool
  refine wpAny_holding ?_
  refine wpAny_ite_split (fun hab => ?_) (fun _ => ?_)
  · exact wpAny_bind (wpAny_rule (wpAny_pure hq))
  · exact wpAny_bind (eq_L (by rw [decide_eq_true rfl]; exact wpAny_truthy_bool hq))
theorem eqAt_int {a : Int} {t u : Tok} : EqAt A s (.int a t) (.int a u) true := by
  have := EqAt.int_int (A := A) (s := s) a t a u
  rwa [beq_self_eq_true] at this
theorem eqAt_str {a : Str} {t u : Tok} : EqAt A s (.str a t) (.str a u) true := by
  have := (PyProof.Rows.eqGives_str a a t u).at A s
  rwa [beq_self_eq_true] at this
theorem pair_all (e1 : EqAt A.in1 s x x' true) (e2 : EqAt A.in1 s y y' true) : ∀ j (h1 : j < #[x, y].size) (h2 : j < #[x', y'].size), EqAt A.in1 s #[x, y][j] #[x', y'][j] ((fun _ => true) j)
  | 0, _, _ => e1
  | 1, _, _ => e2
  | n + 2, h, _ => absurd h (by show ¬ n + 2 < 2; (first | lia | omega))
theorem tup_eq {Q : Value → Shared → Prop} (hl : s.heap.IsTuple l #[x, y]) (hb : s.heap.IsTuple b #[x', y']) (hu : A.units < cLine) (e1 : EqAt A.in1 s x x' true) (e2 : EqAt A.in1 s y y' true) (h : Q (.bool true) s) :
    wpAny (model prog w) A (compareOp .Eq (.ref l) (.ref b)) Q E s :=
  RcAt.tuples hl hb hu (pair_all e1 e2) prog w E Q h
theorem tup_ne {Q : Value → Shared → Prop} (hl : s.heap.IsTuple l #[x, y]) (hb : s.heap.IsTuple b #[x', y']) (hu : A.units < cLine) (e1 : EqAt A.in1 s x x' true) (e2 : EqAt A.in1 s y y' true) (h : Q (.bool false) s) :
    wpAny (model prog w) A (compareOp .NotEq (.ref l) (.ref b)) Q E s :=
  RcNeAt.tuples hl hb hu (pair_all e1 e2) prog w E Q h
end
end Np
end

section
namespace Np
open PySem PySem.W PySem.Spec PySem.Calls PyProof.Rows
theorem updF_pre {P : Addr} {o : Obj} {r : List (Addr × Obj)} : ∀ {pre : List (Addr × Obj)}, (∀ p ∈ pre, p.1 ≠ P) → (∀ p ∈ r, p.1 ≠ P) → UpdF P o (pre ++ (P, o) :: r) (fun o' => pre ++ (P, o') :: r)
  | [], _, hr => .head hr
  | p :: pre, hp, hr => .tail (hp p (.head _)) (updF_pre (pre := pre) (fun q hq => hp q (.tail _ hq)) hr)
section
variable {M : Model} {A : Around} {E : Value → Shared → Prop} {s : Shared} {h₀ : Heap} {L a c P : Addr} {m mg mb : Str → Option Value} {cn : Str} {cs : Scope} {ccd : Value} {cl : List (Str × Addr)} {pre cds nw : List (Addr × Obj)}
  {p : Program} {loose : List Str} {mean : ExcName → Option Value} {name qual : Str} {params : Arguments} {body : Expr} {scope : Scope} {ps : Array Value} {pos : Pos} {firstLine : Nat} {clos : List (Str × Addr)}
end
end Np
end

section
namespace Np
open PySem PySem.W PySem.Spec PySem.Calls PyProof.Rows
section
variable {g h₁ h : Heap} {L : Addr} {m : Str → Option Value} {news : List (Addr × Obj)}
end
theorem law_enter {prog : Program} {w : World} {s : Shared} {name : Str} {params : Arguments} {body : List Stmt} {scope : Scope} {pm cd doc : Value} {o : Obj} {fa : Addr} {args : List Value} {binds : List (Str × Value)} {tabs : List (Addr × Addr)} {K : Frag}
    {p : Program} {loose : List Str} {mean : ExcName → Option Value} {mg mb : Str → Option Value} {Q : Value → Shared → Prop} (hT : TabsAt tabs s.heap) (hK : noTabs K = true) (X₀ : K.In s.heap) (T : Top p loose mean mg mb s.heap)
    (ho : s.heap.get? fa = some o) (hd : o.data = .func (docDef name params body scope pm cd doc)) (hcd : s.heap.CodeRec cd name)
    (hbind : bindArgs (docDef name params body scope pm cd doc) ⟨args, []⟩ = pure binds) (hkind : (binds.all fun y => scope.names.lookup y.1 == some .local || scope.names.lookup y.1 == some .cell) = true)
    (hnd : ((cellsFrom 0 scope.names []).map (·.1)).Nodup)
    (h : ∀ g L h₁ tk cells, Fr g L h₁ (bindL (envOfC name scope L fa cd).kindOf binds fun _ => none) → News g L h₁ (cells ++ tabNews tabs) →
      CellsAre (bindC (envOfC name scope L fa cd).kindOf binds fun _ => none) (cellsFrom (L + 1) scope.names []) cells → Below callerA g [] g → K.In g →
      Top topProg (loose ++ (recsOf p).map (·.name) ++ (litsOf p).map (·.1) ++ (clssOf p loose).map (·.name)) mean mg mb g → CodeAll tabs g → (∀ q ∈ tabNews tabs, q.1 < L) → g = ghostOf s.heap tabs →
      wpC (model prog w) (callerA.deeper (envOfC name scope L fa cd)) (execs body (envOfC name scope L fa cd)) (fun fl s' => Q (match fl with | .ret v => v | _ => .none) s') (fun _ _ => False) { s with heap := h₁, toks := tk })
    (hco : scope.isCoroutine = false) (hgen : scope.isGenerator = false) (hk : scope.kind = .function) :
    wpC (model prog w) callerA (call (.ref fa) args) Q (fun _ _ => False) s := by
  refine wpC_call ?_
  refine codeC_call_function (by decide) ho hd hco hgen rfl hcd ?_
  rw [hbind]
  refine wpAny_pure (wpAny_newFunctionEnv_cells hk (kindsX hkind _) fun env' he s' x => ?_)
  subst he
  refine ⟨T.nolimit.keeps x.toInCall.keep, codeC_func ?_⟩
  obtain ⟨h₁, tk, rfl, _⟩ := x.done
  obtain ⟨cells, NC, Y⟩ := Cl.news (h₀ := s.heap) (Nat.le_refl _) fun n c hm => ⟨x.cell n c (lookup_of_mem_nodup (cellsFrom_names scope.names 0 (s.heap.objs.size + 1) [] [] rfl ▸ hnd) hm), x.above n c hm⟩
  have F : Fr s.heap s.heap.objs.size h₁ _ := ⟨x.toInCall.ns, x.toInCall.keep, Nat.le_refl _⟩
  exact h (ghostOf s.heap tabs) s.heap.objs.size h₁ tk cells (ghost_fr hT F) (ghost_news hT F NC) Y (ghost_below hT) (ghost_K hT X₀ hK) (ghost_top hT T) (ghost_code hT) (ghost_lt hT F) rfl
theorem law_fin {c : ClaimW} {cl : Str → Option Addr} {mean : ExcName → Option Value} {args : List WData} {s₁ s' : Shared} {tabs : List (Addr × Addr)} {b : Bool} (hT : TabsAt tabs s₁.heap) (hk : ∀ a o, (ghostOf s₁.heap tabs).get? a = some o → s'.heap.get? a = some o)
    (hg : ∀ q ∈ tabs, ∃ ps, s'.heap.get? q.2 = some (tabObj ps)) (hn : ∀ cls, c.raises args cls = false) (hp : c.post args (.bool b) args = true) (hos : s'.os = s₁.os) (hge : s'.gens = #[]) : GoodWG c cl mean args s₁ (.ok (.ret (.bool b))) s' := by
  have old : ∀ a o, s₁.heap.get? a = some o → s'.heap.get? a = some o ∨ (isCodeTable s₁.heap a ∧ o = tabObj #[] ∧ ∃ ps, s'.heap.get? a = some (tabObj ps)) := fun a o e => by
    by_cases ha : a ∈ tabs.map (·.2)
    · obtain ⟨q, hq, rfl⟩ := List.mem_map.mp ha
      have e2 := (hT q hq).2
      rw [e] at e2
      exact .inr ⟨((hT q hq).1.tab (hT q hq).2).isCodeTable, Option.some.inj e2, hg q hq⟩
    · exact .inl (hk a o (ghost_ne e ha))
  refine ⟨.inl ⟨_, _, [], rfl, hn, .bool b, hp, fun _ => ⟨List.nodup_nil, fun _ h => nomatch h⟩⟩, ⟨fun a o e => ?_, fun a o e => ?_⟩, hos, .of_eq hge⟩
  · rcases old a o e with q | ⟨ht, rfl, ps, hP⟩
    · exact .inl q
    · exact .inr (.inl ⟨ht, rfl, #[], ps, rfl, by rw [Array.empty_append]; exact hP⟩)
  · rcases old a o e with q | ⟨_, _, ps, hP⟩
    · exact ⟨_, q⟩
    · exact ⟨_, hP⟩
end Np
end

section
namespace Np
open PySem PySem.W PySem.Spec PySem.Calls PyProof.Rows

/-! ### a logic in which heaps, tokens and frames are out of sight -/
/-- what is known of a value -/
abbrev AV := Value → Prop
def isI (i : Int) : AV := fun v => ∃ t, v = .int i t
def isB (l : List UInt8) : AV := fun v => ∃ t, v = .bytes l.toArray t
def isV (u : Value) : AV := fun v => v = u
theorem isI_mk {i : Int} {t : Tok} : isI i (.int i t) := ⟨t, rfl⟩
theorem isV_mk {u : Value} : isV u u := rfl
abbrev Sto := List (Str × AV)
/-- what is known of an object of one's own -/
abbrev Led := List (Addr × (Obj → Prop))
def isBa (l : List UInt8) : Obj → Prop := fun o => o = baObj l
def AllOf : List AV → List Value → Prop
  | [], [] => True
  | p :: l, v :: r => p v ∧ AllOf l r
  | _, _ => False
def isTup (l : List AV) : Obj → Prop := fun o => ∃ vs : List Value, o = { cls := .type "tuple", data := .seq vs.toArray } ∧ AllOf l vs
def LedR : Led → List (Addr × Obj) → Prop
  | [], [] => True
  | p :: l, q :: r => (p.1 = q.1 ∧ p.2 q.2) ∧ LedR l r
  | _, _ => False
/-- the place in which a text of one's own runs -/
structure Pl (w : World) (cs : Scope) where
  mean : ExcName → Option Value
  mg : Str → Option Value
  mb : Str → Option Value
  dp : Nat
  un : Nat
  gd : Option (List Code)
  cn : Str
  L : Addr
  a : Addr
  ccd : Value
  cl : List (Str × Addr)
  outer : List Env
  A₀ : Around
  base : Heap
  h₀ : Heap
  s₀ : Shared
  hk : cs.kind = .function
  X : (Hz.hd.heap_1 w.params).In h₀
  T : Top topProg looseN mean mg mb h₀
  B : Below A₀ base outer h₀
  tn : Bool
  D : tn = true → KtsDicts (outer.filterMap (·.frame)) h₀ ∧ (Hz.hd.heap_1 w.params).In base ∧ Top topProg looseN mean mg mb base
section
variable {w : World} {cs : Scope}
abbrev Pl.env (C : Pl w cs) : Env := envX C.cn cs C.L C.a C.ccd C.cl
abbrev Pl.A (C : Pl w cs) : Around := ktrTop C.dp C.un C.gd C.cn cs C.L C.a C.ccd C.cl C.outer
abbrev Pl.M (C : Pl w cs) : Model := model PySem.Challenge.rw_np0200_01.row.prog w
def Pl.Room (C : Pl w cs) (k : Nat) : Prop := C.dp + 2 * k < recursionLimit ∧ C.un + 16 * k < cLine
def Ag (σ : Sto) (m : Str → Option Value) : Prop := ∀ x av, σ.lookup x = some av → ∃ v, m x = some v ∧ av v
/-- a ground that the place's own may have turned into -/
structure Ground (C : Pl w cs) (g : Heap) : Prop where
  B : Below C.A₀ C.base C.outer g
  X : (Hz.hd.heap_1 w.params).In g
  T : Top topProg looseN C.mean C.mg C.mb g
  same : C.tn = false → g = C.h₀
  turn : C.tn = true → KtsTurn (C.outer.filterMap (·.frame)) C.h₀ g ∧ KtsDicts (C.outer.filterMap (·.frame)) g
theorem Pl.ground (C : Pl w cs) : Ground C C.h₀ := ⟨C.B, C.X, C.T, fun _ => rfl, fun h => ⟨.refl, (C.D h).1⟩⟩
/-- the state: the names' values, one's own objects -/
structure St (C : Pl w cs) (σ : Sto) (led : Led) (s : Shared) : Prop where
  is : s = { C.s₀ with heap := s.heap, toks := s.toks }
  has : ∃ g m nw, Ground C g ∧ Fr g C.L s.heap m ∧ Ag σ m ∧ News g C.L s.heap nw ∧ LedR led nw ∧ (nw.map (·.1)).Nodup
/-- `e` read there gives what `av` tells, and changes nothing -/
structure Ev (C : Pl w cs) (σ : Sto) (led : Led) (e : PySem.Expr) (av : AV) : Prop where
  run : ∀ (s : Shared) (Q E : Value → Shared → Prop), St C σ led s → (∀ v s', av v → St C σ led s' → Q v s') → wpAny C.M C.A (eval e C.env) Q E s
structure Evs (C : Pl w cs) (σ : Sto) (led : Led) (es : List PySem.Expr) (avs : List AV) : Prop where
  run : ∀ (pos : Pos) (s : Shared) (Q : List Value → Shared → Prop) (E : Value → Shared → Prop), St C σ led s → (∀ vs s', AllOf avs vs → St C σ led s' → Q vs s') → wpAny C.M C.A (spliced (backTo pos (starEach es C.env))) Q E s
/-- `e` tried there tells whether `p` -/
structure Tst (C : Pl w cs) (σ : Sto) (led : Led) (e : PySem.Expr) (p : Prop) : Prop where
  run : ∀ (s : Shared) (Q : Bool → Shared → Prop) (E : Value → Shared → Prop) , St C σ led s → (∀ c s', (c = true ↔ p) → St C σ led s' → Q c s') → wpAny C.M C.A (isTrue e C.env (eval e C.env)) Q E s
end

section
variable {w : World} {cs : Scope} {C : Pl w cs} {σ : Sto} {led : Led}
theorem St.set {s : Shared} (S : St C σ led s) {h' : Heap} {k : Nat} {m : Str → Option Value} {nw : List (Addr × Obj)} {σ' : Sto} {led' : Led} {g : Heap} (V : Ground C g) (F : Fr g C.L h' m) (G : Ag σ' m) (N : News g C.L h' nw) (R : LedR led' nw) (D : (nw.map (·.1)).Nodup) :
    St C σ' led' { s with heap := h', toks := k } := ⟨by rw [S.is], g, m, nw, V, F, G, N, R, D⟩
theorem St.toks {s : Shared} (S : St C σ led s) {k : Nat} : St C σ led { s with toks := k } :=
  let ⟨_, _, _, V, F, G, N, R, D⟩ := S.has
  S.set V F G N R D
end

section
variable {w : World} {cs : Scope} {C : Pl w cs} {σ : Sto} {led : Led} {pos : Pos}
theorem Ev.weak {e : PySem.Expr} {av av' : AV} (h : Ev C σ led e av) (i : ∀ v, av v → av' v) : Ev C σ led e av' := ⟨fun s Q E S q => h.run s Q E S fun v s' a S' => q v s' (i v a) S'⟩
theorem Ev.loc {x : Str} {av : AV} (hx : cs.names.lookup x = some .local) (hv : σ.lookup x = some av) (hd : (x == ("__debug__" : Str)) = false) : Ev C σ led (.Name x pos) av := by
  refine ⟨fun s Q E S q => ?_⟩
  obtain ⟨g, m, nw, V, F, G, N, R, D⟩ := S.has
  obtain ⟨v, hm, ha⟩ := G x av hv
  exact nameX_L F hm (q v s ha S) C.hk hx hd
theorem Ev.glo {x : Str} {v : Value} {av : AV} (hx : cs.names.lookup x = some .globalImplicit) (e : nsIn (Hz.hd.heap_1 w.params) mainGlobals x = some (some v)) (ha : av v) (hd : (x == ("__debug__" : Str)) = false) : Ev C σ led (.Name x pos) av := by
  refine ⟨fun s Q E S q => ?_⟩
  obtain ⟨g, m, nw, V, F, G, N, R, D⟩ := S.has
  exact nameX_K F V.X (topRead_of V.T) e (q v s ha S) C.hk hx hd
theorem Ev.blt {x : Str} {v : Value} (hx : cs.names.lookup x = some .globalImplicit) (e : nsIn (Hz.hd.heap_1 w.params) mainGlobals x = some none) (hv : bootBuiltins x = some v) (hn : x ≠ "__name__") (hd : (x == ("__debug__" : Str)) = false) : Ev C σ led (.Name x pos) (isV v) := by
  refine ⟨fun s Q E S q => ?_⟩
  obtain ⟨g, m, nw, V, F, G, N, R, D⟩ := S.has
  exact nameX_B F V.X (topRead_of V.T) e hv hn (q v s rfl S) C.hk hx hd
theorem Ev.int {i : Int} {k : Nat} : Ev C σ led (.Constant (.int i) k pos) (isI i) :=
  ⟨fun s Q E S q => wpAny_Constant_int (q _ _ ⟨_, rfl⟩ S.toks)⟩
def Pw (y p : Int) : Prop := (2 : Int) ^ y.toNat = p
def P2 (p : Int) : Prop := ∃ k : Nat, (2 : Int) ^ k = p
def PwM (y p : Int) : Prop := ∃ k : Nat, (2 : Int) ^ k - 1 = y ∧ (2 : Int) ^ k = p
theorem pwN (n : Nat) : Pw n ((2 ^ n : Nat) : Int) := by unfold Pw; rw [Int.toNat_natCast]; push_cast; rfl
theorem pw2 : Pw 2 4 := rfl
theorem pw4 : Pw 4 16 := rfl
theorem pw5 : Pw 5 32 := by unfold Pw; decide
theorem pw8 : Pw 8 256 := by unfold Pw; decide
theorem pw9 : Pw 9 512 := by unfold Pw; decide
theorem pw16 : Pw 16 65536 := by unfold Pw; decide
theorem pw24 : Pw 24 16777216 := by unfold Pw; decide
theorem p2_16 : P2 16 := ⟨4, rfl⟩
theorem p2_256 : P2 256 := ⟨8, rfl⟩
theorem p2_65536 : P2 65536 := ⟨16, rfl⟩
theorem p2_16777216 : P2 16777216 := ⟨24, rfl⟩
theorem pwM_1 : PwM 1 2 := ⟨1, rfl, rfl⟩
theorem pwM_15 : PwM 15 16 := ⟨4, rfl, rfl⟩
theorem pwM_255 : PwM 255 256 := ⟨8, rfl, rfl⟩
theorem mul_ok {x y : Int} (hx : x.natAbs ≤ 2000) (hy : y.natAbs ≤ 2000) : IntMulOk x y := by
  mul_fits
theorem Ev.bin {op : Operator} {l r : PySem.Expr} {a b c : AV} (h1 : Ev C σ led l a) (h2 : Ev C σ led r b)
    (h : ∀ u v s (Q E : Value → Shared → Prop), a u → b v → (∀ x k, c x → Q x { s with toks := k }) → wpAny C.M C.A (binaryOp op u v) Q E s) : Ev C σ led (.BinOp l op r pos) c :=
  ⟨fun s Q E S q => wpAny_BinOp (h1.run s _ E S fun u s1 ha S1 => h2.run s1 _ E S1 fun v s2 hb S2 => h u v s2 Q E ha hb fun x k hc => q x _ hc S2.toks)⟩
section
variable {l r : PySem.Expr} {x y p : Int}
theorem Ev.add (h1 : Ev C σ led l (isI x)) (h2 : Ev C σ led r (isI y)) : Ev C σ led (.BinOp l .Add r pos) (isI (x + y)) :=
  h1.bin h2 (by rintro _ _ s Q E ⟨t, rfl⟩ ⟨u, rfl⟩ q; exact add_int (q _ _ ⟨_, rfl⟩))
theorem Ev.sub (h1 : Ev C σ led l (isI x)) (h2 : Ev C σ led r (isI y)) : Ev C σ led (.BinOp l .Sub r pos) (isI (x - y)) :=
  h1.bin h2 (by rintro _ _ s Q E ⟨t, rfl⟩ ⟨u, rfl⟩ q; exact sub_int (q _ _ ⟨_, rfl⟩))
theorem Ev.mul (h1 : Ev C σ led l (isI x)) (h2 : Ev C σ led r (isI y)) (hx : x.natAbs ≤ 2000) (hy : y.natAbs ≤ 2000) : Ev C σ led (.BinOp l .Mult r pos) (isI (x * y)) :=
  h1.bin h2 (by rintro _ _ s Q E ⟨t, rfl⟩ ⟨u, rfl⟩ q; exact mul_int (q _ _ ⟨_, rfl⟩) (mul_ok hx hy))
theorem Ev.div (h1 : Ev C σ led l (isI x)) (h2 : Ev C σ led r (isI y)) (hp : 0 < y) (hz : y < 1073741824) : Ev C σ led (.BinOp l .FloorDiv r pos) (isI (x / y)) :=
  h1.bin h2 (by rintro _ _ s Q E ⟨t, rfl⟩ ⟨u, rfl⟩ q; exact div_p hp hz (q _ _ ⟨_, rfl⟩))
theorem Ev.mod (h1 : Ev C σ led l (isI x)) (h2 : Ev C σ led r (isI y)) (hp : 0 < y) : Ev C σ led (.BinOp l .Mod r pos) (isI (x % y)) :=
  h1.bin h2 (by rintro _ _ s Q E ⟨t, rfl⟩ ⟨u, rfl⟩ q; exact mod_p hp (q _ _ ⟨_, rfl⟩))
theorem Ev.shr (h1 : Ev C σ led l (isI x)) (h2 : Ev C σ led r (isI y)) (hn : 0 ≤ y) (hp : Pw y p) : Ev C σ led (.BinOp l .RShift r pos) (isI (x / p)) :=
  h1.bin h2 (by rintro _ _ s Q E ⟨t, rfl⟩ ⟨u, rfl⟩ q; exact shr_p hn hp (q _ _ ⟨_, rfl⟩))
theorem Ev.shl (h1 : Ev C σ led l (isI x)) (h2 : Ev C σ led r (isI y)) (hn : 0 ≤ y) (hn2 : y ≤ 1000000) (hp : Pw y p) (ha : 0 ≤ x) (ha' : x < 65536) : Ev C σ led (.BinOp l .LShift r pos) (isI (x * p)) :=
  h1.bin h2 (by rintro _ _ s Q E ⟨t, rfl⟩ ⟨u, rfl⟩ q; exact shl_p hn hn2 (by omega) hp (q _ _ ⟨_, rfl⟩))
theorem Ev.orh (h1 : Ev C σ led l (isI x)) (h2 : Ev C σ led r (isI (y * p))) (hp : P2 p) (ha : 0 ≤ x) (ha' : x < p) (hb : 0 ≤ y) : Ev C σ led (.BinOp l .BitOr r pos) (isI (x + y * p)) :=
  h1.bin h2 (by rintro _ _ s Q E ⟨t, rfl⟩ ⟨u, rfl⟩ q; obtain ⟨k, hp⟩ := hp; exact or_high hp ha ha' hb (q _ _ ⟨_, rfl⟩))
theorem Ev.orl (h1 : Ev C σ led l (isI (x * p))) (h2 : Ev C σ led r (isI y)) (hp : P2 p) (ha : 0 ≤ x) (hb : 0 ≤ y) (hb' : y < p) : Ev C σ led (.BinOp l .BitOr r pos) (isI (x * p + y)) :=
  h1.bin h2 (by rintro _ _ s Q E ⟨t, rfl⟩ ⟨u, rfl⟩ q; obtain ⟨k, hp⟩ := hp; exact or_low hp ha hb hb' (q _ _ ⟨_, rfl⟩))
theorem Ev.and (h1 : Ev C σ led l (isI x)) (h2 : Ev C σ led r (isI y)) (hp : PwM y p) : Ev C σ led (.BinOp l .BitAnd r pos) (isI (x % p)) :=
  h1.bin h2 (by rintro _ _ s Q E ⟨t, rfl⟩ ⟨u, rfl⟩ q; obtain ⟨k, hp, hq⟩ := hp; exact and_mask hp hq (q _ _ ⟨_, rfl⟩))
variable {b c : List UInt8}
theorem Ev.cat (h1 : Ev C σ led l (isB b)) (h2 : Ev C σ led r (isB c)) (hz : b.length + c.length ≤ 16777216) : Ev C σ led (.BinOp l .Add r pos) (isB (b ++ c)) :=
  h1.bin h2 (by rintro _ _ s Q E ⟨t, rfl⟩ ⟨u, rfl⟩ q; exact add_L hz fun t k => q _ _ ⟨_, rfl⟩)
theorem Ev.rep {z : UInt8} (h1 : Ev C σ led l (isB [z])) (h2 : Ev C σ led r (isI y)) (h0 : 0 ≤ y) (hz : y ≤ 1048576) : Ev C σ led (.BinOp l .Mult r pos) (isB (List.replicate y.toNat z)) :=
  h1.bin h2 (by rintro _ _ s Q E ⟨t, rfl⟩ ⟨u, rfl⟩ q; exact mul_L h0 hz fun t k => q _ _ ⟨_, rfl⟩)
end
theorem Tst.cmp {op : CmpOp} {l r : PySem.Expr} {a b : AV} {p : Prop} (h1 : Ev C σ led l a) (h2 : Ev C σ led r b)
    (h : ∀ u v s (Q : Value → Shared → Prop) (E : Value → Shared → Prop), a u → b v → (∀ c : Bool, (c = true ↔ p) → Q (.bool c) s) → wpAny C.M C.A (compareOp op u v) Q E s) (hm : behindInMarks op r = false) : Tst C σ led (.Compare l [op] [r] pos) p :=
  ⟨fun s Q E S q => wpAny_isTrue_Compare1 (h1.run s _ E S fun u s1 ha S1 => h2.run s1 _ E S1 fun v s2 hb S2 => h u v s2 _ E ha hb fun c hc => wpAny_truthy_bool (q c s2 hc S2)) hm⟩
section
variable {l r : PySem.Expr} {x y : Int}
theorem Tst.lt (h1 : Ev C σ led l (isI x)) (h2 : Ev C σ led r (isI y)) (hm : behindInMarks .Lt r = false) : Tst C σ led (.Compare l [.Lt] [r] pos) (x < y) :=
  .cmp h1 h2 (by rintro _ _ s Q E ⟨t, rfl⟩ ⟨u, rfl⟩ q; exact lt_int (q _ decide_eq_true_iff)) hm
theorem Tst.le (h1 : Ev C σ led l (isI x)) (h2 : Ev C σ led r (isI y)) (hm : behindInMarks .LtE r = false) : Tst C σ led (.Compare l [.LtE] [r] pos) (x ≤ y) :=
  .cmp h1 h2 (by rintro _ _ s Q E ⟨t, rfl⟩ ⟨u, rfl⟩ q; exact le_int (q _ decide_eq_true_iff)) hm
theorem Tst.gt (h1 : Ev C σ led l (isI x)) (h2 : Ev C σ led r (isI y)) (hm : behindInMarks .Gt r = false) : Tst C σ led (.Compare l [.Gt] [r] pos) (y < x) :=
  .cmp h1 h2 (by rintro _ _ s Q E ⟨t, rfl⟩ ⟨u, rfl⟩ q; exact gt_int (q _ decide_eq_true_iff)) hm
theorem Tst.ge (h1 : Ev C σ led l (isI x)) (h2 : Ev C σ led r (isI y)) (hm : behindInMarks .GtE r = false) : Tst C σ led (.Compare l [.GtE] [r] pos) (y ≤ x) :=
  .cmp h1 h2 (by rintro _ _ s Q E ⟨t, rfl⟩ ⟨u, rfl⟩ q; exact ge_int (q _ decide_eq_true_iff)) hm
theorem Tst.eq (h1 : Ev C σ led l (isI x)) (h2 : Ev C σ led r (isI y)) (hm : behindInMarks .Eq r = false) : Tst C σ led (.Compare l [.Eq] [r] pos) (x = y) :=
  .cmp h1 h2 (by rintro _ _ s Q E ⟨t, rfl⟩ ⟨u, rfl⟩ q; exact eq_int (q _ beq_iff_eq)) hm
theorem Tst.ne (h1 : Ev C σ led l (isI x)) (h2 : Ev C σ led r (isI y)) (hm : behindInMarks .NotEq r = false) : Tst C σ led (.Compare l [.NotEq] [r] pos) (x ≠ y) :=
  .cmp h1 h2 (by rintro _ _ s Q E ⟨t, rfl⟩ ⟨u, rfl⟩ q; exact ne_int (q _ bne_iff_ne)) hm
theorem Tst.beq {b c : List UInt8} (h1 : Ev C σ led l (isB b)) (h2 : Ev C σ led r (isB c)) (hm : behindInMarks .Eq r = false) : Tst C σ led (.Compare l [.Eq] [r] pos) (b = c) :=
  .cmp h1 h2 (by rintro _ _ s Q E ⟨t, rfl⟩ ⟨u, rfl⟩ q; exact eq_L (q _ decide_eq_true_iff)) hm
theorem Tst.bne {b c : List UInt8} (h1 : Ev C σ led l (isB b)) (h2 : Ev C σ led r (isB c)) (hm : behindInMarks .NotEq r = false) : Tst C σ led (.Compare l [.NotEq] [r] pos) (b ≠ c) :=
  .cmp h1 h2 (by rintro _ _ s Q E ⟨t, rfl⟩ ⟨u, rfl⟩ q; exact ne_L (q _ decide_eq_true_iff)) hm
variable {p q : Prop}
theorem Tst.and {l : PySem.Expr} {rs : List PySem.Expr} (h1 : Tst C σ led l p) (h2 : p → Tst C σ led (.BoolOp .And (r :: rs) pos) q) : Tst C σ led (.BoolOp .And (l :: r :: rs) pos) (p ∧ q) := by
  refine ⟨fun s Q E S k => isTrue_and (h1.run s _ E S fun c s1 hc S1 => ?_)⟩
  cases c with
  | false => exact k false s1 ⟨fun e => absurd e (by decide), fun e => absurd (hc.mpr e.1) (by decide)⟩ S1
  | true => exact (h2 (hc.mp rfl)).run s1 _ E S1 fun c2 s2 hc2 S2 => k c2 s2 ⟨fun e => ⟨hc.mp rfl, hc2.mp e⟩, fun e => hc2.mpr e.2⟩ S2
theorem Tst.andF {l : PySem.Expr} {rs : List PySem.Expr} (h1 : Tst C σ led l p) (hp : ¬ p) : Tst C σ led (.BoolOp .And (l :: rs) pos) False :=
  ⟨fun s Q E S k => isTrue_and (h1.run s _ E S fun c s1 hc S1 => by rw [if_neg (fun e => hp (hc.mp e))]; exact k false s1 ⟨fun e => absurd e (by decide), False.elim⟩ S1)⟩
theorem Tst.and1 (h1 : Tst C σ led r q) : Tst C σ led (.BoolOp .And [r] pos) q := by
  refine ⟨fun s Q E S k => isTrue_and (h1.run s _ E S fun c s1 hc S1 => ?_)⟩
  cases c with
  | false => exact k false s1 hc S1
  | true => exact isTrue_and_nil (k true s1 hc S1)
theorem Tst.or {l : PySem.Expr} {rs : List PySem.Expr} (h1 : Tst C σ led l p) (h2 : ¬ p → Tst C σ led (.BoolOp .Or (r :: rs) pos) q) : Tst C σ led (.BoolOp .Or (l :: r :: rs) pos) (p ∨ q) := by
  refine ⟨fun s Q E S k => isTrue_or (h1.run s _ E S fun c s1 hc S1 => ?_)⟩
  cases c with
  | true => exact k true s1 ⟨fun _ => .inl (hc.mp rfl), fun _ => rfl⟩ S1
  | false =>
    have hp : ¬ p := fun e => absurd (hc.mpr e) (by decide)
    exact (h2 hp).run s1 _ E S1 fun c2 s2 hc2 S2 => k c2 s2 ⟨fun e => .inr (hc2.mp e), fun e => hc2.mpr (e.resolve_left hp)⟩ S2
theorem Tst.orT {l : PySem.Expr} {rs : List PySem.Expr} (h1 : Tst C σ led l p) (hp : p) : Tst C σ led (.BoolOp .Or (l :: rs) pos) True :=
  ⟨fun s Q E S k => isTrue_or (h1.run s _ E S fun c s1 hc S1 => by rw [if_pos (hc.mpr hp)]; exact k true s1 ⟨fun _ => trivial, fun _ => rfl⟩ S1)⟩
theorem Tst.or1 (h1 : Tst C σ led r q) : Tst C σ led (.BoolOp .Or [r] pos) q := by
  refine ⟨fun s Q E S k => isTrue_or (h1.run s _ E S fun c s1 hc S1 => ?_)⟩
  cases c with
  | true => exact k true s1 hc S1
  | false => exact isTrue_or_nil (k false s1 hc S1)
theorem Tst.not (h1 : Tst C σ led l p) : Tst C σ led (.UnaryOp .Not l pos) (¬ p) :=
  ⟨fun s Q E S k => wpAny_isTrue_Not (h1.run s _ E S fun c s1 hc S1 => k _ s1 (by cases c <;> simp_all) S1)⟩
theorem Ev.iteT {t : PySem.Expr} {a : AV} (h : Tst C σ led t p) (hp : p) (h1 : Ev C σ led l a) : Ev C σ led (.IfExp t l r pos) a :=
  ⟨fun s Q E S k => wpAny_IfExp (h.run s _ E S fun c s1 hc S1 => by rw [if_pos (hc.mpr hp)]; exact h1.run s1 Q E S1 k)⟩
theorem Ev.iteF {t : PySem.Expr} {a : AV} (h : Tst C σ led t p) (hp : ¬ p) (h1 : Ev C σ led r a) : Ev C σ led (.IfExp t l r pos) a :=
  ⟨fun s Q E S k => wpAny_IfExp (h.run s _ E S fun c s1 hc S1 => by rw [if_neg (fun e => hp (hc.mp e))]; exact h1.run s1 Q E S1 k)⟩
end
section
variable {e : PySem.Expr} {es : List PySem.Expr} {av : AV} {avs : List AV}
def plainE : PySem.Expr → Bool
  | .Starred .. | .ListComp .. | .SetComp .. | .DictComp .. => false
  | _ => true
theorem starEach_plain (h : plainE e = true) (env : Env) : starEach (e :: es) env = (false, eval e env) :: starEach es env := by
  cases e <;> first | rfl | cases h
theorem starEach_any (h : es.all plainE = true) (pos : Pos) (env : Env) : (backTo pos (starEach es env)).any (·.1) = false := by
  induction es with
  | nil => rfl
  | cons e es ih =>
    simp only [List.all_cons, Bool.and_eq_true] at h
    rw [starEach_plain h.1]
    exact ih h.2
theorem eval_call_name {x : Str} {p : Pos} {pos : Pos} (env : Env) : eval (.Call (.Name x p) es [] pos) env = (do callWith pos (← eval (.Name x p) env) [] (backTo pos (starEach es env)) (backToKw pos (keywordEach [] env))) := rfl
theorem Evs.nil : Evs C σ led [] [] := ⟨fun pos s Q E S q => args_nil (q [] s trivial S)⟩
theorem Evs.cons (h1 : Ev C σ led e av) (h2 : Evs C σ led es avs) (he : plainE e = true) : Evs C σ led (e :: es) (av :: avs) :=
  ⟨fun pos s Q E S q => args_cons (h1.run s _ E S fun v s1 ha S1 => h2.run pos s1 _ E S1 fun vs s2 hb S2 => q (v :: vs) s2 ⟨ha, hb⟩ S2) (starEach_plain he _)⟩
end
end
end Np
end

section
namespace Np
open PySem PySem.W PySem.Spec PySem.Calls PyProof.Rows
example : (fun (_ : OpenLaw) (_ : Params → Frag) => True) PySem.Challenge.rw_np0200_01 Hz.hd.heap_1 := by
  k_fill
  trivial
section
variable {w : World} {cs : Scope} {C : Pl w cs} {σ : Sto} {led : Led} {pos : Pos}
theorem ledR_mem {D : Addr} {P : Obj → Prop} : ∀ {led : Led} {nw : List (Addr × Obj)}, LedR led nw → (D, P) ∈ led → ∃ o, (D, o) ∈ nw ∧ P o
  | p :: l, q :: r, h, hm => by
    rcases List.mem_cons.mp hm with e | hm
    · obtain ⟨⟨h1, h2⟩, _⟩ := h
      rw [← e] at h1 h2
      exact ⟨q.2, (show (D, q.2) = q from by rw [show D = q.1 from h1]) ▸ .head _, h2⟩
    · obtain ⟨o, a, b⟩ := ledR_mem h.2 hm
      exact ⟨o, .tail _ a, b⟩
  | [], _, _, hm => nomatch hm
theorem go_bytes {base : PySem.Expr} {b : Array UInt8} {t : Tok} {r : Value} : letTemporaryGo base (.bytes b t) r = pure () := by
  unfold letTemporaryGo; split <;> first | rfl | contradiction
theorem Ev.item {e i : PySem.Expr} {l : List UInt8} {k : Int} (h1 : Ev C σ led e (isB l)) (h2 : Ev C σ led i (isI k)) (hs : ∀ o i', subscripted i false o i' = operate [o, i'] (getItem o i')) (hz : l.length ≤ 16777216) (h0 : 0 ≤ k) (hk : k < l.length) :
    Ev C σ led (.Subscript e i pos) (isI (octI l k)) := by
  refine ⟨fun s Q E S q => Subscript_ (h1.run s _ E S fun u s1 ha S1 => h2.run s1 _ E S1 fun v s2 hb S2 => ?_)⟩
  obtain ⟨t, rfl⟩ := ha
  obtain ⟨t', rfl⟩ := hb
  exact item_L hz h0 hk (fun v hv _ _ => q _ _ ⟨s2.toks, by rw [hv]; rfl⟩ S2.toks) (hs _ _) fun _ => go_bytes
theorem Ev.baitem {x : Str} {p : Pos} {i : PySem.Expr} {D : Addr} {l : List UInt8} {k : Int} (h1 : Ev C σ led (.Name x p) (isV (.ref D))) (hm : (D, isBa l) ∈ led) (h2 : Ev C σ led i (isI k)) (hs : ∀ o i', subscripted i false o i' = operate [o, i'] (getItem o i')) (hz : l.length ≤ 16777216) (h0 : 0 ≤ k) (hk : k < l.length) :
    Ev C σ led (.Subscript (.Name x p) i pos) (isI (octI l k)) := by
  refine ⟨fun s Q E S q => Subscript_ (h1.run s _ E S fun u s1 ha S1 => h2.run s1 _ E S1 fun v s2 hb S2 => ?_)⟩
  obtain rfl := ha
  obtain ⟨t', rfl⟩ := hb
  obtain ⟨g, m, nw, V, F, G, N, R, D'⟩ := S2.has
  obtain ⟨o, ho, rfl⟩ := ledR_mem R hm
  exact ba_item_L N ho hz h0 hk (fun v hv _ _ => q _ _ ⟨s2.toks, by rw [hv]; rfl⟩ S2.toks) (hs _ _) fun _ => rfl
theorem Ev.cut {e a b : PySem.Expr} {l : List UInt8} {x y : Int} {p : Pos} (h1 : Ev C σ led e (isB l)) (h2 : Ev C σ led a (isI x)) (h3 : Ev C σ led b (isI y)) (hx : 0 ≤ x) (hy : 0 ≤ y) (hz : l.length ≤ 16777216) :
    Ev C σ led (.Subscript e (.Slice (some a) (some b) none p) pos) (isB ((l.drop x.toNat).take (y.toNat - x.toNat))) := by
  refine ⟨fun s Q E S q => Subscript_ (h1.run s _ E S fun u s1 ha S1 => wpAny_Slice (h2.run s1 _ E S1 fun v s2 hb S2 => h3.run s2 _ E S2 fun v' s3 hc S3 => wpAny_pure ?_))⟩
  obtain ⟨t, rfl⟩ := ha
  obtain ⟨t', rfl⟩ := hb
  obtain ⟨t'', rfl⟩ := hc
  obtain ⟨g, m, nw, V, F, G, N, R, D'⟩ := S3.has
  exact slice_L F N (.int _ _) (.int _ _) hz (cut_ab hx hy) (fun h' t' k F' N' => q _ _ ⟨_, rfl⟩ (S3.set V F' G N' R D')) rfl fun _ => go_bytes
theorem Ev.from {e a : PySem.Expr} {l : List UInt8} {x : Int} {p : Pos} (h1 : Ev C σ led e (isB l)) (h2 : Ev C σ led a (isI x)) (hx : 0 ≤ x) (hz : l.length ≤ 16777216) :
    Ev C σ led (.Subscript e (.Slice (some a) none none p) pos) (isB (l.drop x.toNat)) := by
  refine ⟨fun s Q E S q => Subscript_ (h1.run s _ E S fun u s1 ha S1 => wpAny_Slice (h2.run s1 _ E S1 fun v s2 hb S2 => wpAny_pure (wpAny_pure ?_)))⟩
  obtain ⟨t, rfl⟩ := ha
  obtain ⟨t', rfl⟩ := hb
  obtain ⟨g, m, nw, V, F, G, N, R, D'⟩ := S2.has
  exact slice_L F N (.int _ _) .none hz (cut_a hx) (fun h' t' k F' N' => q _ _ ⟨_, rfl⟩ (S2.set V F' G N' R D')) rfl fun _ => go_bytes
theorem Ev.upto {e b : PySem.Expr} {l : List UInt8} {y : Int} {p : Pos} (h1 : Ev C σ led e (isB l)) (h3 : Ev C σ led b (isI y)) (hy : 0 ≤ y) (hz : l.length ≤ 16777216) :
    Ev C σ led (.Subscript e (.Slice none (some b) none p) pos) (isB (l.take y.toNat)) := by
  refine ⟨fun s Q E S q => Subscript_ (h1.run s _ E S fun u s1 ha S1 => wpAny_Slice (wpAny_pure (h3.run s1 _ E S1 fun v s2 hb S2 => wpAny_pure ?_)))⟩
  obtain ⟨t, rfl⟩ := ha
  obtain ⟨t', rfl⟩ := hb
  obtain ⟨g, m, nw, V, F, G, N, R, D'⟩ := S2.has
  exact slice_L F N .none (.int _ _) hz (cut_b hy) (fun h' t' k F' N' => q _ _ ⟨_, rfl⟩ (S2.set V F' G N' R D')) rfl fun _ => go_bytes
theorem Ev.call1 {f : String} {id : String} {x : Str} {p : Pos} {e : PySem.Expr} {es : List PySem.Expr} {avs : List AV} {c : AV} (hx : cs.names.lookup x = some .globalImplicit) (e0 : nsIn (Hz.hd.heap_1 w.params) mainGlobals x = some none) (hb : bootBuiltins x = some (.builtin id)) (hn : x ≠ "__name__") (hd : (x == ("__debug__" : Str)) = false) (h : Evs C σ led (e :: es) avs)
    (hp : (e :: es).all plainE = true)
    (k : ∀ vs s (Q E : Value → Shared → Prop), AllOf avs vs → St C σ led s → (∀ v s', c v → St C σ led s' → Q v s') → wpAny C.M C.A (call (.builtin id) vs) Q E s) :
    Ev C σ led (.Call (.Name x p) (e :: es) [] pos) c := by
  simp only [List.all_cons, Bool.and_eq_true] at hp
  refine ⟨fun s Q E S q => Call_ ((Ev.blt hx e0 hb hn hd).run s _ E S fun u s1 ha S1 => ?_) (eval_call_name _)⟩
  obtain rfl := ha
  exact callWith_builtin1 (h.run pos s1 _ E S1 fun vs s2 hb S2 => k vs s2 Q E hb S2 q) (starEach_plain hp.1 _) (starEach_any hp.2 _ _)
theorem Ev.callT {T : String} {x : Str} {p : Pos} {e : PySem.Expr} {c : AV} (hx : cs.names.lookup x = some .globalImplicit) (e0 : nsIn (Hz.hd.heap_1 w.params) mainGlobals x = some none) (hb : bootBuiltins x = some (.type T)) (hn : x ≠ "__name__") (hd : (x == ("__debug__" : Str)) = false)
    (h : ∀ s (Q E : Value → Shared → Prop), St C σ led s → (∀ v s', c v → St C σ led s' → Q v s') → wpAny C.M C.A (eval e C.env) (fun v s' => wpAny C.M C.A (call (.type T) [v]) Q E s') E s)
    (hp : plainE e = true) : Ev C σ led (.Call (.Name x p) [e] [] pos) c := by
  refine ⟨fun s Q E S q => Call_ ((Ev.blt hx e0 hb hn hd).run s _ E S fun u s1 ha S1 => ?_) (eval_call_name _)⟩
  obtain rfl := ha
  exact callWith_type1 (args_cons (wpAny_mono (h s1 Q E S1 q) (fun v s2 hv => args_nil hv) fun _ _ x => x) (starEach_plain hp _)) (starEach_plain hp _)
section
theorem blt_len : nsIn (Hz.hd.heap_1 w.params) mainGlobals "len" = some none := by k_is
theorem blt_min : nsIn (Hz.hd.heap_1 w.params) mainGlobals "min" = some none := by k_is
theorem blt_max : nsIn (Hz.hd.heap_1 w.params) mainGlobals "max" = some none := by k_is
theorem blt_bytes : nsIn (Hz.hd.heap_1 w.params) mainGlobals "bytes" = some none := by k_is
variable {p : Pos} {e a b : PySem.Expr} {l : List UInt8} {x y : Int}
theorem Ev.len (hx : cs.names.lookup ("len" : Str) = some .globalImplicit) (h : Ev C σ led e (isB l)) (hz : l.length ≤ 1099511627776) (hp : plainE e = true) : Ev C σ led (.Call (.Name "len" p) [e] [] pos) (isI l.length) :=
  .call1 (f := "") hx blt_len boot_len (by decide) (by decide) (.cons h .nil hp) (by simp [hp]) (by
    rintro vs s Q E hv S q
    match vs, hv with
    | [_], ⟨⟨t, rfl⟩, _⟩ => exact len_bytes (by simpa using hz) (q _ _ ⟨s.toks + 1, by simp⟩ S.toks))
theorem Ev.balen {D : Addr} (hx : cs.names.lookup ("len" : Str) = some .globalImplicit) (h : Ev C σ led e (isV (.ref D))) (hm : (D, isBa l) ∈ led) (hz : l.length ≤ 16777216) (hp : plainE e = true) : Ev C σ led (.Call (.Name "len" p) [e] [] pos) (isI l.length) :=
  .call1 (f := "") hx blt_len boot_len (by decide) (by decide) (.cons h .nil hp) (by simp [hp]) (by
    rintro vs s Q E hv S q
    match vs, hv with
    | [_], ⟨rfl, _⟩ =>
      obtain ⟨g, m, nw, V, F, G, N, R, D'⟩ := S.has
      obtain ⟨o, ho, rfl⟩ := ledR_mem R hm
      exact ba_len N ho hz (q _ _ ⟨_, rfl⟩ S.toks))
theorem Ev.min (hx : cs.names.lookup ("min" : Str) = some .globalImplicit) (h1 : Ev C σ led a (isI x)) (h2 : Ev C σ led b (isI y)) (hp : (plainE a && plainE b) = true) : Ev C σ led (.Call (.Name "min" p) [a, b] [] pos) (isI (Min.min x y)) :=
  have hp := Bool.and_eq_true _ _ ▸ hp
  .call1 (f := "") hx blt_min boot_min (by decide) (by decide) (.cons h1 (.cons h2 .nil hp.2) hp.1) (by simp [hp]) (by
    rintro vs s Q E hv S q
    match vs, hv with
    | [_, _], ⟨⟨t, rfl⟩, ⟨u, rfl⟩, _⟩ =>
      obtain ⟨g, m, nw, V, F, G, N, R, D'⟩ := S.has
      exact min_two_N rfl F N fun h' tk F' N' => q _ _ ⟨if y < x then u else t, by congr 1; omega⟩ (S.set V F' G N' R D'))
theorem Ev.max (hx : cs.names.lookup ("max" : Str) = some .globalImplicit) (h1 : Ev C σ led a (isI x)) (h2 : Ev C σ led b (isI y)) (hp : (plainE a && plainE b) = true) : Ev C σ led (.Call (.Name "max" p) [a, b] [] pos) (isI (Max.max x y)) :=
  have hp := Bool.and_eq_true _ _ ▸ hp
  .call1 (f := "") hx blt_max boot_max (by decide) (by decide) (.cons h1 (.cons h2 .nil hp.2) hp.1) (by simp [hp]) (by
    rintro vs s Q E hv S q
    match vs, hv with
    | [_, _], ⟨⟨t, rfl⟩, ⟨u, rfl⟩, _⟩ =>
      obtain ⟨g, m, nw, V, F, G, N, R, D'⟩ := S.has
      exact max_two_N rfl F N fun h' tk F' N' => q _ _ ⟨if x < y then u else t, by congr 1; omega⟩ (S.set V F' G N' R D'))
theorem Ev.bytesB (hx : cs.names.lookup ("bytes" : Str) = some .globalImplicit) (h : Ev C σ led e (isB l)) (hp : plainE e = true) : Ev C σ led (.Call (.Name "bytes" p) [e] [] pos) (isB l) :=
  .callT hx blt_bytes boot_bytes (by decide) (by decide) (fun s Q E S q => h.run s _ E S fun v s1 ha S1 => by
    obtain ⟨t, rfl⟩ := ha
    exact bytes_of_bytes (q _ _ ⟨t, rfl⟩ S1)) hp
theorem Ev.bytesN (hx : cs.names.lookup ("bytes" : Str) = some .globalImplicit) (h : Ev C σ led e (isI x)) (h0 : 0 ≤ x) (h1 : x ≤ 16777216) (hp : plainE e = true) : Ev C σ led (.Call (.Name "bytes" p) [e] [] pos) (isB (List.replicate x.toNat 0)) :=
  .callT hx blt_bytes boot_bytes (by decide) (by decide) (fun s Q E S q => h.run s _ E S fun v s1 ha S1 => by
    obtain ⟨t, rfl⟩ := ha
    exact bytes_of_int h0 h1 (q _ _ ⟨_, rfl⟩ S1.toks)) hp
theorem Ev.bytesBa {D : Addr} (hx : cs.names.lookup ("bytes" : Str) = some .globalImplicit) (h : Ev C σ led e (isV (.ref D))) (hm : (D, isBa l) ∈ led) (hz : l.length ≤ 16777216) (hp : plainE e = true) : Ev C σ led (.Call (.Name "bytes" p) [e] [] pos) (isB l) :=
  .callT hx blt_bytes boot_bytes (by decide) (by decide) (fun s Q E S q => h.run s _ E S fun v s1 ha S1 => by
    obtain rfl := ha
    obtain ⟨g, m, nw, V, F, G, N, R, D'⟩ := S1.has
    obtain ⟨o, ho, rfl⟩ := ledR_mem R hm
    exact bytes_of_ba N ho hz (q _ _ ⟨_, rfl⟩ S1.toks)) hp
/-- ints that are octets -/
structure Evo (C : Pl w cs) (σ : Sto) (led : Led) (es : List PySem.Expr) (ns : List Int) : Prop where
  evs : Evs C σ led es (ns.map isI)
  oct : ∀ n ∈ ns, 0 ≤ n ∧ n < 256
theorem Evo.nil : Evo C σ led [] [] := ⟨.nil, nofun⟩
theorem Evo.cons {es : List PySem.Expr} {ns : List Int} (h : Ev C σ led e (isI x)) (h0 : 0 ≤ x) (h1 : x < 256) (hs : Evo C σ led es ns) (hp : plainE e = true) : Evo C σ led (e :: es) (x :: ns) :=
  ⟨.cons h hs.evs hp, fun n hn => (List.mem_cons.mp hn).elim (fun e => e ▸ ⟨h0, h1⟩) (hs.oct n)⟩
theorem ints_are : ∀ {ns : List Int} {vs : List Value}, AllOf (ns.map isI) vs → IntsAre vs ns
  | [], [], _ => .nil
  | n :: ns, v :: vs, ⟨⟨t, h⟩, r⟩ => h ▸ .cons n t (ints_are r)
theorem ints_len {vs : List Value} {ns : List Int} (h : IntsAre vs ns) : vs.length = ns.length := by
  induction h with
  | nil => rfl
  | cons n t _ ih => simp [ih]
theorem Ev.bytesL {es : List PySem.Expr} {ns : List Int} {p' : Pos} (hx : cs.names.lookup ("bytes" : Str) = some .globalImplicit) (h : Evo C σ led es ns) (hn : Nat.ble ns.length 1000 = true) : Ev C σ led (.Call (.Name "bytes" p) [.List es p'] [] pos) (isB (octs ns)) :=
  have hn := Nat.le_of_ble_eq_true hn
  .callT hx blt_bytes boot_bytes (by decide) (by decide) (fun s Q E S q => List_ (h.evs.run p' s _ E S fun vs s1 ha S1 => by
    obtain ⟨g, m, nw, V, F, G, N, R, D'⟩ := S1.has
    have hi := ints_are ha
    refine newList_K F N (fun D h' F' N' _ => ?_) (by rw [ints_len hi, sizeLine_eq]; omega)
    exact bytes_of_list F' N' rfl (.head _) hi h.oct hn fun h2 t' k F2 N2 => q _ _ ⟨t', rfl⟩ (S1.set V F2 G (fun p hp => N2 p (.tail _ hp)) R D'))) rfl
end
end
end Np
end

section
namespace Np
open PySem PySem.W PySem.Spec PySem.Calls PyProof.Rows
/-- the two logics in one: on clean stacks, on any -/
def wpX (b : Bool) {α : Type} (M : Model) (A : Around) (t : Sem α) (Q : α → Shared → Prop) (E : Value → Shared → Prop) (s : Shared) : Prop :=
  match b with
  | true => wpC M A t Q E s
  | false => wpAny M A t Q E s
section
variable {α β : Type} {b : Bool} {M : Model} {A : Around} {E : Value → Shared → Prop} {s : Shared} {env : Env}
theorem wpX_of {t : Sem α} {Q : α → Shared → Prop} (h : wpAny M A t Q E s) : wpX b M A t Q E s := by
  cases b; exact h; exact wpC_of h
theorem wpX_mono {t : Sem α} {Q Q' : α → Shared → Prop} {E' : Value → Shared → Prop} (h : wpX b M A t Q E s) (hQ : ∀ a s, Q a s → Q' a s) (hE : ∀ e s, E e s → E' e s) : wpX b M A t Q' E' s := by
  cases b; exact wpAny_mono h hQ hE; exact wpC_mono h hQ hE
theorem wpX_bind {m : Sem α} {f : α → Sem β} {Q : β → Shared → Prop} (h : wpX b M A m (fun a s' => wpX b M A (f a) Q E s') E s) : wpX b M A (m >>= f) Q E s := by
  cases b; exact wpAny_bind h; exact wpC_bind h
theorem wpX_eq {t t' : Sem α} {Q : α → Shared → Prop} (e : t = t') (h : wpX b M A t' Q E s) : wpX b M A t Q E s := e ▸ h
theorem wpX_standAt {pos : Pos} {f : Unit → Sem β} {Q : β → Shared → Prop} (h : wpX b M A (f ()) Q E s) : wpX b M A (standAt pos >>= f) Q E s := by
  cases b; exact wpAny_bind (wpAny_standAt h); exact wpC_standAt h
theorem wpX_cons {st rest} {Q : Flow → Shared → Prop}
    (h : wpX b M A (exec st env) (fun f s' => match f with | .next => wpX b M A (execs rest env) Q E s' | f => Q f s') E s) : wpX b M A (execs (st :: rest) env) Q E s := by
  cases b; exact wpAny_execs_cons h; exact wpC_execs_cons h
/-- a call of one's own function -/
theorem wpX_callK {K : Frag} {h₀ : Heap} {x : Str} {p pos : Pos} {f : Value} {e : PySem.Expr} {es : List PySem.Expr} {Q : Value → Shared → Prop} (X : K.In h₀) (hk : keepIn K f = true) (hp : (e :: es).all plainE = true)
    (h : wpAny M A (eval (.Name x p) env) (fun u s₀ => u = f ∧ wpAny M A (spliced (backTo pos (starEach (e :: es) env))) (fun vs s₁ => K.In s₁.heap ∧ wpX b M A (call f vs) Q E s₁) E s₀) E s) : wpX b M A (eval (.Call (.Name x p) (e :: es) [] pos) env) Q E s := by
  simp only [List.all_cons, Bool.and_eq_true] at hp
  cases b
  · refine Call_ (wpAny_mono h (fun u s₀ h₀ => ?_) fun _ _ x => x) (eval_call_name _)
    obtain ⟨rfl, h₀⟩ := h₀
    exact callWith_K X hk h₀ (starEach_plain hp.1 _) (starEach_any hp.2 _ _)
  · refine CallC' (wpAny_mono h (fun u s₀ h₀ => ?_) fun _ _ x => x) (eval_call_name _)
    obtain ⟨rfl, h₀⟩ := h₀
    exact callWith_KC X hk h₀ (starEach_plain hp.1 _) (starEach_any hp.2 _ _)
end
/-- the name of a def -/
structure Fn (w : World) (x : Str) (f : Addr) : Prop where
  glo : nsIn (Hz.hd.heap_1 w.params) mainGlobals x = some (some (.ref f))
  keep : keepIn (Hz.hd.heap_1 w.params) (.ref f) = true
  plain : (x == ("__debug__" : Str)) = false
abbrev CtR (b : Bool) (k : Nat) (w : World) (f : Addr) (led : Led) (avs : List AV) (post : Value → Led → Prop) : Prop := ∀ {cs : Scope} (C : Pl w cs) (σ : Sto) (vs : List Value) (s : Shared) (Q E : Value → Shared → Prop), C.Room k → AllOf avs vs → St C σ led s → (∀ v s' led', post v led' → St C σ led' s' → Q v s') → wpX b C.M C.A (call (.ref f) vs) Q E s
/-- what a call of the text's own def does -/
structure Ct (b : Bool) (k : Nat) (w : World) (x : Str) (f : Addr) (led : Led) (avs : List AV) (post : Value → Led → Prop) : Prop where
  fn : Fn w x f
  run : CtR b k w f led avs post
section
variable {w : World} {cs : Scope} {C : Pl w cs} {σ : Sto} {led : Led} {b : Bool} {k k' : Nat}
theorem Pl.Room.le (h : C.Room k) (l : k' ≤ k) : C.Room k' := ⟨by have := h.1; omega, by have := h.2; omega⟩
def retOf : Flow → Value
  | .ret v => v
  | _ => .none
/-- the statements, run from the state, end as `P` tells -/
structure WS (b : Bool) (C : Pl w cs) (ss : List Stmt) (σ : Sto) (led : Led) (P : Flow → Sto → Led → Prop) : Prop where
  run : ∀ s, St C σ led s → wpX b C.M C.A (execs ss C.env) (fun fl s' => ∃ σ' led', St C σ' led' s' ∧ P fl σ' led') (fun _ _ => False) s
def BindN (fd : FuncData) : List Value → List (Str × Value) → List Str → Prop
  | vs, bs, [] => bindArgs fd ⟨vs, []⟩ = pure bs
  | vs, bs, n :: ns => ∀ v, BindN fd (vs ++ [v]) (bs ++ [(n, v)]) ns
theorem BindN.get {fd : FuncData} : ∀ {ns : List Str} {vs : List Value} {bs : List (Str × Value)}, BindN fd vs bs ns → ∀ us : List Value, us.length = ns.length → bindArgs fd ⟨vs ++ us, []⟩ = pure (bs ++ ns.zip us)
  | [], vs, bs, h, [], _ => by rw [List.append_nil, List.zip_nil_left, List.append_nil]; exact h
  | n :: ns, vs, bs, h, u :: us, hl => by
    have := (h u).get us (by simpa using hl)
    simpa using this
theorem AllOf.length : ∀ {avs : List AV} {vs : List Value}, AllOf avs vs → vs.length = avs.length
  | [], [], _ => rfl
  | _ :: _, _ :: _, h => congrArg (· + 1) h.2.length
theorem zip_lookup : ∀ {ns : List Str} {vs : List Value} {avs : List AV} {x : Str} {av : AV}, AllOf avs vs → (ns.zip avs).lookup x = some av → ∃ v, (ns.zip vs).lookup x = some v ∧ av v
  | n :: ns, v :: vs, a :: avs, x, av, h, e => by
    rw [List.zip_cons_cons, List.lookup_cons] at e ⊢
    cases hx : x == n with
    | true => rw [hx] at e; exact ⟨v, rfl, by cases e; exact h.1⟩
    | false => rw [hx] at e; exact zip_lookup h.2 e
  | [], _, _, _, _, _, e => by simp at e
  | _ :: _, _, [], _, _, _, e => by simp at e
theorem rev_lookup {l : List (Str × Value)} (hn : (l.map (·.1)).Nodup) (x : Str) : l.reverse.lookup x = l.lookup x := by
  induction l with
  | nil => rfl
  | cons p l ih =>
    obtain ⟨n, v⟩ := p
    simp only [List.map_cons, List.nodup_cons] at hn
    rw [List.reverse_cons, List.lookup_append, ih hn.2, List.lookup_cons]
    cases hx : x == n with
    | true =>
      have : l.lookup x = none := by
        rw [List.lookup_eq_none_iff]
        intro p hp
        have : n ≠ p.1 := fun e => hn.1 (e ▸ List.mem_map_of_mem hp)
        rw [beq_iff_eq] at hx
        subst hx
        exact bne_iff_ne.mpr this
      rw [this]; simp [List.lookup_cons, hx]
    | false => simp [List.lookup_cons, hx]
/-- a def entered -/
theorem ctR_enter {name qual : Str} {params : Arguments} {body : List Stmt} {scope : Scope} {dV kV doc pm cdv ct oc : Value} {an od : Option Addr} {osl : Array (Option Value)} {f : Addr} {avs : List AV} {post : Value → Led → Prop}
    (ho : (Hz.hd.heap_1 w.params).lookup f = some ⟨oc, od, .func (fnOf name qual params body scope dV kV doc pm an cdv ct), osl⟩) (hcd : codeIn (Hz.hd.heap_1 w.params) cdv qual = true) (hb : BindN (fnOf name qual params body scope dV kV doc pm an cdv ct) [] [] (params.args.map (·.arg)))
    (hs : (params.args.length == avs.length && (params.args.map (·.arg)).all (fun x => scope.names.lookup x == some .local) && decide (params.args.map (·.arg)).Nodup && !scope.isCoroutine && !scope.isGenerator && scope.kind == .function && scope.names.all (fun x => x.2 != .cell)) = true)
    (h : ∀ C : Pl w scope, C.Room k → let σ := (params.args.map (·.arg)).zip avs; let P : Flow → Sto → Led → Prop := fun fl _ led' => post (retOf fl) led'; WS b C body σ led P) : CtR b (k + 1) w f led avs post := by
  rw [show params.args.length = (params.args.map (·.arg)).length from (List.length_map ..).symm] at hs
  generalize params.args.map (·.arg) = names at hb hs h
  simp only [Bool.and_eq_true, beq_iff_eq, decide_eq_true_eq, Bool.not_eq_true', List.all_eq_true, bne_iff_ne] at hs
  obtain ⟨⟨⟨⟨⟨⟨hl, hloc⟩, hnd⟩, hco⟩, hgen⟩, hk⟩, hcell⟩ := hs
  intro cs C σ vs s Q E hr ha S q
  obtain ⟨g₀, m, nw, V, F, G, N, R, D⟩ := S.has
  have hvl : vs.length = names.length := ha.length.trans hl.symm
  have hbind : BindsTo s (fnOf name qual params body scope dV kV doc pm an cdv ct) ⟨vs, []⟩ (names.zip vs) := BindsTo.of_eq (by simpa using hb.get vs hvl)
  have hmap : (names.zip vs).map (·.1) = names := List.map_fst_zip (Nat.le_of_eq hvl.symm)
  have hloc' : ∀ y ∈ names.zip vs, scope.names.lookup y.1 = some .local := fun y hy => hloc _ (hmap ▸ List.mem_map_of_mem hy)
  have hroom : C.A.depth < recursionLimit := by
    show C.dp < recursionLimit
    have := hr.1; omega
  have key : ∀ (g : Heap) (L' : Addr) (h₁ : Heap), Fr g L' h₁ (fun y => (names.zip vs).reverse.lookup y) → News g L' h₁ nw → Below C.A C.base (C.env :: C.outer) g → (Hz.hd.heap_1 w.params).In g → Top topProg looseN C.mean C.mg C.mb g →
      wpX b C.M (C.A.deeper (envOf qual scope L' f cdv)) (execs body (envOf qual scope L' f cdv)) (fun fl s' => LeaveK g₀ C.L m g (fun r s' => match r with | .ok (.ret v) => Q v s' | .ok _ => False | .error e => E e s') (match fl with | .ret v => v | _ => .none) s') (fun _ _ => False) { s with heap := h₁, toks := s.toks + (names.zip vs).length } := by
    intro g L' h₁ F' N' B' X' T'
    let C' : Pl w scope := { mean := C.mean, mg := C.mg, mb := C.mb, dp := C.dp + 1, un := C.un + 3, gd := C.gd, cn := qual, L := L', a := f, ccd := cdv, cl := [], outer := C.env :: C.outer, A₀ := C.A, base := C.base, h₀ := g, s₀ := s, hk := hk, X := X', T := T', B := B', tn := false, D := nofun }
    have hr' : C'.Room k := ⟨by have := hr.1; show C.dp + 1 + 2 * k < _; omega, by have := hr.2; show C.un + 3 + 16 * k < _; omega⟩
    refine wpX_mono ((h C' hr').run _ ⟨rfl, _, _, nw, C'.ground, F', fun x av e => ?_, N', R, D⟩) (fun fl s' hx => ?_) fun _ _ x => x
    · obtain ⟨v, hv, ha'⟩ := zip_lookup ha e
      exact ⟨v, (rev_lookup (by rw [hmap]; exact hnd) x).trans hv, ha'⟩
    · obtain ⟨σ', led', S', hp⟩ := hx
      obtain ⟨g2, m', nw', V2, F2, G2, N2, R2, D2⟩ := S'.has
      obtain rfl := V2.same rfl
      refine leaveK_ F2 N2 fun F3 N3 => ?_
      refine (fun h : Q (retOf fl) s' => by cases fl <;> exact h) ?_
      exact q _ s' led' hp ⟨by rw [S'.is]; show ({ s with heap := s'.heap, toks := s'.toks } : Shared) = _; rw [S.is], g₀, m, nw', V, F3, G, N3, R2, D2⟩
  cases b
  · exact wpAny_call (code_def0 V.B F V.X N V.T rfl rfl C.hk ho hcd hroom hbind hloc' (fun g L' h₁ _ F' N' B' X' T' => key g L' h₁ F' N' B' X' T') hco hgen hk hcell)
  · exact wpC_call (code_defN V.B F V.X N V.T rfl rfl C.hk ho hcd hroom hbind hloc' (fun g L' h₁ _ F' N' B' X' T' => key g L' h₁ F' N' B' X' T') hco hgen hk hcell)
theorem Ct.enter {x name qual : Str} {params : Arguments} {body : List Stmt} {scope : Scope} {dV kV doc pm cdv ct oc : Value} {an od : Option Addr} {osl : Array (Option Value)} {f : Addr} {avs : List AV} {post : Value → Led → Prop}
    (fn : Fn w x f) (ho : (Hz.hd.heap_1 w.params).lookup f = some ⟨oc, od, .func (fnOf name qual params body scope dV kV doc pm an cdv ct), osl⟩) (hcd : codeIn (Hz.hd.heap_1 w.params) cdv qual = true) (hb : BindN (fnOf name qual params body scope dV kV doc pm an cdv ct) [] [] (params.args.map (·.arg)))
    (hs : (params.args.length == avs.length && (params.args.map (·.arg)).all (fun x => scope.names.lookup x == some .local) && decide (params.args.map (·.arg)).Nodup && !scope.isCoroutine && !scope.isGenerator && scope.kind == .function && scope.names.all (fun x => x.2 != .cell)) = true)
    (h : ∀ C : Pl w scope, C.Room k → let σ := (params.args.map (·.arg)).zip avs; let P : Flow → Sto → Led → Prop := fun fl _ led' => post (retOf fl) led'; WS b C body σ led P) : Ct b (k + 1) w x f led avs post := ⟨fn, ctR_enter ho hcd hb hs h⟩
/-- a call of one's own function in an expression -/
theorem Ev.callf {f : Addr} {x : Str} {p pos : Pos} {e : PySem.Expr} {es : List PySem.Expr} {avs : List AV} {c : AV} (h : Evs C σ led (e :: es) avs) (hp : (e :: es).all plainE = true) (ct : Ct false k' w x f led avs (fun v led' => c v ∧ led' = led)) (hx : cs.names.lookup x = some .globalImplicit) (hr : C.Room k) (hl : Nat.ble k' k = true) :
    Ev C σ led (.Call (.Name x p) (e :: es) [] pos) c := by
  refine ⟨fun s Q E S q => wpX_callK (b := false) C.X ct.fn.keep hp ((Ev.glo hx ct.fn.glo (av := isV (.ref f)) rfl ct.fn.plain).run s _ E S fun u s1 ha S1 => ⟨ha, h.run pos s1 _ E S1 fun vs s2 hb S2 => ?_⟩)⟩
  obtain ⟨g, m, nw, V, F, G, N, R, D⟩ := S2.has
  refine ⟨V.X.keeps F.keep, ct.run C σ vs s2 Q E (hr.le (Nat.le_of_ble_eq_true hl)) hb S2 fun v s' led' hv S' => ?_⟩
  obtain ⟨hv, rfl⟩ := hv
  exact q v s' hv S'
/-- the same, whatever it changes, as the value of a statement -/
theorem call_run {f : Addr} {x : Str} {p pos : Pos} {e : PySem.Expr} {es : List PySem.Expr} {avs : List AV} {post : Value → Led → Prop} (h : Evs C σ led (e :: es) avs) (hp : (e :: es).all plainE = true) (ct : Ct b k' w x f led avs post) (hx : cs.names.lookup x = some .globalImplicit) (hr : C.Room k) (hl : Nat.ble k' k = true)
    (s : Shared) (Q E : Value → Shared → Prop) (S : St C σ led s) (q : ∀ v s' led', post v led' → St C σ led' s' → Q v s') : wpX b C.M C.A (eval (.Call (.Name x p) (e :: es) [] pos) C.env) Q E s := by
  refine wpX_callK C.X ct.fn.keep hp ((Ev.glo hx ct.fn.glo (av := isV (.ref f)) rfl ct.fn.plain).run s _ E S fun u s1 ha S1 => ⟨ha, h.run pos s1 _ E S1 fun vs s2 hb S2 => ?_⟩)
  obtain ⟨g, m, nw, V, F, G, N, R, D⟩ := S2.has
  exact ⟨V.X.keeps F.keep, ct.run C σ vs s2 Q E (hr.le (Nat.le_of_ble_eq_true hl)) hb S2 q⟩
end
end Np
end

section
namespace Np
open PySem PySem.W PySem.Spec PySem.Calls PyProof.Rows
theorem swaps_plain {e : PySem.Expr} {t : Option PySem.Expr} {n : Nat} {env : Env} (h : plainE e = true) : swapsWith e t n env = pure false := by
  cases e <;> first | rfl | cases h
section
variable {b : Bool} {M : Model} {A : Around} {E : Value → Shared → Prop} {s : Shared} {env : Env}
theorem wpX_Assign {x pos' value pos} {Q : Flow → Shared → Prop} (hs : plainE value = true) (h : wpX b M A (eval value env) (fun v s₁ => wpAny M A (storeName env x v) (fun _ => Q .next) E s₁) E s) : wpX b M A (exec (.Assign [.Name x pos'] value pos) env) Q E s := by
  cases b
  · exact wpAny_Assign_Name h (swaps_plain hs)
  · exact wpC_Assign (wpC_mono h (fun _ _ x => x) fun _ _ x => x) (swaps_plain hs)
theorem wpX_AssignTup {elts k tpos value pos} {Q : Flow → Shared → Prop} (hs : plainE value = true) (hw : swappedStores [.Tuple elts k tpos] value env = pure none)
    (h : wpX b M A (eval value env) (fun v s₁ => wpAny M A (assign (.Tuple elts k tpos) env v) (fun _ => Q .next) E s₁) E s) : wpX b M A (exec (.Assign [.Tuple elts k tpos] value pos) env) Q E s := by
  refine wpX_eq (exec_Assign ..) (wpX_standAt ?_)
  rw [show swapsWithSole [.Tuple elts k tpos] value pos.line env = pure false from (swaps_plain hs : swapsWith value (some (.Tuple elts k tpos)) pos.line env = pure false)]
  refine wpX_bind (wpX_of (wpAny_pure ?_))
  rw [if_neg (by decide)]
  refine wpX_bind (wpX_mono h (fun v s₁ h₁ => ?_) fun _ _ x => x)
  rw [hw]
  refine wpX_bind (wpX_of (wpAny_pure ?_))
  show wpX b M A (do assignAll v [assign (.Tuple elts k tpos) env]; pure .next) Q E s₁
  exact wpX_of (wpAny_bind (wpAny_mono h₁ (fun _ _ x => wpAny_pure x) fun _ _ x => x))
theorem wpX_AssignSw {elts k tpos value pos} {names : List Str} {Q : Flow → Shared → Prop} (hs : plainE value = true) (hw : swappedStores [.Tuple elts k tpos] value env = pure (some names))
    (h : wpX b M A (eval value env) (fun v s₁ => wpAny M A (unpackItems v names.length none) (fun items s₂ => wpAny M A (assignInOrder (names.reverse.map fun n => bindName env n) items.reverse) (fun _ => Q .next) E s₂) E s₁) E s) :
    wpX b M A (exec (.Assign [.Tuple elts k tpos] value pos) env) Q E s := by
  refine wpX_eq (exec_Assign ..) (wpX_standAt ?_)
  rw [show swapsWithSole [.Tuple elts k tpos] value pos.line env = pure false from (swaps_plain hs : swapsWith value (some (.Tuple elts k tpos)) pos.line env = pure false)]
  refine wpX_bind (wpX_of (wpAny_pure ?_))
  rw [if_neg (by decide)]
  refine wpX_bind (wpX_mono h (fun v s₁ h₁ => ?_) fun _ _ x => x)
  rw [hw]
  refine wpX_bind (wpX_of (wpAny_pure ?_))
  show wpX b M A (do rule "assign.swapped-stores"; let items ← unpackItems v names.length none; assignInOrder (names.reverse.map fun n => bindName env n) items.reverse; pure .next) Q E s₁
  exact wpX_of (wpAny_bind (wpAny_rule (wpAny_bind (wpAny_mono h₁ (fun items s₂ h₂ => wpAny_bind (wpAny_mono h₂ (fun _ _ x => wpAny_pure x) fun _ _ x => x)) fun _ _ x => x))))
theorem wpX_If {test body orelse pos} {Q : Flow → Shared → Prop}
    (h : wpAny M A (isTrue test env (eval test env)) (fun c s₂ => if c then wpX b M A (execs body env) Q E s₂ else wpX b M A (execs orelse env) Q E s₂) E s) : wpX b M A (exec (.If test body orelse pos) env) Q E s := by
  cases b
  · exact wpAny_If h
  · exact wpC_If h
theorem wpX_Return {e pos} {Q : Flow → Shared → Prop} (h : wpX b M A (eval e env) (fun v => Q (.ret v)) E s) : wpX b M A (exec (.Return (some e) pos) env) Q E s := by
  cases b
  · exact wpAny_Return_some h
  · exact wpC_Return h
theorem wpX_Expr {e pos} {Q : Flow → Shared → Prop} (hs : plainE e = true) (hi : interactive env = false) (h : wpX b M A (eval e env) (fun v s' => match v with | .ref _ => False | _ => Q .next s') E s) : wpX b M A (exec (.Expr e pos) env) Q E s := by
  cases b
  · exact wpAny_Expr h hi (swaps_plain hs)
  · exact wpC_ExprStmt h hi (swaps_plain hs)
end
/-- one object of one's own changed -/
inductive LUpd (D : Addr) (P P' : Obj → Prop) : Led → Led → Prop
  | head {l} : LUpd D P P' ((D, P) :: l) ((D, P') :: l)
  | tail {q l l'} : LUpd D P P' l l' → LUpd D P P' (q :: l) (q :: l')
theorem LUpd.run {D : Addr} {P P' : Obj → Prop} {l l' : Led} (h : LUpd D P P' l l') : ∀ {nw : List (Addr × Obj)}, LedR l nw → (nw.map (·.1)).Nodup → ∃ o, P o ∧ (D, o) ∈ nw ∧ ∀ o', P' o' → ∃ nw', Upd D o o' nw nw' ∧ LedR l' nw' ∧ (nw'.map (·.1)) = nw.map (·.1) := by
  induction h with
  | head =>
    rintro (_ | ⟨⟨a, o⟩, r⟩) R N
    · exact R.elim
    · obtain ⟨⟨rfl, h2⟩, h3⟩ := R
      rw [List.map_cons, List.nodup_cons] at N
      exact ⟨o, h2, .head _, fun o' ho' => ⟨_, .head fun p hp e => N.1 (by rw [show ((D, P).fst, o).fst = p.1 from e.symm]; exact List.mem_map_of_mem hp), ⟨⟨rfl, ho'⟩, h3⟩, rfl⟩⟩
  | @tail q l l' h ih =>
    rintro (_ | ⟨⟨a, o⟩, r⟩) R N
    · exact R.elim
    · rw [List.map_cons, List.nodup_cons] at N
      obtain ⟨o', p1, hm, k⟩ := ih R.2 N.2
      refine ⟨o', p1, .tail _ hm, fun o2 ho2 => ?_⟩
      obtain ⟨nw', U, R', e⟩ := k o2 ho2
      exact ⟨_, .tail (fun e => N.1 (by rw [show a = D from e]; exact List.mem_map_of_mem (f := (·.1)) hm)) U, ⟨R.1, R'⟩, congrArg (a :: ·) e⟩
/-- less known of one's own objects -/
inductive Le : Led → Led → Prop
  | nil : Le [] []
  | keep {a P P' l l'} : (∀ o, P o → P' o) → Le l l' → Le ((a, P) :: l) ((a, P') :: l')
  | drop {q l l'} : Le l l' → Le (q :: l) l'
theorem Le.run {l l' : Led} (h : Le l l') : ∀ {nw : List (Addr × Obj)}, LedR l nw → (nw.map (·.1)).Nodup → ∃ nw', LedR l' nw' ∧ (nw'.map (·.1)).Nodup ∧ ∀ p ∈ nw', p ∈ nw := by
  induction h with
  | nil => exact fun {nw} R N => ⟨nw, R, N, fun _ h => h⟩
  | keep i h ih =>
    rintro (_ | ⟨⟨a, o⟩, r⟩) R N
    · exact R.elim
    · rw [List.map_cons, List.nodup_cons] at N
      obtain ⟨nw', R', N', s⟩ := ih R.2 N.2
      refine ⟨(a, o) :: nw', ⟨⟨R.1.1, i _ R.1.2⟩, R'⟩, ?_, fun p hp => ?_⟩
      · rw [List.map_cons, List.nodup_cons]
        refine ⟨fun hm => N.1 ?_, N'⟩
        obtain ⟨q, hq, e⟩ := List.mem_map.mp hm
        exact List.mem_map.mpr ⟨q, s q hq, e⟩
      · rcases List.mem_cons.mp hp with rfl | hp
        · exact .head _
        · exact .tail _ (s p hp)
  | drop h ih =>
    rintro (_ | ⟨⟨a, o⟩, r⟩) R N
    · exact R.elim
    · rw [List.map_cons, List.nodup_cons] at N
      obtain ⟨nw', R', N', s⟩ := ih R.2 N.2
      exact ⟨nw', R', N', fun p hp => .tail _ (s p hp)⟩
theorem Le.refl : ∀ (l : Led), Le l l
  | [] => .nil
  | (a, P) :: l => .keep (fun _ h => h) (Le.refl l)
/-- less known of the names -/
def Sub (σ σ' : Sto) : Prop := ∀ x av, σ'.lookup x = some av → ∃ av', σ.lookup x = some av' ∧ ∀ v, av' v → av v
theorem Sub.nil {σ : Sto} : Sub σ [] := nofun
theorem Sub.cons {σ σ' : Sto} {x : Str} {a a' : AV} (h : σ.lookup x = some a') (i : ∀ v, a' v → a v) (r : Sub σ σ') : Sub σ ((x, a) :: σ') := fun y av e => by
  rw [List.lookup_cons] at e
  cases hx : y == x with
  | true => rw [hx] at e; cases e; rw [beq_iff_eq] at hx; subst hx; exact ⟨a', h, i⟩
  | false => rw [hx] at e; exact r y av e
theorem Sub.refl (σ : Sto) : Sub σ σ := fun x av e => ⟨av, e, fun _ h => h⟩
theorem toI {i j : Int} (e : i = j) (v : Value) (h : isI i v) : isI j v := e ▸ h
theorem toB {i j : List UInt8} (e : i = j) (v : Value) (h : isB i v) : isB j v := e ▸ h
theorem toBa {i j : List UInt8} (e : i = j) (o : Obj) (h : isBa i o) : isBa j o := e ▸ h
theorem same {α : Type} {p : α → Prop} (v : α) (h : p v) : p v := h
def putAll : List Str → List AV → Sto → Sto
  | x :: xs, a :: as, σ => putAll xs as ((x, a) :: σ)
  | _, _, σ => σ
def namesE : List PySem.Expr → Option (List Str)
  | [] => some []
  | .Name x _ :: r => match namesE r with | some l => some (x :: l) | none => none
  | _ => none
section
variable {w : World} {cs : Scope} {C : Pl w cs} {σ σ' : Sto} {led led' : Led} {b : Bool} {k k' : Nat} {pos px : Pos} {rest : List Stmt} {P : Flow → Sto → Led → Prop} {e : PySem.Expr} {av : AV} {x : Str}
theorem St.weak {s : Shared} (S : St C σ led s) (h : Sub σ σ') (l : Le led led') : St C σ' led' s := by
  obtain ⟨g, m, nw, V, F, G, N, R, D⟩ := S.has
  obtain ⟨nw', R', D', sub⟩ := l.run R D
  refine ⟨S.is, g, m, nw', V, F, fun x av e => ?_, fun p hp => N p (sub p hp), R', D'⟩
  obtain ⟨av', e', i⟩ := h x av e
  obtain ⟨v, hv, ha⟩ := G x av' e'
  exact ⟨v, hv, i v ha⟩
theorem St.store {s : Shared} {v : Value} {Q : Unit → Shared → Prop} {E : Value → Shared → Prop} (S : St C σ led s) (hx : cs.names.lookup x = some .local) (ha : av v) (q : ∀ s', St C ((x, av) :: σ) led s' → Q () s') : wpAny C.M C.A (storeName C.env x v) Q E s := by
  obtain ⟨g, m, nw, V, F, G, N, R, D⟩ := S.has
  refine storeX_L F N (fun h' F' N' => q _ (S.set V F' (fun y a' e => ?_) N' R D)) C.hk hx
  rw [List.lookup_cons] at e
  cases hy : y == x with
  | true => rw [hy] at e; cases e; exact ⟨v, if_pos (beq_iff_eq.mp hy), ha⟩
  | false =>
    rw [hy] at e
    obtain ⟨u, hu, h⟩ := G y a' e
    exact ⟨u, by rw [if_neg (by simpa using hy)]; exact hu, h⟩
theorem store_all {names : List Str} : ∀ {ts : List (Value → Sem Unit)} {avs : List AV} {vs : List Value} {σ : Sto} {s : Shared} {Q : Unit → Shared → Prop} {E : Value → Shared → Prop}, ts.length = names.length → (∀ p ∈ ts.zip names, ∀ v Q s, wpAny C.M C.A (storeName C.env p.2 v) Q E s → wpAny C.M C.A (p.1 v) Q E s) → (∀ n ∈ names, cs.names.lookup n = some .local) → names.length = avs.length → AllOf avs vs → St C σ led s → (∀ s', St C (putAll names avs σ) led s' → Q () s') → wpAny C.M C.A (assignInOrder ts vs) Q E s := by
  induction names with
  | nil =>
    intro ts avs vs σ s Q E hl _ _ hl' ha S q
    cases ts with
    | cons => cases hl
    | nil =>
      cases avs with
      | cons => cases hl'
      | nil => exact assignInOrder_nil (q s S)
  | cons n ns ih =>
    intro ts avs vs σ s Q E hl ht hn hl' ha S q
    cases ts with
    | nil => cases hl
    | cons t ts =>
      cases avs with
      | nil => cases hl'
      | cons a avs =>
        cases vs with
        | nil => exact ha.elim
        | cons v vs =>
          refine assignInOrder_cons (ht (t, n) (.head _) _ _ _ (S.store (hn n (.head _)) ha.1 fun s' S' => ?_))
          exact ih (Nat.succ.inj hl) (fun p hp => ht p (.tail _ hp)) (fun m hm => hn m (.tail _ hm)) (Nat.succ.inj hl') ha.2 S' q
theorem zip_self {α β : Type} {f : α → β} : ∀ {l : List α}, ∀ p ∈ (l.map f).zip l, p.1 = f p.2
  | a :: l, p, h => by
    rcases List.mem_cons.mp h with rfl | h
    · rfl
    · exact zip_self p h
theorem names_each : ∀ {elts : List PySem.Expr} {names : List Str} {env : Env}, namesE elts = some names → (assignEach elts env).length = names.length ∧ (assignEach elts env).findIdx? (·.1) = none ∧ ∀ p ∈ ((assignEach elts env).map (·.2)).zip names, ∃ pos, p.1 = assign (.Name p.2 pos) env
  | [], names, env, h => by cases h; exact ⟨rfl, rfl, nofun⟩
  | e :: r, names, env, h => by
    cases e <;> first | (simp only [namesE] at h; cases h; done) | skip
    rename_i x p
    simp only [namesE] at h
    cases hr : namesE r with
    | none => rw [hr] at h; cases h
    | some ns =>
      rw [hr] at h; cases h
      obtain ⟨h1, h2, h3⟩ := names_each (env := env) hr
      refine ⟨by simp [assignEach, h1], ?_, fun q hq => ?_⟩
      · show List.findIdx? (·.1) ((false, assign (.Name x p) env) :: assignEach r env) = none
        rw [List.findIdx?_cons, h2]; rfl
      · rcases List.mem_cons.mp hq with rfl | hq
        · exact ⟨p, rfl⟩
        · exact h3 q hq
/-- a tuple told apart over names -/
theorem unpack_run {s : Shared} {t : Addr} {vs : List Value} {avs : List AV} {elts : List PySem.Expr} {kk : Nat} {tpos : Pos} {names : List Str} {E : Value → Shared → Prop} {Q : Unit → Shared → Prop} (S : St C σ led s) (ht : IsTup s.heap t vs.toArray) (ha : AllOf avs vs) (hn : namesE elts = some names) (hl : (names.length == avs.length && names.all (fun n => cs.names.lookup n == some .local)) = true)
    (q : ∀ s', St C (putAll names avs σ) led s' → Q () s') : wpAny C.M C.A (assign (.Tuple elts kk tpos) C.env (.ref t)) Q E s := by
  simp only [Bool.and_eq_true, beq_iff_eq, List.all_eq_true] at hl
  obtain ⟨h1, h2, h3⟩ := names_each (env := C.env) hn
  obtain ⟨g, m, nw, V, F, G, N, R, D⟩ := S.has
  refine unpackN_ F N ht rfl (by rw [h1, hl.1, ← ha.length]; simp) h2 fun h' F' N' => ?_
  refine store_all (avs := avs) (by rw [List.length_map]; exact h1) (fun p hp v Q s hw => ?_) hl.2 hl.1 ha (S.set (k := s.toks) V F' G N' R D) q
  obtain ⟨pos, e⟩ := h3 p hp
  rw [e]
  exact assign_Name hw
theorem unpackSw_run {s : Shared} {t : Addr} {vs : List Value} {avs : List AV} {names : List Str} {E : Value → Shared → Prop} {Q : Unit → Shared → Prop} (S : St C σ led s) (ht : IsTup s.heap t vs.toArray) (ha : AllOf avs vs) (hl : (names.length == avs.length && names.all (fun n => cs.names.lookup n == some .local)) = true)
    (q : ∀ s', St C (putAll names.reverse avs.reverse σ) led s' → Q () s') : wpAny C.M C.A (unpackItems (.ref t) names.length none) (fun items s₂ => wpAny C.M C.A (assignInOrder (names.reverse.map fun n => bindName C.env n) items.reverse) Q E s₂) E s := by
  simp only [Bool.and_eq_true, beq_iff_eq, List.all_eq_true] at hl
  obtain ⟨g, m, nw, V, F, G, N, R, D⟩ := S.has
  refine unpackItemsN_ F N ht rfl (by rw [hl.1, ← ha.length]; simp) fun h' F' N' => ?_
  have hr : ∀ {avs : List AV} {vs : List Value}, AllOf avs vs → AllOf avs.reverse vs.reverse := by
    have ap : ∀ {a1 : List AV} {v1 : List Value} {a2 : AV} {v2 : Value}, AllOf a1 v1 → a2 v2 → AllOf (a1 ++ [a2]) (v1 ++ [v2]) := by
      intro a1
      induction a1 with
      | nil => intro v1 a2 v2 h h2; cases v1; exact ⟨h2, trivial⟩; exact h.elim
      | cons p a1 ih => intro v1 a2 v2 h h2; cases v1; exact h.elim; exact ⟨h.1, ih h.2 h2⟩
    intro avs
    induction avs with
    | nil => intro vs h; cases vs; exact trivial; exact h.elim
    | cons p a ih => intro vs h; cases vs; exact h.elim; rw [List.reverse_cons, List.reverse_cons]; exact ap (ih h.2) h.1
  refine store_all (avs := avs.reverse) (by simp) (fun p hp v Q s hw => ?_) (fun n hn => hl.2 n (List.mem_reverse.mp hn)) (by simpa using hl.1) (by simpa using hr ha) (S.set (k := s.toks) V F' G N' R D) q
  rw [zip_self p hp]
  exact wpAny_bindName hw
end
end Np
end

section
namespace Np
open PySem PySem.W PySem.Spec PySem.Calls PyProof.Rows
section
variable {w : World} {cs : Scope} {C : Pl w cs} {σ σ' : Sto} {led led' : Led} {b : Bool} {k k' : Nat} {pos px : Pos} {rest : List Stmt} {P : Flow → Sto → Led → Prop} {e : PySem.Expr} {av : AV} {x : Str}
/-- what is left to show when a statement's own statements end -/
def Thn (b : Bool) (C : Pl w cs) (rest : List Stmt) (P : Flow → Sto → Led → Prop) (fl : Flow) (σ : Sto) (led : Led) : Prop :=
  match fl with
  | .next => WS b C rest σ led P
  | fl => P fl σ led
theorem WS.nil (h : P .next σ led) : WS b C [] σ led P := ⟨fun s S => wpX_of (wpAny_execs_nil ⟨σ, led, S, h⟩)⟩
theorem WS.weak (h : Sub σ σ') (l : Le led led') (r : WS b C rest σ' led' P) : WS b C rest σ led P := ⟨fun s S => r.run s (S.weak h l)⟩
theorem WS.mono {P' : Flow → Sto → Led → Prop} (r : WS b C rest σ led P) (i : ∀ fl σ led, P fl σ led → P' fl σ led) : WS b C rest σ led P' := ⟨fun s S => wpX_mono (r.run s S) (fun fl s' ⟨σ', led', S', h⟩ => ⟨σ', led', S', i _ _ _ h⟩) fun _ _ x => x⟩
theorem WS.assign (hx : cs.names.lookup x = some .local) (hp : plainE e = true) (he : Ev C σ led e av) (h : let σ' := (x, av) :: σ; WS b C rest σ' led P) : WS b C (.Assign [.Name x px] e pos :: rest) σ led P :=
  ⟨fun s S => wpX_cons (wpX_Assign hp (wpX_of (he.run s _ _ S fun v s1 ha S1 => S1.store hx ha fun s2 S2 => h.run s2 S2)))⟩
theorem WS.if {t : PySem.Expr} {body orelse : List Stmt} {p : Prop} (ht : Tst C σ led t p) (h1 : p → let P' := Thn b C rest P; WS b C body σ led P') (h2 : ¬ p → let P' := Thn b C rest P; WS b C orelse σ led P') : WS b C (.If t body orelse pos :: rest) σ led P := by
  have fin : ∀ (ss : List Stmt) (s : Shared), WS b C ss σ led (Thn b C rest P) → St C σ led s → wpX b C.M C.A (execs ss C.env) (fun f s' => match f with | .next => wpX b C.M C.A (execs rest C.env) (fun fl s' => ∃ σ' led', St C σ' led' s' ∧ P fl σ' led') (fun _ _ => False) s' | f => ∃ σ' led', St C σ' led' s' ∧ P f σ' led') (fun _ _ => False) s := fun ss s r S =>
    wpX_mono (r.run s S) (fun fl s' ⟨σ', led', S', h⟩ => by
      cases fl with
      | next => exact WS.run h s' S'
      | brk => exact ⟨σ', led', S', h⟩
      | cont => exact ⟨σ', led', S', h⟩
      | ret v => exact ⟨σ', led', S', h⟩) fun _ _ x => x
  refine ⟨fun s S => wpX_cons (wpX_If (ht.run s _ _ S fun c s1 hc S1 => ?_))⟩
  cases c with
  | true => exact fin _ s1 (h1 (hc.mp rfl)) S1
  | false => exact fin _ s1 (h2 fun e => absurd (hc.mpr e) (by decide)) S1
theorem WS.ifT {t : PySem.Expr} {body orelse : List Stmt} {p : Prop} (ht : Tst C σ led t p) (hp : p) (h1 : let P' := Thn b C rest P; WS b C body σ led P') : WS b C (.If t body orelse pos :: rest) σ led P := .if ht (fun _ => h1) fun hn => absurd hp hn
theorem WS.ifF {t : PySem.Expr} {body orelse : List Stmt} {p : Prop} (ht : Tst C σ led t p) (hp : ¬ p) (h1 : let P' := Thn b C rest P; WS b C orelse σ led P') : WS b C (.If t body orelse pos :: rest) σ led P := .if ht (fun hn => absurd hn hp) fun _ => h1
theorem WS.ifN {t : PySem.Expr} {body : List Stmt} {p : Prop} (ht : Tst C σ led t p) (hp : ¬ p) (h1 : WS b C rest σ led P) : WS b C (.If t body [] pos :: rest) σ led P := .if ht (fun hn => absurd hn hp) fun _ => .nil h1
/-- `e` read there gives a value, whatever it changes -/
structure Rv (b : Bool) (C : Pl w cs) (σ : Sto) (led : Led) (e : PySem.Expr) (P : Value → Led → Prop) : Prop where
  run : ∀ (s : Shared) (Q E : Value → Shared → Prop), St C σ led s → (∀ v s' led', P v led' → St C σ led' s' → Q v s') → wpX b C.M C.A (eval e C.env) Q E s
theorem Rv.ev {P : Value → Led → Prop} (he : Ev C σ led e av) (h : ∀ v, av v → P v led) : Rv b C σ led e P := ⟨fun s Q E S q => wpX_of (he.run s Q E S fun v s1 ha S1 => q v s1 led (h v ha) S1)⟩
theorem Rv.call {f : Addr} {p : Pos} {es : List PySem.Expr} {avs : List AV} {post P : Value → Led → Prop} (h : Evs C σ led (e :: es) avs) (hp : (e :: es).all plainE = true) (ct : Ct b k' w x f led avs post) (hx : cs.names.lookup x = some .globalImplicit) (hr : C.Room k) (hl : Nat.ble k' k = true)
    (i : ∀ v led', post v led' → P v led') : Rv b C σ led (.Call (.Name x p) (e :: es) [] pos) P :=
  ⟨fun s Q E S q => call_run h hp ct hx hr hl s Q E S fun v s' led' hv S' => q v s' led' (i v led' hv) S'⟩
theorem St.push {s : Shared} (S : St C σ led s) {o : Obj} {R : Obj → Prop} (ho : R o) (hf : o.isFreed = false) : St C σ ((s.heap.objs.size, R) :: led) { s with heap := s.heap.push o } := by
  obtain ⟨g, m, nw, V, F, G, N, R', D⟩ := S.has
  refine S.set (k := s.toks) V (F.push o) G (N.push F o hf) (And.intro ⟨rfl, ho⟩ R') ?_
  rw [List.map_cons, List.nodup_cons]
  refine ⟨fun hm => ?_, D⟩
  obtain ⟨q, hq, e⟩ := List.mem_map.mp hm
  have := Heap.lt_size (N q hq).1
  rw [e] at this
  exact Nat.lt_irrefl _ this
theorem Rv.tup {es : List PySem.Expr} {avs : List AV} {kk : Nat} {P : Value → Led → Prop} (he : Evs C σ led es avs) (hz : Nat.ble avs.length 100 = true) (h : ∀ r, P (.ref r) ((r, isTup avs) :: led)) : Rv b C σ led (.Tuple es kk pos) P := by
  refine ⟨fun s Q E S q => wpX_of (Tuple_ (he.run pos s _ E S fun vs s1 ha S1 => ?_))⟩
  refine wpAny_newObj_type (q (.ref _) _ _ (h s1.heap.objs.size) (S1.push (R := isTup avs) ⟨vs, rfl, ha⟩ rfl)) ?_
  show vs.toArray.size ≤ sizeLine
  rw [List.size_toArray, ha.length, sizeLine_eq]
  have := Nat.le_of_ble_eq_true hz
  omega
theorem Rv.ite {t e1 e2 : PySem.Expr} {p : Prop} {P : Value → Led → Prop} (ht : Tst C σ led t p) (h1 : p → Rv b C σ led e1 P) (h2 : ¬ p → Rv b C σ led e2 P) : Rv b C σ led (.IfExp t e1 e2 pos) P := by
  refine ⟨fun s Q E S q => wpX_eq (arm_eval_IfExp ..) (wpX_bind (wpX_of (ht.run s _ E S fun c s1 hc S1 => ?_)))⟩
  cases c with
  | true => exact (h1 (hc.mp rfl)).run s1 Q E S1 q
  | false => exact (h2 fun e => absurd (hc.mpr e) (by decide)).run s1 Q E S1 q
theorem WS.if' {t : PySem.Expr} {body : List Stmt} {p : Prop} (ht : Tst C σ led t p) (h1 : p → let P' := Thn b C rest P; WS b C body σ led P') (h2 : ¬ p → WS b C rest σ led P) : WS b C (.If t body [] pos :: rest) σ led P := .if ht h1 fun hn => .nil (h2 hn)
/-- what both ways of an `if` come to -/
def JoinP (σ1 : Sto) (led1 : Led) (P : Flow → Sto → Led → Prop) (fl : Flow) (σ : Sto) (led : Led) : Prop :=
  match fl with
  | .next => Sub σ σ1 ∧ Le led led1
  | fl => P fl σ led
theorem WS.ifJ {t : PySem.Expr} {body orelse : List Stmt} {p : Prop} (σ1 : Sto) (led1 : Led) (ht : Tst C σ led t p) (h1 : p → let P' := JoinP σ1 led1 P; WS b C body σ led P') (h2 : ¬ p → let P' := JoinP σ1 led1 P; WS b C orelse σ led P') (r : let σ' := σ1; let l' := led1; WS b C rest σ' l' P) : WS b C (.If t body orelse pos :: rest) σ led P := by
  have fin : ∀ {ss : List Stmt}, WS b C ss σ led (JoinP σ1 led1 P) → WS b C ss σ led (Thn b C rest P) := fun h => h.mono fun fl σ led q => by
    cases fl with
    | next => exact r.weak q.1 q.2
    | brk => exact q
    | cont => exact q
    | ret v => exact q
  exact .if ht (fun hp => fin (h1 hp)) fun hn => fin (h2 hn)
theorem WS.ret (h : Rv b C σ led e fun v led' => ∃ l, Le led' l ∧ P (.ret v) σ l) : WS b C (.Return (some e) pos :: rest) σ led P :=
  ⟨fun s S => wpX_cons (wpX_Return (h.run s _ _ S fun v s1 led1 ⟨l, hl, hp⟩ S1 => ⟨σ, l, S1.weak (Sub.refl _) hl, hp⟩))⟩
theorem WS.assignG (hx : cs.names.lookup x = some .local) (hp : plainE e = true) (h : Rv b C σ led e fun v led' => ∃ av : AV, av v ∧ let σ' := (x, av) :: σ; WS b C rest σ' led' P) : WS b C (.Assign [.Name x px] e pos :: rest) σ led P :=
  ⟨fun s S => wpX_cons (wpX_Assign hp (h.run s _ _ S fun v s1 led1 hw S1 => S1.store hx hw.choose_spec.1 fun s2 S2 => hw.choose_spec.2.run s2 S2))⟩
theorem WS.expr (hp : plainE e = true) (h : Rv b C σ led e fun v led' => (match v with | .ref _ => False | _ => True) ∧ WS b C rest σ led' P) : WS b C (.Expr e pos :: rest) σ led P := by
  refine ⟨fun s S => wpX_cons (wpX_Expr hp ?_ (h.run s _ _ S fun v s1 led1 hw S1 => ?_))⟩
  · unfold interactive; rw [show C.env.scope.kind = .function from C.hk]; rfl
  · cases v <;> first | exact hw.1.elim | exact hw.2.run s1 S1
/-- what a tuple told apart has to show -/
def TupP (b : Bool) (C : Pl w cs) (names : List Str) (rest : List Stmt) (σ : Sto) (P : Flow → Sto → Led → Prop) (v : Value) (led' : Led) : Prop :=
  ∃ r avs led'', v = .ref r ∧ (r, isTup avs) ∈ led' ∧ Le led' led'' ∧ (names.length == avs.length) = true ∧ (let σ' := putAll names avs σ; WS b C rest σ' led'' P)
theorem WS.tup {elts : List PySem.Expr} {kk : Nat} {tpos : Pos} {names : List Str} (hn : namesE elts = some names) (hl : names.all (fun n => cs.names.lookup n == some .local) = true) (hp : plainE e = true) (hw : swappedStores [.Tuple elts kk tpos] e C.env = pure none)
    (h : Rv b C σ led e (TupP b C names rest σ P)) : WS b C (.Assign [.Tuple elts kk tpos] e pos :: rest) σ led P := by
  refine ⟨fun s S => wpX_cons (wpX_AssignTup hp hw (h.run s _ _ S fun v s1 led1 hv S1 => ?_))⟩
  obtain ⟨r, avs, led2, rfl, hm, hle, hlen, hr⟩ := hv
  obtain ⟨g, m, nw, V, F, G, N, R, D⟩ := S1.has
  obtain ⟨o, ho, vs, rfl, ha⟩ := ledR_mem R hm
  exact unpack_run (S1.weak (Sub.refl _) hle) (N.isTup ho) ha hn (by rw [hlen, hl]; rfl) fun s2 S2 => hr.run s2 S2
theorem TupP.here {r : Addr} {names : List Str} {avs : List AV} (hl : (names.length == avs.length) = true) (h : let σ' := putAll names avs σ; WS b C rest σ' led P) : TupP b C names rest σ P (.ref r) ((r, isTup avs) :: led) := ⟨r, avs, led, rfl, .head _, .drop (Le.refl _), hl, h⟩
theorem WS.tupLS {elts es : List PySem.Expr} {avs : List AV} {kk k2 : Nat} {tpos vpos : Pos} {names : List Str} (hn : namesE elts = some names) (hw : swappedStores [.Tuple elts kk tpos] (.Tuple es k2 vpos) C.env = pure (some names)) (he : Evs C σ led es avs) (hl : (names.length == avs.length && names.all (fun n => cs.names.lookup n == some .local) && Nat.ble avs.length 100) = true)
    (h : let σ' := putAll names.reverse avs.reverse σ; WS b C rest σ' led P) : WS b C (.Assign [.Tuple elts kk tpos] (.Tuple es k2 vpos) pos :: rest) σ led P := by
  simp only [Bool.and_eq_true] at hl
  refine ⟨fun s S => wpX_cons (wpX_AssignSw rfl hw ((Rv.tup he hl.2 (P := fun v led' => ∃ r, v = .ref r ∧ led' = (r, isTup avs) :: led) fun r => ⟨r, rfl, rfl⟩).run s _ _ S fun v s1 led1 hv S1 => ?_))⟩
  obtain ⟨r, rfl, rfl⟩ := hv
  obtain ⟨g, m, nw, V, F, G, N, R, D⟩ := S1.has
  obtain ⟨o, ho, vs, rfl, ha⟩ := ledR_mem R (.head _)
  exact unpackSw_run (S1.weak (Sub.refl _) (.drop (Le.refl _))) (N.isTup ho) ha (by rw [hl.1.1, hl.1.2]; rfl) fun s2 S2 => h.run s2 S2
/-- what the end of a loop's turn has to show -/
def LoopP {τ : Type} (b : Bool) (C : Pl w cs) (rest : List Stmt) (P : Flow → Sto → Led → Prop) (σs : τ → Sto) (leds : τ → Led) (I : τ → Prop) (fl : Flow) (σ : Sto) (led : Led) : Prop :=
  match fl with
  | .ret v => P (.ret v) σ led
  | .brk => WS b C rest σ led P
  | _ => ∃ c, I c ∧ Sub σ (σs c) ∧ Le led (leds c)
theorem LoopP.end {τ : Type} {σs : τ → Sto} {leds : τ → Led} {I : τ → Prop} (c : τ) (h : I c) (hs : Sub σ (σs c)) (hl : Le led (leds c)) : LoopP b C rest P σs leds I .next σ led := ⟨c, h, hs, hl⟩
theorem WS.while {τ : Type} {t : PySem.Expr} {body : List Stmt} (σs : τ → Sto) (leds : τ → Led) (I : τ → Prop) (μ : τ → Nat) (c₀ : τ) (h0 : I c₀) (hs : Sub σ (σs c₀)) (hl : Le led (leds c₀))
    (turn : ∀ c, I c → let σ' := σs c; let l' := leds c; ∃ p, Tst C σ' l' t p ∧ (p → let P' := LoopP b C rest P σs leds fun c' => I c' ∧ μ c' < μ c; WS b C body σ' l' P') ∧ (¬ p → WS b C rest σ' l' P)) : WS b C (.While t body [] pos :: rest) σ led P := by
  refine ⟨fun s S => wpX_cons ?_⟩
  have R : ∀ (c : τ) (fl : Flow) (s' : Shared), (∃ σ' led', St C σ' led' s' ∧ LoopP b C rest P σs leds (fun c' => I c' ∧ μ c' < μ c) fl σ' led') → match fl with
      | .next | .cont => ∃ m, m < μ c ∧ ∃ c', μ c' = m ∧ I c' ∧ St C (σs c') (leds c') s'
      | .brk => wpX b C.M C.A (execs rest C.env) (fun fl s' => ∃ σ' led', St C σ' led' s' ∧ P fl σ' led') (fun _ _ => False) s'
      | .ret v => ∃ σ' led', St C σ' led' s' ∧ P (.ret v) σ' led' := by
    rintro c fl s' ⟨σ', led', S', h⟩
    cases fl with
    | ret v => exact ⟨σ', led', S', h⟩
    | brk => exact WS.run h s' S'
    | next => obtain ⟨c', ⟨i1, i2⟩, i3, i4⟩ := h; exact ⟨μ c', i2, c', rfl, i1, S'.weak i3 i4⟩
    | cont => obtain ⟨c', ⟨i1, i2⟩, i3, i4⟩ := h; exact ⟨μ c', i2, c', rfl, i1, S'.weak i3 i4⟩
  cases b with
  | false =>
    refine wpAny_While (codeAny_whileLoop (fun n s' => ∃ c, μ c = n ∧ I c ∧ St C (σs c) (leds c) s') ?_ (μ c₀) ⟨c₀, rfl, h0, S.weak hs hl⟩)
    rintro n s' ⟨c, rfl, hI, S'⟩
    obtain ⟨p, ht, hb, he⟩ := turn c hI
    refine ht.run s' _ _ S' fun v s1 hv S1 => ?_
    cases v with
    | false =>
      refine wpAny_execs_nil ?_
      exact (he fun e => absurd (hv.mpr e) (by decide)).run s1 S1
    | true =>
      refine wpAny_mono ((hb (hv.mp rfl)).run s1 S1) (fun fl s2 h2 => ?_) fun _ _ x => x.elim
      have := R c fl s2 h2
      cases fl <;> exact this
  | true =>
    refine wpC_While (codeC_whileLoop (fun n s' => ∃ c, μ c = n ∧ I c ∧ St C (σs c) (leds c) s') ?_ (μ c₀) ⟨c₀, rfl, h0, S.weak hs hl⟩)
    rintro n s' ⟨c, rfl, hI, S'⟩
    obtain ⟨p, ht, hb, he⟩ := turn c hI
    refine ht.run s' _ _ S' fun v s1 hv S1 => ?_
    cases v with
    | false => exact (he fun e => absurd (hv.mpr e) (by decide)).run s1 S1
    | true =>
      refine wpC_mono ((hb (hv.mp rfl)).run s1 S1) (fun fl s2 h2 => ?_) fun _ _ x => x.elim
      have := R c fl s2 h2
      cases fl <;> exact this
def LoopP2 {α β : Type} (b : Bool) (C : Pl w cs) (rest : List Stmt) (P : Flow → Sto → Led → Prop) (σs : α → β → Sto) (leds : α → β → Led) (I : α → β → Prop) (fl : Flow) (σ : Sto) (led : Led) : Prop :=
  match fl with
  | .ret v => P (.ret v) σ led
  | .brk => WS b C rest σ led P
  | _ => ∃ x y, I x y ∧ Sub σ (σs x y) ∧ Le led (leds x y)
theorem LoopP2.end {α β : Type} {σs : α → β → Sto} {leds : α → β → Led} {I : α → β → Prop} (x : α) (y : β) (h : I x y) (hs : Sub σ (σs x y)) (hl : Le led (leds x y)) : LoopP2 b C rest P σs leds I .next σ led := ⟨x, y, h, hs, hl⟩
theorem WS.while2 {α β : Type} {t : PySem.Expr} {body : List Stmt} (σs : α → β → Sto) (leds : α → β → Led) (I : α → β → Prop) (μ : α → β → Nat) (x₀ : α) (y₀ : β) (h0 : I x₀ y₀) (hs : Sub σ (σs x₀ y₀)) (hl : Le led (leds x₀ y₀))
    (turn : ∀ x y, I x y → let σ' := σs x y; let l' := leds x y; ∃ p, Tst C σ' l' t p ∧ (p → let P' := LoopP2 b C rest P σs leds fun x' y' => I x' y' ∧ μ x' y' < μ x y; WS b C body σ' l' P') ∧ (¬ p → WS b C rest σ' l' P)) : WS b C (.While t body [] pos :: rest) σ led P := by
  refine .while (fun c : α × β => σs c.1 c.2) (fun c => leds c.1 c.2) (fun c => I c.1 c.2) (fun c => μ c.1 c.2) (x₀, y₀) h0 hs hl fun c hc => ?_
  obtain ⟨p, ht, hb, he⟩ := turn c.1 c.2 hc
  refine ⟨p, ht, fun hp => (hb hp).mono fun fl σ led h => ?_, he⟩
  cases fl with
  | ret v => exact h
  | brk => exact h
  | next => obtain ⟨x, y, h1, h2, h3⟩ := h; exact ⟨(x, y), h1, h2, h3⟩
  | cont => obtain ⟨x, y, h1, h2, h3⟩ := h; exact ⟨(x, y), h1, h2, h3⟩
end
end Np
end

section
namespace Np
open PySem PySem.W PySem.Spec PySem.Calls PyProof.Rows
example : (fun (_ : OpenLaw) (_ : Params → Frag) => True) PySem.Challenge.rw_np0200_01 Hz.hd.heap_1 := by
  k_fill
  trivial
/-- a dict of ints under ints -/
def isTab (w : World) (c : List (Int × Int)) : Obj → Prop := fun o => ∃ kvs, o.IsDictOf (PySem.intKind PySem.Challenge.rw_np0200_01.row.prog w) kvs ∧ PyProof.V.FlatPairs PyData.int kvs (kdfD c)
theorem wpAny_of_eq' {α : Type} {M : Model} {A : Around} {t t' : Sem α} {Q : α → Shared → Prop} {E : Value → Shared → Prop} {s : Shared} (e : t = t') (h : wpAny M A t' Q E s) : wpAny M A t Q E s := e ▸ h
section
variable {w : World} {cs : Scope} {C : Pl w cs} {σ σ' : Sto} {led led' : Led} {b : Bool} {k k' : Nat} {pos px : Pos} {rest : List Stmt} {P : Flow → Sto → Led → Prop} {e : PySem.Expr} {av : AV} {x : Str} {D : Addr}
theorem plain_few {pos : Pos} {env : Env} (h : plainE e = true) : ((backTo pos (starEach [e] env)).all (fun x => !x.1) && (backToKw pos (keywordEach [] env)).all (fun x => x.1.isSome) && decide ([e].length + ([] : List Keyword).length + (if ([] : List Keyword).isEmpty then 0 else 1) < 30)) = true := by
  rw [starEach_plain h]; rfl
/-- `x.append(e)` of a bytearray -/
theorem WS.append {px apos pos' : Pos} {l : List UInt8} {i : Int} (hx : Ev C σ led (.Name x px) (isV (.ref D))) (he : Ev C σ led e (isI i)) (U : LUpd D (isBa l) (isBa (l ++ [i.toNat.toUInt8])) led led') (h0 : 0 ≤ i) (h1 : i < 256) (hz : l.length < 16777216) (hq : (plainE e && (apos.endLine == pos.line)) = true)
    (h : WS true C rest σ led' P) : WS true C (.Expr (.Call (.Attribute (.Name x px) ("append" : Str) apos) [e] [] pos) pos' :: rest) σ led P := by
  rw [Bool.and_eq_true] at hq
  refine ⟨fun s S => append_stmt (hx.run s _ _ S fun v s1 hv S1 => ?_) ?_ rfl rfl (plain_few hq.1) hq.2 (starEach_plain hq.1 _)⟩
  · obtain rfl := hv
    obtain ⟨g, m, nw, V, F, G, N, R, D'⟩ := S1.has
    obtain ⟨o, rfl, hm, _⟩ := U.run R D'
    refine ba_tail N hm (args_cons (he.run s1 _ _ S1 fun v s2 hv S2 => args_nil ?_) (starEach_plain hq.1 _))
    obtain ⟨t, rfl⟩ := hv
    obtain ⟨g, m, nw, V, F, G, N, R, D'⟩ := S2.has
    obtain ⟨o, rfl, hm, hk⟩ := U.run R D'
    obtain ⟨nw', U', R', e'⟩ := hk _ rfl
    exact append_C F N U' h0 h1 hz fun h' F' N' => h.run _ (S2.set (k := s2.toks) V F' G N' R' (e' ▸ D'))
  · unfold interactive; rw [show C.env.scope.kind = .function from C.hk]; rfl
/-- `x.extend(e)` of a bytearray, of bytes -/
theorem WS.extend {px apos pos' : Pos} {l y : List UInt8} (hx : Ev C σ led (.Name x px) (isV (.ref D))) (he : Ev C σ led e (isB y)) (U : LUpd D (isBa l) (isBa (l ++ y)) led led') (hz : l.length + y.length ≤ 16777216) (hq : (plainE e && (apos.endLine == pos.line)) = true)
    (h : WS true C rest σ led' P) : WS true C (.Expr (.Call (.Attribute (.Name x px) ("extend" : Str) apos) [e] [] pos) pos' :: rest) σ led P := by
  rw [Bool.and_eq_true] at hq
  refine ⟨fun s S => extend_stmt (hx.run s _ _ S fun v s1 hv S1 => ?_) ?_ rfl rfl (plain_few hq.1) hq.2 (starEach_plain hq.1 _)⟩
  · obtain rfl := hv
    obtain ⟨g, m, nw, V, F, G, N, R, D'⟩ := S1.has
    obtain ⟨o, rfl, hm, _⟩ := U.run R D'
    refine ba_tail N hm (args_cons (he.run s1 _ _ S1 fun v s2 hv S2 => args_nil ?_) (starEach_plain hq.1 _))
    obtain ⟨t, rfl⟩ := hv
    obtain ⟨g, m, nw, V, F, G, N, R, D'⟩ := S2.has
    obtain ⟨o, rfl, hm, hk⟩ := U.run R D'
    obtain ⟨nw', U', R', e'⟩ := hk _ rfl
    exact extend_C F N U' hz fun h' F' N' => h.run _ (S2.set (k := s2.toks) V F' G N' R' (e' ▸ D'))
  · unfold interactive; rw [show C.env.scope.kind = .function from C.hk]; rfl
theorem setBa_run {l : List UInt8} {i : Int} {v : Int} {tk tv : Tok} {s : Shared} {Q : Unit → Shared → Prop} {E : Value → Shared → Prop} (S : St C σ led s) (U : LUpd D (isBa l) (isBa (l.set i.toNat v.toNat.toUInt8)) led led') (h0 : 0 ≤ i) (h1 : i < l.length) (hz : l.length ≤ 16777216) (x0 : 0 ≤ v) (x1 : v < 256) (q : ∀ s', St C σ led' s' → Q () s') : wpAny C.M C.A (setItem (.ref D) (.int i tk) (.int v tv)) Q E s := by
  obtain ⟨g, m, nw, V, F, G, N, R, D'⟩ := S.has
  obtain ⟨o, rfl, hm, hk⟩ := U.run R D'
  obtain ⟨nw', U', R', e'⟩ := hk _ rfl
  exact ba_setItem F N U' h0 h1 hz x0 x1 fun h' F' N' => q _ (S.set (k := s.toks) V F' G N' R' (e' ▸ D'))
theorem LUpd.split {P P' : Obj → Prop} {l l' : Led} (h : LUpd D P P' l l') : ∀ {nw : List (Addr × Obj)}, LedR l nw → (nw.map (·.1)).Nodup → ∃ o pre post, P o ∧ nw = pre ++ (D, o) :: post ∧ (∀ p ∈ pre, p.1 ≠ D) ∧ (∀ p ∈ post, p.1 ≠ D) ∧ ∀ o', P' o' → LedR l' (pre ++ (D, o') :: post) := by
  induction h with
  | head =>
    rintro (_ | ⟨⟨a, o⟩, r⟩) R N
    · exact R.elim
    · obtain ⟨⟨rfl, h2⟩, h3⟩ := R
      rw [List.map_cons, List.nodup_cons] at N
      refine ⟨o, [], r, h2, rfl, fun p hp => ?_, fun p hp e => N.1 (by rw [show ((D, P).fst, o).fst = p.1 from e.symm]; exact List.mem_map_of_mem hp), fun o' ho' => And.intro ⟨rfl, ho'⟩ h3⟩
      cases hp
  | @tail q l l' h ih =>
    rintro (_ | ⟨⟨a, o⟩, r⟩) R N
    · exact R.elim
    · rw [List.map_cons, List.nodup_cons] at N
      obtain ⟨o', pre, post, p1, rfl, h1, h2, h3⟩ := ih R.2 N.2
      exact ⟨o', (a, o) :: pre, post, p1, rfl, fun p hp => (List.mem_cons.mp hp).elim (fun e => e ▸ fun e2 => N.1 (by rw [show a = D from e2]; simp)) (h1 p), h2, fun o2 ho2 => And.intro R.1 (h3 o2 ho2)⟩
theorem setTab_run {c : List (Int × Int)} {i : Int} {v : Int} {tk tv : Tok} {s : Shared} {Q : Unit → Shared → Prop} {E : Value → Shared → Prop} (S : St C σ led s) (U : LUpd D (isTab w c) (isTab w (kdfPut c i v)) led led') (hc : c.length ≤ 16777216) (q : ∀ s', St C σ led' s' → Q () s') : wpAny C.M C.A (setItem (.ref D) (.int i tk) (.int v tv)) Q E s := by
  obtain ⟨g, m, nw, V, F, G, N, R, D'⟩ := S.has
  obtain ⟨o, pre, post, ⟨kvs, hd, hf⟩, rfl, h1, h2, hR⟩ := U.split R D'
  have UF : UpdF D o (pre ++ (D, o) :: post) (fun o' => pre ++ (D, o') :: post) := by
    clear N R D' hR
    induction pre with
    | nil => exact .head h2
    | cons p pre ih => exact .tail (h1 p (.head _)) (ih fun q hq => h1 q (.tail _ hq))
  exact kdf_setItem F N UF hd hf hc fun h' o' kvs' F' N' hd' hf' => q _ (S.set V F' G N' (hR o' ⟨kvs', hd', hf'⟩) (by simpa using D'))
/-- `o[i] = e` -/
theorem WS.setItem {o i : PySem.Expr} {po : Pos} {k v : Int} (hs : plainE e = true) (he : Ev C σ led e (isI v)) (ho : Ev C σ led o (isV (.ref D))) (hi : Ev C σ led i (isI k))
    (hr : ∀ (tk tv : Tok) (s : Shared) (Q : Unit → Shared → Prop) (E : Value → Shared → Prop), St C σ led s → (∀ s', St C σ led' s' → Q () s') → wpAny C.M C.A (PySem.setItem (.ref D) (.int k tk) (.int v tv)) Q E s)
    (h : WS b C rest σ led' P) : WS b C (.Assign [.Subscript o i po] e pos :: rest) σ led P := by
  refine ⟨fun s S => wpX_cons (wpX_of (wpAny_Assign_Subscript (he.run s _ _ S fun v' s1 hv S1 => ho.run s1 _ _ S1 fun o' s2 ho' S2 => hi.run s2 _ _ S2 fun i' s3 hi' S3 => ?_) (swaps_plain hs)))⟩
  obtain ⟨tv, rfl⟩ := hv
  obtain rfl := ho'
  obtain ⟨tk, rfl⟩ := hi'
  exact hr tk tv s3 _ _ S3 fun s4 S4 => h.run s4 S4
/-- `x.get(e)` of such a dict -/
theorem Rv.get {c : List (Int × Int)} {px apos : Pos} {k : Int} {P : Value → Led → Prop} (hx : Ev C σ led (.Name x px) (isV (.ref D))) (he : Ev C σ led e (isI k)) (hm : (D, isTab w c) ∈ led) (lo : (D == sysModules) = false) (hp : (plainE e && (apos.endLine == pos.line)) = true)
    (h0 : lookI c k = none → P .none led) (h1 : ∀ j t, lookI c k = some j → P (.int j t) led) : Rv b C σ led (.Call (.Attribute (.Name x px) ("get" : Str) apos) [e] [] pos) P := by
  have tab : ∀ s, St C σ led s → IntTab PySem.Challenge.rw_np0200_01.row.prog w s.heap D (kdfD c) := fun s S => by
    obtain ⟨g, m, nw, V, F, G, N, R, D'⟩ := S.has
    obtain ⟨o, ho, kvs, hd, hf⟩ := ledR_mem R hm
    exact TabAt.ofNews N ho lo hd hf
  rw [Bool.and_eq_true] at hp
  refine ⟨fun s Q E S q => wpX_of (wpAny_of_eq' (arm_eval_Call ..) ?_)⟩
  refine wpAny_bind (hx.run s _ E S fun v s1 hv S1 => wpAny_bind (wpAny_standAt ?_))
  obtain rfl := hv
  have hform : methodCallForm ([e].length + ([] : List Keyword).length) (backTo pos (starEach [e] C.env)) (backToKw pos (keywordEach [] C.env)) = true := plain_few hp.1
  have hpos : methodCallPos true (.Name x px) C.env apos pos = pure pos := by unfold methodCallPos; simp [show apos.endLine = pos.line by simpa using hp.2]
  unfold methodCall
  rw [hform]
  refine wpAny_bind (wpAny_holding (getMethod_intTab_get (tab s1 S1) (wpAny_bind (wpAny_of_eq hpos ?_))))
  refine callWith_method1 (args_cons (he.run s1 _ E S1 fun v s2 hv S2 => args_nil ?_) (starEach_plain hp.1 _)) (starEach_plain hp.1 _)
  obtain ⟨t, rfl⟩ := hv
  exact get1_L (tab s2 S2) (fun e => q _ _ _ (h0 e) S2.toks) fun j t e => q _ _ _ (h1 j t e) S2.toks
end
end Np
end

section
namespace Np
open PySem PySem.W PySem.Spec PySem.Calls PyProof.Rows
example : (fun (_ : OpenLaw) (_ : Params → Frag) => True) PySem.Challenge.rw_np0200_01 Hz.hd.heap_1 := by
  k_fill
  trivial
section
variable {w : World} {cs : Scope} {C : Pl w cs} {σ σ' : Sto} {led led' : Led} {b : Bool} {k k' : Nat} {pos px : Pos} {rest : List Stmt} {P : Flow → Sto → Led → Prop} {e : PySem.Expr} {av : AV} {x : Str} {D : Addr}
theorem Ev.none {k : Nat} : Ev C σ led (.Constant .none k pos) (isV .none) := ⟨fun s Q E S q => wpAny_Constant_none (q _ _ rfl S)⟩
theorem Ev.bytes {k : Nat} {l : List UInt8} : Ev C σ led (.Constant (.bytes l) k pos) (isB l) := ⟨fun s Q E S q => (show wpAny C.M C.A (eval (.Constant (.bytes l) k pos) C.env) Q E s from fun _ _ _ => q (.bytes l.toArray s.toks) _ ⟨_, rfl⟩ S.toks)⟩
/-- an item of a tuple of one's own -/
theorem Ev.tupItemN {x : Str} {p p' : Pos} {r : Addr} {avs : List AV} {j kk : Nat} (h1 : Ev C σ led (.Name x p) (isV (.ref r))) (hm : (r, isTup avs) ∈ led) (hj : avs[j]? = some av) (hz : j ≤ 100) : Ev C σ led (.Subscript (.Name x p) (.Constant (.int (j : Nat)) kk p') pos) av := by
  refine ⟨fun s Q E S q => Subscript_ (h1.run s _ E S fun u s1 ha S1 => wpAny_Constant_int ?_)⟩
  obtain rfl := ha
  obtain ⟨g, m, nw, V, F, G, N, R, D'⟩ := S1.has
  obtain ⟨o, ho, vs, rfl, hv⟩ := ledR_mem R hm
  have : ∀ {avs : List AV} {vs : List Value} {j : Nat}, AllOf avs vs → avs[j]? = some av → ∃ v, vs[j]? = some v ∧ av v := by
    intro avs
    induction avs with
    | nil => intro vs j _ h; simp at h
    | cons a avs ih =>
      intro vs j h e
      cases vs with
      | nil => exact h.elim
      | cons v vs =>
        cases j with
        | zero => simp at e; subst e; exact ⟨v, rfl, h.1⟩
        | succ j => exact ih (j := j) h.2 (by simpa using e)
  obtain ⟨v, hv', hav⟩ := this hv hj
  have hlt : j < vs.length := (List.getElem?_eq_some_iff.mp hv').1
  have hN : IsTup s1.heap r vs.toArray := N.isTup ho
  refine item_tupleL (k := (j : Nat)) (j := j) hN (by omega) (by omega) ?_ hv' (q v _ hav S1.toks) rfl fun _ => rfl
  unfold seqIndex?
  simp; omega
theorem Ev.tupItem {x : Str} {p p' : Pos} {r : Addr} {avs : List AV} {i : Int} {kk : Nat} (h1 : Ev C σ led (.Name x p) (isV (.ref r))) (hm : (r, isTup avs) ∈ led) (hj : avs[i.toNat]? = some av) (hz : decide (0 ≤ i ∧ i ≤ 100) = true) : Ev C σ led (.Subscript (.Name x p) (.Constant (.int i) kk p') pos) av := by
  have hz := of_decide_eq_true hz
  obtain ⟨j, rfl⟩ := Int.eq_ofNat_of_zero_le hz.1
  exact .tupItemN h1 hm hj (by omega)
theorem min_ite (x y : Int) : min x y = if y < x then y else x := by rw [Int.min_def]; split <;> split <;> omega
/-- `0 < b <= c` -/
theorem Tst.ltle {l m r : PySem.Expr} {x y z : Int} (h1 : Ev C σ led l (isI x)) (h2 : Ev C σ led m (isI y)) (h3 : Ev C σ led r (isI z)) (hm : lastMarks [.Lt, .LtE] [m, r] = false) : Tst C σ led (.Compare l [.Lt, .LtE] [m, r] pos) (x < y ∧ y ≤ z) := by
  refine ⟨fun s Q E S k => isTrue_chain (h1.run s _ E S fun u s1 ha S1 => ?_) hm⟩
  obtain ⟨t, rfl⟩ := ha
  refine test_link (h2.run s1 _ E S1 fun v s2 hb S2 => ?_)
  obtain ⟨t2, rfl⟩ := hb
  refine lt_int (wpAny_truthy_bool ?_)
  by_cases h : x < y
  · rw [if_pos (decide_eq_true h)]
    refine test_last (h3.run s2 _ E S2 fun v s3 hc S3 => ?_)
    obtain ⟨t3, rfl⟩ := hc
    exact le_int (wpAny_truthy_bool (k _ s3 (by simp [h]) S3))
  · rw [if_neg (by simpa using h)]
    exact k _ s2 (by simp [h]) S2
theorem Tst.isNone {k : Nat} {p p' : Pos} (h : Ev C σ led e (isV .none)) (hm : behindInMarks .Is (.Constant .none k p') = false) : Tst C σ led (.Compare e [.Is] [.Constant .none k p'] p) True :=
  .cmp h .none (by rintro _ _ s Q E rfl rfl q; exact is_none_none (q _ (by simp))) hm
theorem Tst.isNoneN {k : Nat} {p p' : Pos} (h : Ev C σ led e av) (hn : ∀ v, av v → v ≠ .none) (hm : behindInMarks .Is (.Constant .none k p') = false) : Tst C σ led (.Compare e [.Is] [.Constant .none k p'] p) False :=
  .cmp h .none (by rintro v _ s Q E hv rfl q; exact is_none_ne (hn v hv) (q _ (by simp))) hm
theorem Tst.isntNone {k : Nat} {p p' : Pos} (h : Ev C σ led e (isV .none)) (hm : behindInMarks .IsNot (.Constant .none k p') = false) : Tst C σ led (.Compare e [.IsNot] [.Constant .none k p'] p) False :=
  .cmp h .none (by rintro _ _ s Q E rfl rfl q; exact isnot_none_none (q _ (by simp))) hm
theorem Tst.isntNoneN {k : Nat} {p p' : Pos} (h : Ev C σ led e av) (hn : ∀ v, av v → v ≠ .none) (hm : behindInMarks .IsNot (.Constant .none k p') = false) : Tst C σ led (.Compare e [.IsNot] [.Constant .none k p'] p) True :=
  .cmp h .none (by rintro v _ s Q E hv rfl q; exact isnot_none_ne (hn v hv) (q _ (by simp))) hm
theorem nnI {i : Int} : ∀ v, isI i v → v ≠ .none := by rintro _ ⟨t, rfl⟩; nofun
theorem nnB {l : List UInt8} : ∀ v, isB l v → v ≠ .none := by rintro _ ⟨t, rfl⟩; nofun
theorem nnR {a : Addr} : ∀ v, isV (.ref a) v → v ≠ .none := by rintro _ rfl; nofun
theorem Tst.bool {k : Nat} {c : Bool} {p : Pos} : Tst C σ led (.Constant (.bool c) k p) (c = true) :=
  ⟨fun s Q E S q => wpAny_isTrue_value (wpAny_Constant_bool (wpAny_truthy_bool (q c s Iff.rfl S))) rfl⟩
/-- the other parts of the first statement's tuple -/
structure Evd (C : Pl w cs) (σ : Sto) (led : Led) (es : List PySem.Expr) (P : List AV → Led → Prop) : Prop where
  run : ∀ (pos : Pos) (s : Shared) (Q : List Value → Shared → Prop) (E : Value → Shared → Prop), St C σ led s → (∀ vs s' avs led', AllOf avs vs → P avs led' → St C σ led' s' → Q vs s') → wpAny C.M C.A (spliced (backTo pos (starEach es C.env))) Q E s
theorem Evd.nil {P : List AV → Led → Prop} (h : P [] led) : Evd C σ led [] P := ⟨fun pos s Q E S q => args_nil (q [] s [] led trivial h S)⟩
theorem Evd.ev {es : List PySem.Expr} {P : List AV → Led → Prop} (he : Ev C σ led e av) (hp : plainE e = true) (r : Evd C σ led es fun avs l => P (av :: avs) l) : Evd C σ led (e :: es) P :=
  ⟨fun pos s Q E S q => args_cons (he.run s _ E S fun v s1 ha S1 => r.run pos s1 _ E S1 fun vs s2 avs l2 hb h S2 => q (v :: vs) s2 (av :: avs) l2 ⟨ha, hb⟩ h S2) (starEach_plain hp _)⟩
theorem Evd.dict {es : List PySem.Expr} {P : List AV → Led → Prop} {p : Pos} (r : ∀ D, (D == sysModules) = false → Evd C σ ((D, isTab w []) :: led) es fun avs l => P (isV (.ref D) :: avs) l) : Evd C σ led (.Dict [] [] p :: es) P := by
  refine ⟨fun pos s Q E S q => args_cons ?_ rfl⟩
  obtain ⟨g, m, nw, V, F, G, N, R, D'⟩ := S.has
  refine newDict_K F N V.T.nolimit fun d h' o F' N' hlt lo _ _ hd hf => ?_
  refine (r d lo).run pos _ _ E (S.set (k := s.toks) V F' G N' (And.intro ⟨rfl, [], hd, hf⟩ R) ?_) fun vs s2 avs l2 hb h S2 => q (.ref d :: vs) s2 (isV (.ref d) :: avs) l2 ⟨rfl, hb⟩ h S2
  rw [List.map_cons, List.nodup_cons]
  refine ⟨fun hm => ?_, D'⟩
  obtain ⟨y, hy, e⟩ := List.mem_map.mp hm
  have := hlt y hy
  rw [show y.1 = d from e] at this
  exact Nat.lt_irrefl _ this
theorem blt_ba : nsIn (Hz.hd.heap_1 w.params) mainGlobals "bytearray" = some none := by k_is
theorem ba_boot : bootBuiltins "bytearray" = some (.type "bytearray") := by decide +kernel
/-- `x, .. = (bytearray(), ..)` -/
theorem WS.initG {elts0 elts : List PySem.Expr} {kk tk : Nat} {tpos vpos cpos fp : Pos} {names : List Str} (hx : cs.names.lookup ("bytearray" : Str) = some .globalImplicit) (hn : namesE elts0 = some names) (hz : Nat.ble names.length 100 = true) (hl : names.all (fun n => cs.names.lookup n == some .local) = true) (sw : Bool)
    (hw : swappedStores [.Tuple elts0 tk tpos] (.Tuple (.Call (.Name ("bytearray" : Str) fp) [] [] cpos :: elts) kk vpos) C.env = pure (if sw then some names else none))
    (h : ∀ D, Evd C σ ((D, isBa []) :: led) elts fun avs led' => (names.length == avs.length + 1) = true ∧ let σ' := (if sw then putAll names.reverse (isV (.ref D) :: avs).reverse σ else putAll names (isV (.ref D) :: avs) σ); WS true C rest σ' led' P) :
    WS true C (.Assign [.Tuple elts0 tk tpos] (.Tuple (.Call (.Name ("bytearray" : Str) fp) [] [] cpos :: elts) kk vpos) pos :: rest) σ led P := by
  have key : ∀ (s : Shared) (QT : Value → Shared → Prop) (E : Value → Shared → Prop), St C σ led s → (∀ r D avs (vs : List Value) led' s', AllOf (isV (.ref D) :: avs) vs → ((names.length == avs.length + 1) = true ∧ let σ' := (if sw then putAll names.reverse (isV (.ref D) :: avs).reverse σ else putAll names (isV (.ref D) :: avs) σ); WS true C rest σ' led' P) → IsTup s'.heap r vs.toArray → St C σ led' s' → QT (.ref r) s') →
      wpAny C.M C.A (eval (.Name ("bytearray" : Str) fp) C.env) (BaNew PySem.Challenge.rw_np0200_01.row.prog w C.A cpos vpos elts C.env QT E) E s := fun s QT E S q => by
    refine (Ev.blt hx blt_ba ba_boot (by decide) rfl).run s _ E S fun v s1 hv S1 => ?_
    obtain rfl := hv
    obtain ⟨g, m, nw, V, F, G, N, R, D'⟩ := S1.has
    refine ba_new_goal F N fun D h' F' N' hlt => ?_
    refine (h D).run vpos _ _ E (S1.set (k := s1.toks) V F' G N' (And.intro ⟨rfl, rfl⟩ R) ?_) fun vs s2 avs l2 hb hP S2 => ?_
    · rw [List.map_cons, List.nodup_cons]
      refine ⟨fun hm => ?_, D'⟩
      obtain ⟨y, hy, e⟩ := List.mem_map.mp hm
      have := hlt y hy
      rw [show y.1 = D from e] at this
      exact Nat.lt_irrefl _ this
    · have hlen := hb.length
      refine wpAny_newObj_type (q _ D avs (.ref D :: vs) l2 _ (And.intro rfl hb) hP ⟨_, Heap.get?_push_size s2.heap (o := { cls := .type "tuple", data := .seq (Value.ref D :: vs).toArray }) rfl, rfl, _, rfl⟩ ((S2.push (o := { cls := .type "tuple", data := .seq (Value.ref D :: vs).toArray }) (R := fun _ => True) trivial rfl).weak (Sub.refl _) (.drop (Le.refl _)))) ?_
      have h9 := hP.1
      simp only [beq_iff_eq] at h9
      show (Value.ref D :: vs).toArray.size ≤ sizeLine
      rw [List.size_toArray, List.length_cons, hlen, ← h9, sizeLine_eq]
      have := Nat.le_of_ble_eq_true hz
      omega
  cases sw with
  | false =>
    refine ⟨fun s S => init_stmt (key s _ _ S fun r D avs vs l2 s2 ha hP ht S2 => ?_) rfl hw rfl rfl⟩
    exact unpack_run S2 ht ha hn (by rw [hl]; simpa using hP.1) fun s3 S3 => hP.2.run s3 S3
  | true =>
    refine ⟨fun s S => init_stmt2 (key s _ _ S fun r D avs vs l2 s2 ha hP ht S2 => ?_) rfl hw rfl rfl⟩
    exact unpackSw_run S2 ht ha (by rw [hl]; simpa using hP.1) fun s3 S3 => hP.2.run s3 S3
theorem WS.init {elts0 elts : List PySem.Expr} {kk tk : Nat} {tpos vpos cpos fp : Pos} {names : List Str} (hx : cs.names.lookup ("bytearray" : Str) = some .globalImplicit) (hn : namesE elts0 = some names) (hz : Nat.ble names.length 100 = true) (hl : names.all (fun n => cs.names.lookup n == some .local) = true)
    (hw : swappedStores [.Tuple elts0 tk tpos] (.Tuple (.Call (.Name ("bytearray" : Str) fp) [] [] cpos :: elts) kk vpos) C.env = pure none)
    (h : ∀ D, Evd C σ ((D, isBa []) :: led) elts fun avs led' => (names.length == avs.length + 1) = true ∧ let σ' := putAll names (isV (.ref D) :: avs) σ; WS true C rest σ' led' P) :
    WS true C (.Assign [.Tuple elts0 tk tpos] (.Tuple (.Call (.Name ("bytearray" : Str) fp) [] [] cpos :: elts) kk vpos) pos :: rest) σ led P := .initG hx hn hz hl false hw h
theorem WS.initSw {elts0 elts : List PySem.Expr} {kk tk : Nat} {tpos vpos cpos fp : Pos} {names : List Str} (hx : cs.names.lookup ("bytearray" : Str) = some .globalImplicit) (hn : namesE elts0 = some names) (hz : Nat.ble names.length 100 = true) (hl : names.all (fun n => cs.names.lookup n == some .local) = true)
    (hw : swappedStores [.Tuple elts0 tk tpos] (.Tuple (.Call (.Name ("bytearray" : Str) fp) [] [] cpos :: elts) kk vpos) C.env = pure (some names))
    (h : ∀ D, Evd C σ ((D, isBa []) :: led) elts fun avs led' => (names.length == avs.length + 1) = true ∧ let σ' := putAll names.reverse (isV (.ref D) :: avs).reverse σ; WS true C rest σ' led' P) :
    WS true C (.Assign [.Tuple elts0 tk tpos] (.Tuple (.Call (.Name ("bytearray" : Str) fp) [] [] cpos :: elts) kk vpos) pos :: rest) σ led P := .initG hx hn hz hl true hw h
end
end Np
end

section
namespace Np
open PySem PySem.W PySem.Spec PySem.Calls PyProof.Rows
example : (fun (_ : OpenLaw) (_ : Params → Frag) => True) PySem.Challenge.rw_np0200_01 Hz.hd.heap_1 := by
  k_fill
  trivial
/-- a range's iterator at turn `i` of `n` -/
def isIt (i n : Nat) : Obj → Prop := fun o => o = rIt i n
section
variable {w : World} {cs : Scope} {C : Pl w cs} {σ σ' : Sto} {led led' : Led} {b : Bool} {k k' : Nat} {pos px : Pos} {rest : List Stmt} {P : Flow → Sto → Led → Prop} {e : PySem.Expr} {av : AV} {x : Str} {D : Addr}
theorem blt_range : nsIn (Hz.hd.heap_1 w.params) mainGlobals "range" = some none := by k_is
theorem range_runG {p : Pos} {P : Value → Led → Prop} (hx : cs.names.lookup ("range" : Str) = some .globalImplicit) (he : Rv false C σ led e P) (hp : plainE e = true) (s : Shared) (Q E : Value → Shared → Prop) (S : St C σ led s) (hP : ∀ v l, P v l → ∃ n : Nat, isI n v) (q : ∀ r s' led' v n t u w', isI ((n : Nat) : Int) v → P v led' → IsRange s'.heap r 0 (n : Int) 1 t u w' → St C σ led' s' → Q (.ref r) s') : wpAny C.M C.A (eval (.Call (.Name ("range" : Str) p) [e] [] pos) C.env) Q E s := by
  refine Call_ ((Ev.blt hx blt_range boot_range (by decide) rfl).run s _ E S fun u s1 ha S1 => ?_) (eval_call_name _)
  obtain rfl := ha
  refine callWith_type1 (args_cons (he.run s1 _ E S1 fun v s2 led2 hv S2 => args_nil ?_) (starEach_plain hp _)) (starEach_plain hp _)
  obtain ⟨n, t, rfl⟩ := hP _ _ hv
  obtain ⟨g, m, nw, V, F, G, N, R, D⟩ := S2.has
  exact range1_rows F N fun h' tk t₁ u₁ v₁ hr F' N' _ => q _ _ led2 _ n t₁ u₁ v₁ ⟨_, rfl⟩ hv hr (S2.set V F' G N' R D)
/-- what the end of a turn has to show -/
def ForP {τ : Type} (C : Pl w cs) (rest : List Stmt) (P : Flow → Sto → Led → Prop) (σs : τ → Sto) (leds : τ → Led) (I : τ → Prop) (fl : Flow) (σ : Sto) (led : Led) : Prop :=
  match fl with
  | .ret v => P (.ret v) σ led
  | .brk => WS true C rest σ led P
  | _ => ∃ c, I c ∧ Sub σ (σs c) ∧ Le led (leds c)
theorem ForP.end {τ : Type} {σs : τ → Sto} {leds : τ → Led} {I : τ → Prop} (c : τ) (h : I c) (hs : Sub σ (σs c)) (hl : Le led (leds c)) : ForP C rest P σs leds I .next σ led := ⟨c, h, hs, hl⟩
/-- the end of the range may be found by changing things -/
theorem WS.forG {τ : Type} {body : List Stmt} {p : Pos} {cpos : Pos} (σs : τ → Sto) (leds : τ → Led) (I : Nat → τ → Prop) (hr : cs.names.lookup ("range" : Str) = some .globalImplicit) (hx : cs.names.lookup x = some .local) (hp : plainE e = true)
    (he : Rv false C σ led e fun v l1 => ∃ n : Nat, isI n v ∧ n ≤ 1000 ∧ ∃ c₀, I 0 c₀ ∧ Sub σ (σs c₀) ∧ Le l1 (leds c₀) ∧
      (∀ It i c, i < n → I i c → let σ' := (x, isI i) :: σs c; let l' := (It, isIt (i + 1) n) :: leds c; let P' := ForP C rest P σs (fun c => (It, isIt (i + 1) n) :: leds c) (I (i + 1)); WS true C body σ' l' P') ∧
      (∀ c, I n c → WS true C rest (σs c) (leds c) P)) : WS true C (.For (.Name x px) (.Call (.Name ("range" : Str) p) [e] [] cpos) body [] pos :: rest) σ led P := by
  refine ⟨fun s S => wpX_cons (b := true) (wpC_For (range_runG hr he hp s _ _ S (fun v l h => ⟨h.choose, h.choose_spec.1⟩) fun r s1 led1 v n' t u w' hv hP hR S1 => ?_) fun _ => rfl)⟩
  obtain ⟨n, hv2, hn, c₀, h0, hs, hl, turn, done⟩ := hP
  obtain ⟨t1, rfl⟩ := hv
  obtain ⟨t2, e2⟩ := hv2
  have e4 : n' = n := by injection e2 with e3; exact Int.ofNat.inj e3
  clear e2
  subst n'
  refine wpAny_pyIter_range hR (range_small (by omega) (by omega)) ?_
  rw [range_n, Int.toNat_natCast]
  have S2 : St C (σs c₀) ((s1.heap.objs.size, isIt 0 n) :: leds c₀) { s1 with heap := s1.heap.push (rIt 0 n) } := (S1.weak hs hl).push (R := isIt 0 n) rfl rfl
  refine codeC_forLoop (fun k s' => ∃ i c, k = n - i ∧ i ≤ n ∧ I i c ∧ St C (σs c) ((s1.heap.objs.size, isIt i n) :: leds c) s') ?_ n ⟨0, c₀, rfl, Nat.zero_le _, h0, ?_⟩
  · rintro k s' ⟨i, c, rfl, hi, hI, S'⟩
    obtain ⟨g, m, nw, V, F, G, N, R, D'⟩ := S'.has
    cases nw with
    | nil => exact R.elim
    | cons q nw =>
    obtain ⟨⟨h1, h2⟩, R⟩ := R
    obtain ⟨It, o⟩ := q
    obtain rfl : s1.heap.objs.size = It := h1
    obtain rfl : o = rIt i n := h2
    rw [List.map_cons, List.nodup_cons] at D'
    have hit : IsRangeIter s'.heap s1.heap.objs.size (i : Int) ((n : Int) - i) 1 := (N (s1.heap.objs.size, rIt i n) (.head _)).1
    have hIL := (N (s1.heap.objs.size, rIt i n) (.head _)).2.1
    have hI0 := (N (s1.heap.objs.size, rIt i n) (.head _)).2.2
    have hne : ∀ p ∈ nw, p.1 ≠ s1.heap.objs.size := fun p hp e => D'.1 (by rw [show (s1.heap.objs.size, rIt i n).fst = p.1 from e.symm]; exact List.mem_map_of_mem hp)
    have next : ∀ h' : Heap, (∀ b o, b ≠ s1.heap.objs.size → s'.heap.get? b = some o → h'.get? b = some o) → Fr g C.L h' m ∧ News g C.L h' nw := fun h' hk' =>
      ⟨⟨F.ns.at' fun o e => hk' _ o (Ne.symm hIL) e, fun b o e => hk' b o (fun q => by rw [q, hI0] at e; cases e) (F.keep b o e), F.above⟩, fun p hp => ⟨hk' _ _ (hne p hp) (N p (.tail _ hp)).1, (N p (.tail _ hp)).2⟩⟩
    by_cases hlt : i < n
    · refine wpAny_pyNext_range_item hit (by omega) fun h' hit' hs' => ?_
      obtain ⟨F₂, N₂⟩ := next h' fun b o hb e => hs'.extBut b o hb e
      refine wpAny_pure ?_
      have e : h'.get? s1.heap.objs.size = some (rIt (i + 1 : Nat) n) := by
        have : IsRangeIter h' s1.heap.objs.size ((i + 1 : Nat) : Int) ((n : Int) - (i + 1 : Nat)) 1 := by
          have := hit'
          rw [show (i : Int) + 1 = ((i + 1 : Nat) : Int) by omega, show (n : Int) - i - 1 = (n : Int) - (i + 1 : Nat) by omega] at this
          exact this
        exact this
      have N₃ : News g C.L h' ((s1.heap.objs.size, rIt (i + 1 : Nat) n) :: nw) := fun p hp => (List.mem_cons.mp hp).elim (fun e' => e' ▸ ⟨e, hIL, hI0⟩) (N₂ p)
      have S₃ : St C (σs c) ((s1.heap.objs.size, isIt (i + 1) n) :: leds c) { s' with heap := h', toks := s'.toks + 1 } := S'.set V F₂ G N₃ (And.intro ⟨rfl, rfl⟩ R) (by rw [List.map_cons, List.nodup_cons]; exact D')
      refine wpAny_assign_Name (S₃.store (av := isI i) hx ⟨_, rfl⟩ fun s4 S4 => ?_)
      refine wpC_mono ((turn _ i c hlt hI).run s4 S4) (fun f s₃ h₃ => ?_) fun _ _ x => x
      obtain ⟨σ9, led9, S9, h9⟩ := h₃
      cases f with
      | next => obtain ⟨c', i1, i2, i3⟩ := h9; exact ⟨n - (i + 1), by omega, i + 1, c', rfl, by omega, i1, S9.weak i2 i3⟩
      | cont => obtain ⟨c', i1, i2, i3⟩ := h9; exact ⟨n - (i + 1), by omega, i + 1, c', rfl, by omega, i1, S9.weak i2 i3⟩
      | brk => exact WS.run h9 s₃ S9
      | ret v => exact ⟨σ9, led9, S9, h9⟩
    · have hin : i = n := by omega
      subst hin
      refine wpAny_pyNext_range_end rfl hit (by omega) fun h' he => ?_
      obtain ⟨F₂, N₂⟩ := next h' fun b o hb e => he b o hb e
      exact (done c hI).run _ (S'.set (k := s'.toks) V F₂ G N₂ R D'.2)
  · have e : rIt 0 n = { cls := .type "range_iterator", data := .fields #[rawInt 0, rawInt n, rawInt 1] } := by simp [rIt]
    exact (e ▸ S2 : _)
/-- the same, its end known ahead -/
theorem WS.for {τ : Type} {body : List Stmt} {p : Pos} {n : Nat} {cpos : Pos} (σs : τ → Sto) (leds : τ → Led) (I : Nat → τ → Prop) (c₀ : τ) (hr : cs.names.lookup ("range" : Str) = some .globalImplicit) (hx : cs.names.lookup x = some .local) (hp : plainE e = true) (he : Ev C σ led e (isI n)) (hn : n ≤ 1000)
    (h0 : I 0 c₀) (hs : Sub σ (σs c₀)) (hl : Le led (leds c₀))
    (turn : ∀ It i c, i < n → I i c → let σ' := (x, isI i) :: σs c; let l' := (It, isIt (i + 1) n) :: leds c; let P' := ForP C rest P σs (fun c => (It, isIt (i + 1) n) :: leds c) (I (i + 1)); WS true C body σ' l' P')
    (done : ∀ c, I n c → WS true C rest (σs c) (leds c) P) : WS true C (.For (.Name x px) (.Call (.Name ("range" : Str) p) [e] [] cpos) body [] pos :: rest) σ led P :=
  .forG σs leds I hr hx hp (.ev he fun v hv => ⟨n, hv, hn, c₀, h0, hs, hl, turn, done⟩)
end
end Np
end

section
namespace Np
open PySem PySem.W PySem.Spec PySem.Calls PyProof.Rows
section
variable {w : World} {cs : Scope} {C : Pl w cs} {σ σ' : Sto} {led led' : Led} {b : Bool} {k k' : Nat} {pos px : Pos} {rest : List Stmt} {P : Value → Led → Prop} {e : PySem.Expr} {av : AV} {x : Str} {D : Addr}
theorem Ev.pow {l r : PySem.Expr} {x y p : Int} (h1 : Ev C σ led l (isI x)) (h2 : Ev C σ led r (isI y)) (hp : decide (0 ≤ y ∧ y ≤ 1000 ∧ 0 ≤ x ∧ x < 65536 ∧ x ^ y.toNat = p) = true) : Ev C σ led (.BinOp l .Pow r pos) (isI p) := by
  obtain ⟨a1, a2, a3, a4, rfl⟩ := of_decide_eq_true hp
  exact h1.bin h2 (by rintro _ _ s Q E ⟨t, rfl⟩ ⟨u, rfl⟩ q; exact pow_int_small a1 (by omega) (by omega) (q _ _ ⟨_, rfl⟩))
theorem wpX_callG {M : Model} {A : Around} {E : Value → Shared → Prop} {s : Shared} {env : Env} {K : Frag} {h₀ : Heap} {func : PySem.Expr} {f : Value} {es : List PySem.Expr} {Q : Value → Shared → Prop} (X : K.In h₀) (hk : keepIn K f = true) (hp : (e :: es).all plainE = true)
    (he : eval (.Call func (e :: es) [] pos) env = (do callWith pos (← eval func env) [] (backTo pos (starEach (e :: es) env)) (backToKw pos (keywordEach [] env))))
    (h : wpAny M A (eval func env) (fun u s₀ => u = f ∧ wpAny M A (spliced (backTo pos (starEach (e :: es) env))) (fun vs s₁ => K.In s₁.heap ∧ wpX b M A (call f vs) Q E s₁) E s₀) E s) : wpX b M A (eval (.Call func (e :: es) [] pos) env) Q E s := by
  simp only [List.all_cons, Bool.and_eq_true] at hp
  cases b
  · refine Call_ (wpAny_mono h (fun u s₀ h₀ => ?_) fun _ _ x => x) he
    obtain ⟨rfl, h₀⟩ := h₀
    exact callWith_K X hk h₀ (starEach_plain hp.1 _) (starEach_any hp.2 _ _)
  · refine CallC' (wpAny_mono h (fun u s₀ h₀ => ?_) fun _ _ x => x) he
    obtain ⟨rfl, h₀⟩ := h₀
    exact callWith_KC X hk h₀ (starEach_plain hp.1 _) (starEach_any hp.2 _ _)
def isLst (avs : List AV) : Obj → Prop := fun o => ∃ vs n, o = listOf vs.toArray n ∧ AllOf avs vs
theorem allOf_at : ∀ {avs : List AV} {vs : List Value} {j : Nat} {av : AV}, AllOf avs vs → avs[j]? = some av → ∃ v, vs[j]? = some v ∧ av v
  | [], _, _, _, _, e => by simp at e
  | _ :: _, [], _, _, h, _ => h.elim
  | a :: avs, v :: vs, 0, _, h, e => by simp at e; subst e; exact ⟨v, rfl, h.1⟩
  | a :: avs, v :: vs, j + 1, _, h, e => allOf_at (j := j) h.2 (by simpa using e)
/-- one of one's own functions, out of a list of them, called -/
theorem Rv.callIdx {f : Addr} {es fs : List PySem.Expr} {avs fvs : List AV} {i : PySem.Expr} {j : Int} {p1 p2 : Pos} {post : Value → Led → Prop} (hf : Evs C σ led fs fvs) (hz : Nat.ble fvs.length 100 = true) (hi : ∀ led, Ev C σ led i (isI j)) (hs : ∀ o i', subscripted i false o i' = operate [o, i'] (getItem o i')) (hj : 0 ≤ j) (hj2 : j < 100) (hx : fvs[j.toNat]? = some (isV (.ref f)))
    (h : Evs C σ led (e :: es) avs) (hp : (e :: es).all plainE = true) (ct : Ct b k' w x f led avs post) (hr : C.Room k) (hl : Nat.ble k' k = true) (q : ∀ v led', post v led' → P v led') : Rv b C σ led (.Call (.Subscript (.List fs p1) i p2) (e :: es) [] pos) P := by
  refine ⟨fun s Q E S q' => wpX_callG C.X ct.fn.keep hp rfl (Subscript_ (List_ (hf.run p1 s _ E S fun vs s1 ha S1 => ?_)))⟩
  refine wpAny_newObj_type (T := "list") (((hi _).run _ _ E (S1.push (R := isLst fvs) ⟨vs, 0, rfl, ha⟩ rfl) fun v s2 hv S2 => ?_)) ?_
  · obtain ⟨t, rfl⟩ := hv
    obtain ⟨g, m, nw, V, F, G, N, R, D⟩ := S2.has
    obtain ⟨o, ho, vs', n, rfl, ha'⟩ := ledR_mem R (.head _)
    obtain ⟨v, hv, hav⟩ := allOf_at ha' hx
    refine item_litK (N.isList ho) hj (by omega) hv ⟨hav, ?_⟩ (hs _ _)
    have S3 : St C σ led s2 := S2.weak (Sub.refl _) (.drop (Le.refl _))
    refine h.run pos s2 _ E S3 fun vs s3 hb S4 => ?_
    obtain ⟨g, m, nw, V, F, G, N, R, D⟩ := S4.has
    exact ⟨V.X.keeps F.keep, ct.run C σ vs s3 Q E (hr.le (Nat.le_of_ble_eq_true hl)) hb S4 fun v s' led' hv' S' => q' v s' led' (q v led' hv') S'⟩
  · show vs.toArray.size ≤ sizeLine
    rw [List.size_toArray, ha.length, sizeLine_eq]
    have := Nat.le_of_ble_eq_true hz
    omega
end
end Np
end

section
namespace Np
open PySem PySem.W PySem.Spec PySem.Calls PyProof.Rows
example : (fun (_ : OpenLaw) (_ : Params → Frag) => True) PySem.Challenge.rw_np0200_01 Hz.hd.heap_1 := by
  k_fill
  trivial
section
variable {w : World} {cs : Scope} {C : Pl w cs} {σ σ' : Sto} {led led' : Led} {b : Bool} {k k' : Nat} {pos px : Pos} {rest : List Stmt} {e : PySem.Expr} {av : AV} {x : Str} {D : Addr}
/-- `x[i]` of a list of one's own -/
theorem Ev.lstItem {x : Str} {p : Pos} {i : PySem.Expr} {avs : List AV} {j : Int} (h1 : Ev C σ led (.Name x p) (isV (.ref D))) (hm : (D, isLst avs) ∈ led) (h2 : Ev C σ led i (isI j)) (hs : ∀ o i', subscripted i false o i' = operate [o, i'] (getItem o i')) (h0 : 0 ≤ j) (hz : j < 1000) (hj : avs[j.toNat]? = some av) : Ev C σ led (.Subscript (.Name x p) i pos) av := by
  refine ⟨fun s Q E S q => Subscript_ (h1.run s _ E S fun u s1 ha S1 => h2.run s1 _ E S1 fun v s2 hv S2 => ?_)⟩
  obtain rfl := ha
  obtain ⟨t, rfl⟩ := hv
  obtain ⟨g, m, nw, V, F, G, N, R, D'⟩ := S2.has
  obtain ⟨o, ho, vs, n, rfl, hv⟩ := ledR_mem R hm
  obtain ⟨v, hv', hav⟩ := allOf_at hv hj
  exact item_list (N.isList ho) h0 (by omega) (by simpa using hv') (q v _ hav S2) (hs _ _) fun _ => rfl
theorem Ev.lstLen {p : Pos} {avs : List AV} (hx : cs.names.lookup ("len" : Str) = some .globalImplicit) (h : Ev C σ led e (isV (.ref D))) (hm : (D, isLst avs) ∈ led) (hz : avs.length ≤ 1000) (hp : plainE e = true) : Ev C σ led (.Call (.Name "len" p) [e] [] pos) (isI avs.length) :=
  .call1 (f := "") hx blt_len boot_len (by decide) (by decide) (.cons h .nil hp) (by simp [hp]) (by
    rintro vs s Q E hv S q
    match vs, hv with
    | [_], ⟨rfl, _⟩ =>
      obtain ⟨g, m, nw, V, F, G, N, R, D'⟩ := S.has
      obtain ⟨o, ho, vs, n, rfl, hv⟩ := ledR_mem R hm
      have hl := hv.length
      have e : vs.toArray.size = avs.length := by rw [List.size_toArray, hl]
      exact len_list (N.isList ho) (by omega) (by rw [e]; exact q _ _ ⟨_, rfl⟩ S.toks))
theorem setLst_run {a y : Int} {tk tv : Tok} {s : Shared} {Q : Unit → Shared → Prop} {E : Value → Shared → Prop} (S : St C σ led s) (U : LUpd D (isLst [isI a]) (isLst [isI y]) led led') (q : ∀ s', St C σ led' s' → Q () s') : wpAny C.M C.A (setItem (.ref D) (.int 0 tk) (.int y tv)) Q E s := by
  obtain ⟨g, m, nw, V, F, G, N, R, D'⟩ := S.has
  obtain ⟨o, ⟨vs, n, rfl, hv⟩, hm, hk⟩ := U.run R D'
  match vs, hv with
  | [_], ⟨⟨t, rfl⟩, _⟩ =>
    obtain ⟨nw', U', R', e'⟩ := hk (listOf [Value.int y tv].toArray n) ⟨[.int y tv], n, rfl, ⟨_, rfl⟩, trivial⟩
    exact ksa_set (vs := [Value.int a t]) (ns := [a]) F N U' (.cons _ _ .nil) (by decide) Int.one_pos (by decide) fun h' F' N' _ _ _ => q _ (S.set (k := s.toks) V F' G N' R' (e' ▸ D'))
  | [], h => exact h.elim
  | _ :: _ :: _, h => exact h.2.elim
theorem Ev.repO {l r : PySem.Expr} {y v : Int} (h1 : Ev C σ led l (isB (octs [v]))) (h2 : Ev C σ led r (isI y)) (h0 : 0 ≤ y) (hz : y ≤ 1048576) : Ev C σ led (.BinOp l .Mult r pos) (isB (List.replicate y.toNat v.toNat.toUInt8)) := Ev.rep (z := v.toNat.toUInt8) h1 h2 h0 hz
/-- parts of a tuple that change things -/
theorem Evd.rv {es : List PySem.Expr} {P : List AV → Led → Prop} (he : Rv false C σ led e fun v led' => ∃ av : AV, av v ∧ Evd C σ led' es fun avs l => P (av :: avs) l) (hp : plainE e = true) : Evd C σ led (e :: es) P :=
  ⟨fun pos s Q E S q => args_cons (he.run s _ E S fun v s1 led1 hw S1 => hw.choose_spec.2.run pos s1 _ E S1 fun vs s2 avs l2 hb h S2 => q (v :: vs) s2 (hw.choose :: avs) l2 ⟨hw.choose_spec.1, hb⟩ h S2) (starEach_plain hp _)⟩
theorem Rv.add1 {l r : PySem.Expr} {y : Int} {P : Value → Led → Prop} (h1 : Ev C σ led l (isI y)) (h2 : Rv false C σ led r fun v led' => ∃ z, isI z v ∧ ∀ t, P (.int (y + z) t) led') : Rv false C σ led (.BinOp l .Add r pos) P := by
  refine ⟨fun s Q E S q => wpAny_BinOp (h1.run s _ E S fun u s1 ha S1 => h2.run s1 _ E S1 fun v s2 led2 hv S2 => ?_)⟩
  obtain ⟨t, rfl⟩ := ha
  obtain ⟨z, ⟨t', rfl⟩, hP⟩ := hv
  exact add_int (q _ _ led2 (hP _) S2.toks)
/-- a tuple whose parts change things, told apart -/
theorem WS.tupD {elts es : List PySem.Expr} {kk k2 : Nat} {tpos vpos : Pos} {names : List Str} {P : Flow → Sto → Led → Prop} (hn : namesE elts = some names) (hw : swappedStores [.Tuple elts kk tpos] (.Tuple es k2 vpos) C.env = pure (some names)) (hl : (names.all (fun n => cs.names.lookup n == some .local) && Nat.ble names.length 100) = true)
    (he : Evd C σ led es fun avs led' => (names.length == avs.length) = true ∧ let σ' := putAll names.reverse avs.reverse σ; WS b C rest σ' led' P) : WS b C (.Assign [.Tuple elts kk tpos] (.Tuple es k2 vpos) pos :: rest) σ led P := by
  simp only [Bool.and_eq_true] at hl
  refine ⟨fun s S => wpX_cons (wpX_AssignSw rfl hw (wpX_of (Tuple_ (he.run vpos s _ _ S fun vs s1 avs led1 ha hP S1 => ?_))))⟩
  have hlen := ha.length
  have h9 := hP.1
  simp only [beq_iff_eq] at h9
  refine wpAny_newObj_type ?_ ?_
  · refine unpackSw_run (S := (S1.push (o := { cls := .type "tuple", data := .seq vs.toArray }) (R := fun _ => True) trivial rfl).weak (Sub.refl _) (.drop (Le.refl _))) (t := s1.heap.objs.size) (vs := vs) ⟨_, Heap.get?_push_size s1.heap (o := { cls := .type "tuple", data := .seq vs.toArray }) rfl, rfl, _, rfl⟩ ha (by rw [hP.1, hl.1]; rfl) fun s2 S2 => hP.2.run s2 S2
  · show vs.toArray.size ≤ sizeLine
    rw [List.size_toArray, hlen, ← h9, sizeLine_eq]
    have := Nat.le_of_ble_eq_true hl.2
    omega
end
end Np
namespace Np
open PySem PySem.W PySem.Spec PySem.Calls PyProof.Rows
theorem LUpd.mem {D : Addr} {P P' : Obj → Prop} {l l' : Led} (h : LUpd D P P' l l') : (D, P) ∈ l := by
  induction h with
  | head => exact .head _
  | tail _ ih => exact .tail _ ih
theorem LUpd.mem' {D : Addr} {P P' : Obj → Prop} {l l' : Led} (h : LUpd D P P' l l') : (D, P') ∈ l' := by
  induction h with
  | head => exact .head _
  | tail _ ih => exact .tail _ ih
end Np
end

section
namespace Np
open PySem PySem.W PySem.Spec PySem.Calls PyProof.Rows
example : (fun (_ : OpenLaw) (_ : Params → Frag) => True) PySem.Challenge.rw_np0200_01 Hz.hd.heap_1 := by
  k_fill
  trivial
/-- what the text's own two exceptions are -/
def XC (w : World) (Cl : Addr) : Prop := ∃ nm q N bs bm hdct sn sub ab col dd k0 k1 k2 k3 k5, (Hz.hd.heap_1 w.params).lookup Cl = some (excClassObj nm q Cl N bs bm hdct sn sub ab col dd k0 k1 k2 k3 k5 "Exception.__new__") ∧
  (Value.ref Cl :: bm).contains (.type "Exception") = true ∧ (Value.ref Cl :: bm).contains (.type "AttributeError") = false ∧ (Value.ref Cl :: bm).contains (.type "NameError") = false ∧ bm.contains (.type "BaseException") = true ∧
  findIn (Hz.hd.heap_1 w.params) (.ref Cl) "__init__" = some (some (.ref 28)) ∧ findIn (Hz.hd.heap_1 w.params) (.ref Cl) "__setattr__" = some (some (.builtin "object.__setattr__")) ∧
  (∃ cd : ClassData, clsIn (Hz.hd.heap_1 w.params) Cl = some cd ∧ cd.hasDict = true ∧ cd.mro.contains (.type "object") = true ∧ cd.mro.isEmpty = false ∧ ∀ e, refuseLoop (.ref e) "__setattr__" cd.mro = pure ()) ∧ findIn (Hz.hd.heap_1 w.params) (.ref Cl) "why" = some none
theorem XC.mk {w : World} {Cl N : Addr} {nm q : Str} {bs bm : List Value} {hdct : Bool} {sn : List Str} {sub : List Value} {ab : Bool} {col : Option Bool} {dd : Option Addr} {k0 k1 k2 k3 k5 : Option Value} {cd : ClassData} (h1 : (Hz.hd.heap_1 w.params).lookup Cl = some (excClassObj nm q Cl N bs bm hdct sn sub ab col dd k0 k1 k2 k3 k5 "Exception.__new__"))
  (h2 : (Value.ref Cl :: bm).contains (.type "Exception") = true) (h3 : (Value.ref Cl :: bm).contains (.type "AttributeError") = false) (h4 : (Value.ref Cl :: bm).contains (.type "NameError") = false) (h5 : bm.contains (.type "BaseException") = true)
  (h6 : findIn (Hz.hd.heap_1 w.params) (.ref Cl) "__init__" = some (some (.ref 28))) (h7 : findIn (Hz.hd.heap_1 w.params) (.ref Cl) "__setattr__" = some (some (.builtin "object.__setattr__")))
  (h8 : clsIn (Hz.hd.heap_1 w.params) Cl = some cd) (h9 : cd.hasDict = true) (h10 : cd.mro.contains (.type "object") = true) (h11 : cd.mro.isEmpty = false) (h12 : ∀ e, refuseLoop (.ref e) "__setattr__" cd.mro = pure ()) (h13 : findIn (Hz.hd.heap_1 w.params) (.ref Cl) "why" = some none) : XC w Cl :=
  ⟨_, _, _, _, _, _, _, _, _, _, _, _, _, _, _, _, h1, h2, h3, h4, h5, h6, h7, ⟨_, h8, h9, h10, h11, h12⟩, h13⟩
local macro_rules | `(tactic| walk_at "xc") => `(tactic| (refine' XC.mk ?h1 ?h2 ?h3 ?h4 ?h5 ?h6 ?h7 ?h8 ?h9 ?h10 ?h11 ?h12 ?h13; (case h1 => k_is); (case h2 => rfl); (case h3 => rfl); (case h4 => rfl); (case h5 => rfl); (case h6 => k_is); (case h7 => k_is); (case h8 => k_is); (case h9 => rfl); (case h10 => rfl); (case h11 => rfl); (case h12 => (intro e; rw [refuseLoop_ref, refuseLoop_ref]; exact exc_passes _)); (case h13 => k_is)))
theorem xc44 {w : World} : XC w 44 := by walk_at "xc"
theorem xc56 {w : World} : XC w 56 := by walk_at "xc"
theorem init_fn {w : World} : typeIn (Hz.hd.heap_1 w.params) (.ref 28) = some (.type "function") := by k_is
def isExn (Cl : Addr) : Obj → Prop := fun o => ∃ t, o = excObj Cl t
def isExnD (Cl d : Addr) : Obj → Prop := fun o => ∃ t, o = { excObj Cl t with dict := some d }
def isWhy (w : World) (msg : Str) : Obj → Prop := fun o => ∃ tk tk' n, o = whyDict w msg tk tk' n
def isS (x : Str) : AV := fun v => ∃ t, v = .str x t
theorem blt_exc {w : World} : nsIn (Hz.hd.heap_1 w.params) mainGlobals "Exception" = some none := by k_is
theorem boot_exc : bootBuiltins "Exception" = some (.type "Exception") := by decide +kernel
theorem meth_exc {w : World} : findCls (Hz.hd.heap_1 w.params) (.type "Exception") (.type "type") "__init__" = some (.val (.builtin "Exception.__init__")) := by k_is
section
variable {w : World} {cs : Scope} {C : Pl w cs} {σ σ' : Sto} {led led' : Led} {b : Bool} {k k' : Nat} {pos px : Pos} {rest : List Stmt} {e : PySem.Expr} {av : AV} {x : Str} {D ex Cl : Addr} {msg : Str}
theorem plain_few2 {e2 : PySem.Expr} {pos : Pos} {env : Env} (h : (plainE e && plainE e2) = true) : ((backTo pos (starEach [e, e2] env)).all (fun x => !x.1) && (backToKw pos (keywordEach [] env)).all (fun x => x.1.isSome) && decide ([e, e2].length + ([] : List Keyword).length + (if ([] : List Keyword).isEmpty then 0 else 1) < 30)) = true := by
  rw [Bool.and_eq_true] at h
  rw [starEach_plain h.1, starEach_plain h.2]; rfl
theorem led_ne {a : Addr × Obj} {l : List (Addr × Obj)} (D : ((a :: l).map (·.1)).Nodup) : ∀ p ∈ l, p.1 ≠ a.1 := fun p hp e => by
  rw [List.map_cons, List.nodup_cons] at D
  exact D.1 (e ▸ List.mem_map_of_mem hp)
theorem nodup_new {a : Addr × Obj} {l : List (Addr × Obj)} (h : ∀ p ∈ l, p.1 < a.1) (D : (l.map (·.1)).Nodup) : ((a :: l).map (·.1)).Nodup := by
  rw [List.map_cons, List.nodup_cons]
  refine ⟨fun hm => ?_, D⟩
  obtain ⟨y, hy, e⟩ := List.mem_map.mp hm
  have := h y hy
  rw [e] at this
  exact Nat.lt_irrefl _ this
theorem nodup_swap {a b : Addr × Obj} {l : List (Addr × Obj)} (D : ((a :: b :: l).map (·.1)).Nodup) : ((b :: a :: l).map (·.1)).Nodup := by
  simp only [List.map_cons, List.nodup_cons, List.mem_cons, not_or] at D ⊢
  exact ⟨⟨Ne.symm D.1.1, D.2.1⟩, D.1.2, D.2.2⟩
theorem Rv.baseInit {apos : Pos} {e2 : PySem.Expr} {P : Value → Led → Prop} (X : XC w Cl) (hx : cs.names.lookup ("Exception" : Str) = some .globalImplicit) (ha : Evs C σ ((ex, isExn Cl) :: led) [e, e2] [isV (.ref ex), isS msg]) (hp : (plainE e && plainE e2 && (apos.endLine == pos.line)) = true)
    (q : ∀ t, P .none ((ex, isExn Cl) :: (t, fun _ => True) :: led)) : Rv false C σ ((ex, isExn Cl) :: led) (.Call (.Attribute (.Name ("Exception" : Str) px) ("__init__" : Str) apos) [e, e2] [] pos) P := by
  rw [Bool.and_eq_true] at hp
  have hp1 := hp.1
  rw [Bool.and_eq_true] at hp1
  refine ⟨fun s Q E S q' => wpAny_of_eq' (arm_eval_Call ..) ?_⟩
  refine wpAny_bind ((Ev.blt hx blt_exc boot_exc (by decide) rfl).run s _ E S fun v s1 hv S1 => wpAny_bind (wpAny_standAt ?_))
  obtain rfl := hv
  have hform : methodCallForm ([e, e2].length + ([] : List Keyword).length) (backTo pos (starEach [e, e2] C.env)) (backToKw pos (keywordEach [] C.env)) = true := plain_few2 hp.1
  have hpos : methodCallPos true (.Name ("Exception" : Str) px) C.env apos pos = pure pos := by unfold methodCallPos; simp [show apos.endLine = pos.line by simpa using hp.2]
  unfold methodCall
  rw [hform]
  obtain ⟨g, m, nw, V, F, G, N, R, D⟩ := S1.has
  refine wpAny_bind (wpAny_holding (method_type F V.X (by first | rfl | kernel_rfl) (by decide +kernel) meth_exc rfl (wpAny_bind (wpAny_of_eq hpos ?_))))
  refine callWith_method1 (ha.run pos _ _ E (S1.toks (k := s1.toks + 1)) fun vs s2 hv S2 => ?_) (starEach_plain hp1.1 _) (by rw [starEach_plain hp1.2]; rfl)
  match vs, hv with
  | [_, _], ⟨rfl, ⟨t, rfl⟩, _⟩ =>
    clear F G N R D V
    obtain ⟨g, m, nw, V, F, G, N, R, D⟩ := S2.has
    match nw, R with
    | (_, _) :: nw, ⟨⟨rfl, ⟨t0, rfl⟩⟩, R⟩ =>
      obtain ⟨nm, q0, N0, bs, bm, hdct, sn, sub, ab, col, dd, k0, k1, k2, k3, k5, hK, hB, _⟩ := X
      refine exn_base_init PySem.F.excBase_Exception F N (led_ne D) ((V.X.keeps F.keep) _ _ hK) hB fun h' t' F' N' l1 l2 => ?_
      refine q' _ _ _ (q t') (S2.set (k := s2.toks) V F' G N' (And.intro ⟨rfl, _, rfl⟩ (And.intro ⟨rfl, trivial⟩ R)) (nodup_swap (nodup_new (fun p hp => ?_) D)))
      rcases List.mem_cons.mp hp with rfl | hp
      · exact l2
      · exact l1 p hp
theorem WS.setWhy {o v : PySem.Expr} {po : Pos} {P : Flow → Sto → Led → Prop} (X : XC w Cl) (hs : plainE v = true) (hv : Ev C σ ((ex, isExn Cl) :: led) v (isS msg)) (ho : Ev C σ ((ex, isExn Cl) :: led) o (isV (.ref ex)))
    (h : ∀ d, WS b C rest σ ((ex, isExnD Cl d) :: (d, isWhy w msg) :: led) P) : WS b C (.Assign [.Attribute o ("why" : Str) po] v pos :: rest) σ ((ex, isExn Cl) :: led) P := by
  refine ⟨fun s S => wpX_cons (wpX_of (plainObj_wpAny_Assign_Attribute (hv.run s _ _ S fun v' s1 hv S1 => ho.run s1 _ _ S1 fun o' s2 ho' S2 => ?_) (swaps_plain hs)))⟩
  obtain ⟨tv, rfl⟩ := hv
  obtain rfl := ho'
  obtain ⟨g, m, nw, V, F, G, N, R, D⟩ := S2.has
  match nw, R with
  | (_, _) :: nw, ⟨⟨rfl, ⟨t0, rfl⟩⟩, R⟩ =>
    obtain ⟨nm, q0, N0, bs, bm, hdct, sn, sub, ab, col, dd, k0, k1, k2, k3, k5, hK, hB, _, _, _, _, hst, ⟨cd, hc, hd, hob, hem, hp⟩, ht⟩ := X
    refine exn_set F V.X N (led_ne D) hst hc hd hob hem (hp _) ht fun h' d n tk' F' N' l1 l2 => ?_
    refine (h d).run _ (S2.set V F' G N' (And.intro ⟨rfl, _, rfl⟩ (And.intro ⟨rfl, _, _, _, rfl⟩ R)) (nodup_swap (nodup_new (fun p hp => ?_) D)))
    rcases List.mem_cons.mp hp with rfl | hp
    · exact l2
    · exact l1 p hp
end
end Np
end

section
namespace Np
open PySem PySem.W PySem.Spec PySem.Calls PyProof.Rows
example : (fun (_ : OpenLaw) (_ : Params → Frag) => True) PySem.Challenge.rw_np0200_01 Hz.hd.heap_1 := by
  k_fill
  trivial
theorem exn_init_ct {w : World} {Cl e : Addr} {msg : Str} (X : XC w Cl) (led : Led) : CtR false 1 w 28 ((e, isExn Cl) :: led) [isV (.ref e), isS msg] (fun v l => v = .none ∧ ∃ d t, l = (e, isExnD Cl d) :: (d, isWhy w msg) :: (t, fun _ => True) :: led) := by
  refine ctR_enter (by k_is) (by k_is) (by ((repeat intro _); rfl)) (by rfl) ?_
  intro C' r' σ' P'
  (with_reducible apply WS.expr); rfl
  (with_reducible apply Rv.baseInit) <;> first | exact X | rfl | skip
  · exact .cons (.loc rfl rfl rfl) (.cons (.loc rfl rfl rfl) .nil rfl) rfl
  intro t
  refine ⟨trivial, ?_⟩
  refine WS.setWhy X rfl (.loc rfl rfl rfl) (.loc rfl rfl rfl) fun d => ?_
  exact WS.nil ⟨rfl, d, t, rfl⟩
section
variable {w : World} {cs : Scope} {C : Pl w cs} {σ σ' : Sto} {led led' : Led} {b : Bool} {k k' : Nat} {pos px : Pos} {rest : List Stmt} {e : PySem.Expr} {av : AV} {x : Str} {D ex Cl : Addr} {msg : Str}
/-- the same place, some calls deeper -/
abbrev Pl.plus (C : Pl w cs) (i j : Nat) : Pl w cs := { C with dp := C.dp + i, un := C.un + j }
theorem Ground.plus {g : Heap} {i j : Nat} (V : Ground C g) : Ground (C.plus i j) g := ⟨V.B, V.X, V.T, V.same, V.turn⟩
theorem Ground.minus {g : Heap} {i j : Nat} (V : Ground (C.plus i j) g) : Ground C g := ⟨V.B, V.X, V.T, V.same, V.turn⟩
theorem St.plus {s : Shared} {i j : Nat} (S : St C σ led s) : St (C.plus i j) σ led s := ⟨S.is, let ⟨g, m, nw, V, r⟩ := S.has; ⟨g, m, nw, V.plus, r⟩⟩
theorem St.minus {s : Shared} {i j : Nat} (S : St (C.plus i j) σ led s) : St C σ led s := ⟨S.is, let ⟨g, m, nw, V, r⟩ := S.has; ⟨g, m, nw, V.minus, r⟩⟩
/-- one of the two made -/
theorem exn_call {s : Shared} {tk : Tok} {Q E : Value → Shared → Prop} (X : XC w Cl) (hr : C.Room 2) (S : St C σ led s) (q : ∀ e d s', St C σ ((e, isExnD Cl d) :: (d, isWhy w msg) :: led) s' → Q (.ref e) s') : wpAny C.M C.A (call (.ref Cl) [.str msg tk]) Q E s := by
  refine wpAny_call ?_
  have X0 := X
  obtain ⟨nm, q0, N0, bs, bm, hdct, sn, sub, ab, col, dd, k0, k1, k2, k3, k5, hK, hB, hA, hN, _, hi, _⟩ := X
  have S2 := (S.push (o := { cls := .type "tuple", data := .seq [Value.str msg tk].toArray }) (R := fun _ => True) trivial rfl)
  have S3 := (S2.push (o := excObj Cl s.heap.objs.size) (R := isExn Cl) ⟨_, rfl⟩ rfl)
  obtain ⟨g, m, nw, V, F, G, N, R, D⟩ := S.has
  have X' := V.X.keeps F.keep
  obtain ⟨hh, g', d', tks, os⟩ := s
  refine make_exn PySem.F.excBase_Exception X' (X' _ _ hK) hB hA hN hi init_fn (by rw [sizeLine_eq]; simp) ?_
  show wpAny C.M (C.plus 1 1).A _ _ _ _
  refine exn_init_ct X0 _ (C.plus 1 1) σ [.ref (hh.objs.size + 1), .str msg tk] _ _ _ ⟨by have := hr.1; show C.dp + 1 + 2 * 1 < _; omega, by have := hr.2; show C.un + 1 + 16 * 1 < _; omega⟩ (And.intro rfl (And.intro ⟨_, rfl⟩ trivial)) (St.plus (by simpa using S3)) ?_
  rintro v s' led' ⟨rfl, d, t, rfl⟩ S4
  exact ⟨rfl, q _ d s' (S4.minus.weak (Sub.refl _) (.keep (fun _ h => h) (.keep (fun _ h => h) (.drop (.drop (Le.refl _))))))⟩
end
end Np
end

section
namespace Np
open PySem PySem.W PySem.Spec PySem.Calls PyProof.Rows
example : (fun (_ : OpenLaw) (_ : Params → Frag) => True) PySem.Challenge.rw_np0200_01 Hz.hd.heap_1 := by
  k_fill
  trivial
section
variable {w : World} {cs : Scope}
/-- one's own objects lie there still -/
def Keeps (led : Led) (e dd : Addr) (nw : List (Addr × Obj)) : Prop := ∃ nwl, LedR led nwl ∧ (e :: dd :: nwl.map (·.1)).Nodup ∧ ∀ p ∈ nwl, p ∈ nw
theorem Keeps.le {led led' : Led} {e dd : Addr} {nw : List (Addr × Obj)} (h : Keeps led e dd nw) (l : Le led led') : Keeps led' e dd nw := by
  obtain ⟨nwl, R, D, hs⟩ := h
  simp only [List.nodup_cons, List.mem_cons, not_or] at D
  obtain ⟨nw', R', D', hs'⟩ := l.run R D.2.2
  have sub : ∀ a, a ∈ nw'.map (·.1) → a ∈ nwl.map (·.1) := fun a ha => by
    obtain ⟨p, hp, rfl⟩ := List.mem_map.mp ha
    exact List.mem_map_of_mem (hs' p hp)
  refine ⟨nw', R', ?_, fun p hp => hs p (hs' p hp)⟩
  simp only [List.nodup_cons, List.mem_cons, not_or]
  exact ⟨⟨D.1.1, fun q => D.1.2 (sub _ q)⟩, fun q => D.2.1 (sub _ q), D'⟩
/-- an exception of the text's own, its def left -/
def RO (C : Pl w cs) (led : Led) (Cl : Addr) (msg : Str) (e : Addr) (s : Shared) : Prop := s = { C.s₀ with heap := s.heap, toks := s.toks } ∧ ∃ dd tk tk' n nw, RaisedD C.base C.h₀ C.outer e (.ref Cl) dd (whyDict w msg tk tk' n) .none nw s.heap ∧ C.h₀.UpToSlots s.heap ∧ Keeps led e dd nw
/-- the same, at the caller -/
def XR (C : Pl w cs) (led : Led) (Cl : Addr) (msg : Str) (e : Addr) (s : Shared) : Prop := s = { C.s₀ with heap := s.heap, toks := s.toks } ∧ ∃ g₀ g m dd tk tk' n nw, Ground C g₀ ∧ Fr g₀ C.L g m ∧ RaisedD C.base g (C.env :: C.outer) e (.ref Cl) dd (whyDict w msg tk tk' n) .none nw s.heap ∧ g.UpToSlots s.heap ∧ Keeps led e dd nw
def EX (lp : Bool) (C : Pl w cs) (E : Value → Shared → Prop) (e : Value) (s : Shared) : Prop := match lp with
  | false => wpAny C.M C.A (leaving C.env e) (fun _ s'' => E e s'') (fun e' s'' => E e' s'') s
  | true => wpAny C.M C.A (noteFrame e C.env) (fun _ s₄ => wpAny C.M C.A (theTreesLotGoes e) (fun _ s₅ => wpAny C.M C.A (ownPass e C.env) (fun _ s₆ => wpAny C.M C.A (leaving C.env e) (fun _ s'' => E e s'') (fun e' s'' => E e' s'') s₆) (fun _ _ => False) s₅) (fun _ _ => False) s₄) (fun _ _ => False) s
/-- the statements raise -/
structure WX (lp : Bool) (C : Pl w cs) (ss : List Stmt) (σ : Sto) (led led0 : Led) (Cl : Addr) (msg : Str) : Prop where
  run : ∀ (s : Shared) (E : Value → Shared → Prop), C.tn = false → St C σ led s → (∀ e s', RO C led0 Cl msg e s' → E (.ref e) s') → wpC C.M C.A (execs ss C.env) (fun _ _ => False) (EX lp C E) s
end
abbrev CtXR (k : Nat) (w : World) (f : Addr) (led : Led) (avs : List AV) (Cl : Addr) (msg : Str) : Prop := ∀ {cs : Scope} (C : Pl w cs) (σ : Sto) (vs : List Value) (s : Shared) (Q E : Value → Shared → Prop), C.Room k → AllOf avs vs → St C σ led s → (∀ e s', XR C led Cl msg e s' → E (.ref e) s') → wpC C.M C.A (call (.ref f) vs) Q E s
structure CtX (k : Nat) (w : World) (x : Str) (f : Addr) (led : Led) (avs : List AV) (Cl : Addr) (msg : Str) : Prop where
  fn : Fn w x f
  run : CtXR k w f led avs Cl msg
section
variable {w : World} {cs : Scope} {C : Pl w cs} {σ σ1 : Sto} {led led0 led1 : Led} {lp : Bool} {k k' : Nat} {pos px : Pos} {rest : List Stmt} {e : PySem.Expr} {av : AV} {x : Str} {Cl f : Addr} {msg : Str}
theorem Ev.str {k : Nat} {y : Str} : Ev C σ led (.Constant (.str y) k pos) (isS y) := ⟨fun s Q E S q => wpAny_Constant_str (q _ _ ⟨_, rfl⟩ S.toks)⟩
theorem wpC_execs_one {M : Model} {A : Around} {E : Value → Shared → Prop} {s : Shared} {env : Env} {st : Stmt} {Q : Flow → Shared → Prop} (h : wpC M A (execs [st] env) Q E s) : wpC M A (exec st env) Q E s := fun Γ p hΓ hc => by
  have h := h Γ p hΓ hc
  rw [execs_cons, Sem.wp_bind'] at h
  refine Sem.wp_mono M Γ _ (fun f p' s' h' => ?_) (fun _ _ _ h' => h') _ _ h
  cases f <;> exact h'
def NxX (lp : Bool) (C : Pl w cs) (rest : List Stmt) (led0 : Led) (Cl : Addr) (msg : Str) (fl : Flow) (σ : Sto) (led : Led) : Prop := match fl with
  | .next => WX lp C rest σ led led0 Cl msg
  | _ => False
theorem WX.pre {st : Stmt} (h : let P' := NxX lp C rest led0 Cl msg; WS true C [st] σ led P') : WX lp C (st :: rest) σ led led0 Cl msg := by
  refine ⟨fun s E ht S q => wpC_execs_cons (wpC_execs_one (wpC_mono (WS.run h s S) (fun fl s' hx => ?_) fun _ _ x => x.elim))⟩
  obtain ⟨σ2, led2, S2, hj⟩ := hx
  cases fl with
  | next => exact WX.run hj s' E ht S2 q
  | brk => exact hj.elim
  | cont => exact hj.elim
  | ret v => exact hj.elim
theorem WX.ifT {t : PySem.Expr} {body orelse : List Stmt} {p : Prop} (ht : Tst C σ led t p) (hp : p) (h : WX lp C body σ led led0 Cl msg) : WX lp C (.If t body orelse pos :: rest) σ led led0 Cl msg :=
  ⟨fun s E hn S q => wpC_execs_cons (wpC_If (ht.run s _ _ S fun c s1 hc S1 => by
    rw [if_pos (hc.mpr hp)]
    exact wpC_mono (h.run s1 E hn S1 q) (fun _ _ x => x.elim) fun _ _ x => x))⟩
theorem WX.ifN {t : PySem.Expr} {body : List Stmt} {p : Prop} (ht : Tst C σ led t p) (hp : ¬ p) (h : WX lp C rest σ led led0 Cl msg) : WX lp C (.If t body [] pos :: rest) σ led led0 Cl msg :=
  ⟨fun s E hn S q => wpC_execs_cons (wpC_If (ht.run s _ _ S fun c s1 hc S1 => by
    rw [if_neg (fun e => hp (hc.mp e))]
    exact wpC_execs_nil (h.run s1 E hn S1 q)))⟩
theorem WX.raise {cpos p1 : Pos} {kk : Nat} (X : XC w Cl) (hr : C.Room 2) (hx : cs.names.lookup x = some .globalImplicit) (hg : nsIn (Hz.hd.heap_1 w.params) mainGlobals x = some (some (.ref Cl))) (hk : keepIn (Hz.hd.heap_1 w.params) (.ref Cl) = true) (hd : (x == ("__debug__" : Str)) = false) (hle : Le led led0) :
    WX lp C (.Raise (some (.Call (.Name x px) [.Constant (.str msg) kk p1] [] cpos)) none pos :: rest) σ led led0 Cl msg := by
  refine ⟨fun s E hn S q => wpC_execs_cons (wpC_of ?_)⟩
  have X0 := X
  obtain ⟨nm, q0, N0, bs, bm, hdct, sn, sub, ab, col, dd, k0, k1, k2, k3, k5, hK, hB, hA, hN, hbase, _⟩ := X
  refine raise_K C.X hK hbase rfl (wpX_callK (b := false) C.X hk rfl ((Ev.glo hx hg (av := isV (.ref Cl)) rfl hd).run s _ _ S fun u s1 ha S1 => ⟨ha, (Evs.cons Ev.str .nil rfl).run cpos s1 _ _ S1 fun vs s2 hv S2 => ?_⟩))
  match vs, hv with
  | [_], ⟨⟨t, rfl⟩, _⟩ =>
    refine ⟨?_, exn_call X0 hr S2 fun e d s3 S3 => ?_⟩
    · obtain ⟨g, m, nw, V, F, _⟩ := S2.has
      exact V.X.keeps F.keep
    · obtain ⟨g, m, nw, V, F, G, N, R, D⟩ := S3.has
      obtain rfl := V.same hn
      match nw, R with
      | (_, _) :: (_, _) :: nw, ⟨⟨rfl, ⟨t0, rfl⟩⟩, ⟨rfl, tk, tk', n, rfl⟩, R⟩ =>
        have ne := led_ne D
        have fin : ∀ h', RaisedD C.base C.h₀ C.outer e (.ref Cl) d (whyDict w msg tk tk' n) .none ((d, whyDict w msg tk tk' n) :: nw) h' → C.h₀.UpToSlots h' → E (.ref e) { s3 with heap := h' } := fun h' R' U' => q e _ ⟨by rw [S3.is], _, _, _, _, _, R', U', Keeps.le ⟨nw, R, by simpa using D, fun p hp => .tail _ hp⟩ hle⟩
        cases lp with
        | false => exact raise_fin V.B rfl rfl C.hk F N (ne _ (.head _)) (fun p hp => ne p (.tail _ hp)) fin
        | true => exact raise_finW (Q := fun _ _ => False) V.B rfl rfl C.hk F N (ne _ (.head _)) (fun p hp => ne p (.tail _ hp)) fin
/-- a call that raises: what is left then -/
theorem XR.leave {E : Value → Shared → Prop} {ex : Addr} {s : Shared} (hn : C.tn = false) (hle : Le led led0) (h : XR C led Cl msg ex s) (q : ∀ e s', RO C led0 Cl msg e s' → E (.ref e) s') : EX false C E (.ref ex) s := by
  obtain ⟨his, g₀, g, m, dd, tk, tk', n, nw, V, F, R, U, Kp⟩ := h
  obtain rfl := V.same hn
  exact rD_leave V.B rfl rfl F R U fun h' R' U' => q ex _ ⟨by rw [his], _, _, _, _, _, R', U', Kp.le hle⟩
theorem callX_run {es : List PySem.Expr} {avs : List AV} {Q : Value → Shared → Prop} (hn : C.tn = false) (h : Evs C σ led (e :: es) avs) (hp : (e :: es).all plainE = true) (ct : CtX k' w x f led avs Cl msg) (hx : cs.names.lookup x = some .globalImplicit) (hr : C.Room k) (hl : Nat.ble k' k = true) (hle : Le led led0)
    (s : Shared) (E : Value → Shared → Prop) (S : St C σ led s) (q : ∀ e s', RO C led0 Cl msg e s' → E (.ref e) s') : wpC C.M C.A (eval (.Call (.Name x p) (e :: es) [] pos) C.env) Q (EX false C E) s := by
  refine wpX_callK (b := true) C.X ct.fn.keep hp ((Ev.glo hx ct.fn.glo (av := isV (.ref f)) rfl ct.fn.plain).run s _ _ S fun u s1 ha S1 => ⟨ha, h.run pos s1 _ _ S1 fun vs s2 hb S2 => ?_⟩)
  obtain ⟨g, m, nw, V, F, G, N, R, D⟩ := S2.has
  exact ⟨V.X.keeps F.keep, ct.run C σ vs s2 Q _ (hr.le (Nat.le_of_ble_eq_true hl)) hb S2 fun ex s' hx => hx.leave hn hle q⟩
theorem WX.callR {es : List PySem.Expr} {avs : List AV} {pos' : Pos} (h : Evs C σ led (e :: es) avs) (hp : (e :: es).all plainE = true) (ct : CtX k' w x f led avs Cl msg) (hx : cs.names.lookup x = some .globalImplicit) (hr : C.Room k) (hl : Nat.ble k' k = true) (hle : Le led led0) : WX false C (.Return (some (.Call (.Name x px) (e :: es) [] pos)) pos' :: rest) σ led led0 Cl msg :=
  ⟨fun s E hn S q => wpC_execs_cons (wpX_Return (b := true) (callX_run hn h hp ct hx hr hl hle s E S q))⟩
theorem WX.callA {es : List PySem.Expr} {avs : List AV} {y : Str} {pos' py : Pos} (h : Evs C σ led (e :: es) avs) (hp : (e :: es).all plainE = true) (ct : CtX k' w x f led avs Cl msg) (hx : cs.names.lookup x = some .globalImplicit) (hr : C.Room k) (hl : Nat.ble k' k = true) (hle : Le led led0) : WX false C (.Assign [.Name y py] (.Call (.Name x px) (e :: es) [] pos) pos' :: rest) σ led led0 Cl msg :=
  ⟨fun s E hn S q => wpC_execs_cons (wpX_Assign (b := true) rfl (callX_run hn h hp ct hx hr hl hle s E S q))⟩
theorem WX.while {t : PySem.Expr} {body : List Stmt} {p : Prop} (ht : Tst C σ led t p) (hp : p) (h : WX true C body σ led led0 Cl msg) : WX false C (.While t body [] pos :: rest) σ led led0 Cl msg := by
  refine ⟨fun s E hn S q => wpC_execs_cons (wpC_WhileE (codeC_whileRaise (ht.run s _ _ S fun c s1 hc S1 => ?_)))⟩
  rw [if_pos (hc.mpr hp)]
  exact h.run s1 E hn S1 q
/-- a def entered, that raises -/
theorem CtX.enter {name qual : Str} {params : Arguments} {body : List Stmt} {scope : Scope} {dV kV doc pm cdv ct oc : Value} {an od : Option Addr} {osl : Array (Option Value)} {avs : List AV}
    (fn : Fn w x f) (ho : (Hz.hd.heap_1 w.params).lookup f = some ⟨oc, od, .func (fnOf name qual params body scope dV kV doc pm an cdv ct), osl⟩) (hcd : codeIn (Hz.hd.heap_1 w.params) cdv qual = true) (hb : BindN (fnOf name qual params body scope dV kV doc pm an cdv ct) [] [] (params.args.map (·.arg)))
    (hs : (params.args.length == avs.length && (params.args.map (·.arg)).all (fun x => scope.names.lookup x == some .local) && decide (params.args.map (·.arg)).Nodup && !scope.isCoroutine && !scope.isGenerator && scope.kind == .function && scope.names.all (fun x => x.2 != .cell)) = true)
    (h : ∀ C : Pl w scope, C.Room k → let σ := (params.args.map (·.arg)).zip avs; WX false C body σ led led Cl msg) : CtX (k + 1) w x f led avs Cl msg := by
  rw [show params.args.length = (params.args.map (·.arg)).length from (List.length_map ..).symm] at hs
  generalize params.args.map (·.arg) = names at hb hs h
  simp only [Bool.and_eq_true, beq_iff_eq, decide_eq_true_eq, Bool.not_eq_true', List.all_eq_true, bne_iff_ne] at hs
  obtain ⟨⟨⟨⟨⟨⟨hl, hloc⟩, hnd⟩, hco⟩, hgen⟩, hk⟩, hcell⟩ := hs
  refine ⟨fn, fun {cs} C σ vs s Q E hr ha S q => ?_⟩
  obtain ⟨g₀, m, nw, V, F, G, N, R, D⟩ := S.has
  have hvl : vs.length = names.length := ha.length.trans hl.symm
  have hbind : BindsTo s (fnOf name qual params body scope dV kV doc pm an cdv ct) ⟨vs, []⟩ (names.zip vs) := BindsTo.of_eq (by simpa using hb.get vs hvl)
  have hmap : (names.zip vs).map (·.1) = names := List.map_fst_zip (Nat.le_of_eq hvl.symm)
  have hloc' : ∀ y ∈ names.zip vs, scope.names.lookup y.1 = some .local := fun y hy => hloc _ (hmap ▸ List.mem_map_of_mem hy)
  have hroom : C.A.depth < recursionLimit := by
    show C.dp < recursionLimit
    have := hr.1; omega
  refine wpC_call (code_defNE V.B F V.X N V.T rfl rfl C.hk ho hcd hroom hbind hloc' (fun g L' h₁ FG F' N' B' X' T' => ?_) hco hgen hk hcell)
  let C' : Pl w scope := { mean := C.mean, mg := C.mg, mb := C.mb, dp := C.dp + 1, un := C.un + 3, gd := C.gd, cn := qual, L := L', a := f, ccd := cdv, cl := [], outer := C.env :: C.outer, A₀ := C.A, base := C.base, h₀ := g, s₀ := s, hk := hk, X := X', T := T', B := B', tn := false, D := nofun }
  have hr' : C'.Room k := ⟨by have := hr.1; show C.dp + 1 + 2 * k < _; omega, by have := hr.2; show C.un + 3 + 16 * k < _; omega⟩
  refine wpC_mono ((h C' hr').run _ (fun e s' => E e s') rfl ⟨rfl, _, _, nw, C'.ground, F', fun x av e => ?_, N', R, D⟩ fun e s' hx => ?_) (fun _ _ x => x.elim) fun _ _ x => x
  · obtain ⟨v, hv, ha'⟩ := zip_lookup ha e
    exact ⟨v, (rev_lookup (by rw [hmap]; exact hnd) x).trans hv, ha'⟩
  · obtain ⟨his, dd, tk, tk', n, nw', R', U', Kp⟩ := hx
    refine q e s' ⟨by rw [his]; show ({ s with heap := s'.heap, toks := s'.toks } : Shared) = _; rw [S.is], g₀, g, m, dd, tk, tk', n, nw', V, FG, R', U', Kp⟩
end
end Np
end

section
namespace Np
open PySem PySem.W PySem.Spec PySem.Calls PyProof.Rows
example : (fun (_ : OpenLaw) (_ : Params → Frag) => True) PySem.Challenge.rw_np0200_01 Hz.hd.heap_1 := by
  k_fill
  trivial
def XG (w : World) (Cl : Addr) : Prop := findIn (Hz.hd.heap_1 w.params) (.ref Cl) "__getattribute__" = some (some (.builtin "BaseException.__getattribute__")) ∧ findIn (Hz.hd.heap_1 w.params) (.ref Cl) "__getattr__" = some none ∧ mroIn (Hz.hd.heap_1 w.params) Cl (.type "BaseException") = some true ∧ hasDictIn (Hz.hd.heap_1 w.params) Cl = true ∧ findIn (Hz.hd.heap_1 w.params) (.ref Cl) "why" = some none
theorem xg44 {w : World} : XG w 44 := ⟨by k_is, by k_is, by k_is, by k_is, by k_is⟩
theorem xg56 {w : World} : XG w 56 := ⟨by k_is, by k_is, by k_is, by k_is, by k_is⟩
/-- what the suite behind `except` gives -/
theorem told_suite {M : World → Model} {A : Around} {w : World} {E : Value → Shared → Prop} {s : Shared} {g : Heap} {cn : Str} {cs : Scope} {L a e d Cl : Addr} {ccd : Value} {m : Str → Option Value} {oe : Obj} {vs : Array Value} {nwl : List (Addr × Obj)} {msg tell : Str} {tk tk' : Tok} {n kk k2 : Nat} {p1 p2 p3 p4 p5 : Pos} {Q : Flow → Shared → Prop} (G : XG w Cl) (hk : cs.kind = .function) (hx : (envX cn cs L a ccd []).kindOf "fault" = some .local)
    (F : Fr g L s.heap (fun y => if y = "fault" then some (.ref e) else m y)) (X : (Hz.hd.heap_1 w.params).In g) (N : News g L s.heap ((e, oe) :: (d, whyDict w msg tk tk' n) :: nwl)) (hc : oe.cls = .ref Cl) (hd : oe.dict = some d) (hda : oe.data = .fields vs)
    (h : ∀ r vs h' tk2, AllOf [isS tell, isS msg] vs → (∀ p ∈ nwl, p.1 < r) → Fr g L h' (fun y => if y = "fault" then some (.ref e) else m y) → News g L h' ((r, { cls := .type "tuple", data := .seq vs.toArray }) :: nwl) → Q (.ret (.ref r)) { s with heap := h', toks := tk2 }) :
    wpAny (model PySem.Challenge.rw_np0200_01.row.prog w) A (execs [.Return (some (.Tuple [.Constant (.str tell) kk p1, .Attribute (.Name "fault" p2) "why" p3] k2 p4)) p5] (envX cn cs L a ccd [])) Q E s := by
  obtain ⟨g1, g2, g3, g4, g5⟩ := G
  refine wpAny_execs_cons (wpAny_Return_some (Tuple_ (args_cons (wpAny_Constant_str (args_cons (Attribute_name (nameX_L (s := { s with toks := s.toks + 1 }) F (if_pos rfl) (exn_get_K F X N (.head _) (.tail _ (.head _)) hc hd hda g1 g2 g3 g4 g5 (by with_unfolding_all rfl) rfl (args_nil ?_)) hk hx)) rfl)) rfl)))
  refine wpAny_newObj_type (T := "tuple") ?_ (by show [Value.str tell s.toks, Value.str msg tk].toArray.size ≤ sizeLine; rw [sizeLine_eq]; exact (by decide : 2 ≤ 16777216))
  exact h _ [Value.str tell s.toks, Value.str msg tk] _ _ (And.intro ⟨_, rfl⟩ (And.intro ⟨_, rfl⟩ trivial)) (fun p hp => Heap.lt_size (N p (.tail _ (.tail _ hp))).1) (F.push _) (fun p hp => (N.push F { cls := .type "tuple", data := .seq [Value.str tell s.toks, Value.str msg tk].toArray } rfl) p (by
    rcases List.mem_cons.mp hp with rfl | hp
    · exact .head _
    · exact .tail _ (.tail _ (.tail _ hp))))
/-- a call that may turn the ground -/
abbrev CtSR (k : Nat) (w : World) (f : Addr) (led : Led) (avs : List AV) (post : Value → Led → Prop) : Prop := ∀ {cs : Scope} (C : Pl w cs) (σ : Sto) (vs : List Value) (s : Shared) (Q E : Value → Shared → Prop), C.tn = true → C.Room k → AllOf avs vs → St C σ led s → (∀ v s' led', post v led' → St C σ led' s' → Q v s') → wpC C.M C.A (call (.ref f) vs) Q E s
section
variable {w : World} {cs : Scope} {C : Pl w cs} {σ σ' : Sto} {led led' : Led} {b : Bool} {k k' : Nat} {pos px : Pos} {rest : List Stmt} {P : Flow → Sto → Led → Prop} {e : PySem.Expr} {av : AV} {x : Str} {f D : Addr}
/-- what such a call leaves to its caller -/
theorem leaveT_ {scope : Scope} {g₀ g : Heap} {m : Str → Option Value} {s s' : Shared} {C' : Pl w scope} {fl : Flow} {Q E : Value → Shared → Prop} (ht : C.tn = true) (V : Ground C g₀) (G : Ag σ m) (hs : s = { C.s₀ with heap := s.heap, toks := s.toks }) (h1 : C'.s₀ = s) (h2 : C'.base = C.base) (h3 : C'.outer = C.env :: C.outer) (h4 : C'.h₀ = g) (h5 : C'.tn = true)
    (S' : St C' σ' led' s') (q : ∀ s', St C σ led' s' → Q (retOf fl) s') : LeaveT ((C.env :: C.outer).filterMap (·.frame)) C.A₀ C.base C.outer g₀ C.L m g (fun r s' => match r with | .ok (.ret v) => Q v s' | .ok _ => False | .error e => E e s') (retOf fl) s' := by
  obtain ⟨_, XB, TB⟩ := C.D ht
  obtain ⟨T0, D0⟩ := V.turn ht
  obtain ⟨his, g5, m5, nw5, V5, F5, G5, N5, R5, D5⟩ := S'
  have T5 := (V5.turn h5).1
  rw [h3, h4] at T5
  refine ⟨g5, _, m5, nw5, T5, F5, N5, fun h₂ T2 F2 N2 B2 => ?_⟩
  exact q _ ⟨by rw [his, h1, hs], h₂, m, nw5, ⟨B2, XB.keeps B2.stays, TB.keeps B2.stays, (fun hf => nomatch (ht.symm.trans hf)), fun _ => ⟨T0.trans T2, D0.turn T2⟩⟩, F2, G, N2, R5, D5⟩
theorem ctS_enter {name qual : Str} {params : Arguments} {body : List Stmt} {scope : Scope} {dV kV doc pm cdv ct oc : Value} {an od : Option Addr} {osl : Array (Option Value)} {f : Addr} {avs : List AV} {post : Value → Led → Prop}
    (ho : (Hz.hd.heap_1 w.params).lookup f = some ⟨oc, od, .func (fnOf name qual params body scope dV kV doc pm an cdv ct), osl⟩) (hcd : codeIn (Hz.hd.heap_1 w.params) cdv qual = true) (hb : BindN (fnOf name qual params body scope dV kV doc pm an cdv ct) [] [] (params.args.map (·.arg)))
    (hs : (params.args.length == avs.length && (params.args.map (·.arg)).all (fun x => scope.names.lookup x == some .local) && decide (params.args.map (·.arg)).Nodup && !scope.isCoroutine && !scope.isGenerator && scope.kind == .function && scope.names.all (fun x => x.2 != .cell)) = true)
    (h : ∀ C : Pl w scope, C.tn = true → C.cl = [] → C.A = C.A₀.deeper C.env → C.Room k → let σ := (params.args.map (·.arg)).zip avs; let P : Flow → Sto → Led → Prop := fun fl _ led' => post (retOf fl) led'; WS true C body σ led P) : CtSR (k + 1) w f led avs post := by
  rw [show params.args.length = (params.args.map (·.arg)).length from (List.length_map ..).symm] at hs
  generalize params.args.map (·.arg) = names at hb hs h
  simp only [Bool.and_eq_true, beq_iff_eq, decide_eq_true_eq, Bool.not_eq_true', List.all_eq_true, bne_iff_ne] at hs
  obtain ⟨⟨⟨⟨⟨⟨hl, hloc⟩, hnd⟩, hco⟩, hgen⟩, hk⟩, hcell⟩ := hs
  intro cs C σ vs s Q E ht hr ha S q
  obtain ⟨g₀, m, nw, V, F, G, N, R, D⟩ := S.has
  obtain ⟨_, XB, TB⟩ := C.D ht
  have hvl : vs.length = names.length := ha.length.trans hl.symm
  have hbind : BindsTo s (fnOf name qual params body scope dV kV doc pm an cdv ct) ⟨vs, []⟩ (names.zip vs) := BindsTo.of_eq (by simpa using hb.get vs hvl)
  have hmap : (names.zip vs).map (·.1) = names := List.map_fst_zip (Nat.le_of_eq hvl.symm)
  have hloc' : ∀ y ∈ names.zip vs, scope.names.lookup y.1 = some .local := fun y hy => hloc _ (hmap ▸ List.mem_map_of_mem hy)
  have hroom : C.A.depth < recursionLimit := by
    show C.dp < recursionLimit
    have := hr.1; omega
  refine wpC_call (code_defT V.B F V.X N V.T (V.turn ht).2 rfl rfl C.hk ho hcd hroom hbind hloc' (fun g L' h₁ FG F' N' B' X' T' D' => ?_) hco hgen hk hcell)
  let C' : Pl w scope := { mean := C.mean, mg := C.mg, mb := C.mb, dp := C.dp + 1, un := C.un + 3, gd := C.gd, cn := qual, L := L', a := f, ccd := cdv, cl := [], outer := C.env :: C.outer, A₀ := C.A, base := C.base, h₀ := g, s₀ := s, hk := hk, X := X', T := T', B := B', tn := true, D := fun _ => ⟨D', XB, TB⟩ }
  have hr' : C'.Room k := ⟨by have := hr.1; show C.dp + 1 + 2 * k < _; omega, by have := hr.2; show C.un + 3 + 16 * k < _; omega⟩
  refine wpC_mono ((h C' rfl rfl rfl hr').run _ ⟨rfl, _, _, nw, C'.ground, F', fun x av e => ?_, N', R, D⟩) (fun fl s' hx => ?_) fun _ _ x => x
  · obtain ⟨v, hv, ha'⟩ := zip_lookup ha e
    exact ⟨v, (rev_lookup (by rw [hmap]; exact hnd) x).trans hv, ha'⟩
  · obtain ⟨σ', led', S', hp⟩ := hx
    have := leaveT_ (E := E) (Q := Q) (C' := C') ht V G S.is rfl rfl rfl rfl rfl S' fun s' S2 => q _ s' led' hp S2
    cases fl <;> exact this
/-- heard's own text -/
theorem WS.tryX {Cl : Addr} {kk : Nat} {msg tell : Str} {Rf : Obj → Prop} {p1 p2 p3 p4 p5 p6 p7 p8 p9 p10 q1 q2 q3 q4 q5 q6 q7 q8 : Pos} {k1 k2 k3 k4 k5 k6 : Nat} {fl : Addr} {told : Str}
    (ht : C.tn = true) (hcl : C.cl = []) (hA : C.A = C.A₀.deeper C.env) (hr : C.Room kk) (hm : (fl, Rf) ∈ led) (hRf : ∀ o, Rf o → ∃ fd, o.data = .func fd) (Cx : CtXR kk w fl led [] Cl msg)
    (hloc : cs.names.lookup ("call" : Str) = some .local) (hlf : cs.names.lookup ("fault" : Str) = some .local) (h1 : cs.names.lookup ("Corrupt" : Str) = some .globalImplicit) (h2 : cs.names.lookup ("Misused" : Str) = some .globalImplicit) (hσ : σ.lookup ("call" : Str) = some (isV (.ref fl)))
    (hC : (Cl = 44 ∧ tell = "corrupt") ∨ (Cl = 56 ∧ tell = "misused")) (q : ∀ r, P (.ret (.ref r)) [] ((r, isTup [isS tell, isS msg]) :: led)) :
    WS true C (.Try [.Return (some (.Tuple [.Constant (.str told) k1 p1, .Call (.Name "call" p2) [] [] p3] k2 p4)) p5]
      [.ExceptHandler (some (.Name "Corrupt" p6)) (some "fault") [.Return (some (.Tuple [.Constant (.str "corrupt") k3 p7, .Attribute (.Name "fault" p8) "why" p9] k4 q1)) q2] q3,
       .ExceptHandler (some (.Name "Misused" q4)) (some "fault") [.Return (some (.Tuple [.Constant (.str "misused") k5 q5, .Attribute (.Name "fault" q6) "why" q7] k6 q8)) px] p10] [] [] pos :: rest) σ led P := by
  obtain ⟨_, XB, TB⟩ := C.D ht
  have hcl' : C.cl = [] := hcl
  refine ⟨fun s S => ?_⟩
  refine wpX_cons (b := true) (wpC_Try (return_call (Tuple2C (wpAny_Constant_str (CallC' ((Ev.loc hloc hσ rfl).run _ _ _ S.toks fun v s2 hv S2 => ?_) rfl)) rfl)))
  obtain rfl := hv
  have fn : FnAt fl s2.heap := by
    obtain ⟨g, m, nw, V, F, G, N, R, D⟩ := S2.has
    obtain ⟨⟨oc, od, da, sl⟩, ho, hd⟩ := ledR_mem R hm
    obtain ⟨fd, hd⟩ := hRf _ hd
    exact FnAt.of N (show (fl, (⟨oc, od, .func fd, sl⟩ : Obj)) ∈ nw from (show da = .func fd from hd) ▸ ho)
  refine callWith_F0C fn (Cx C σ [] s2 _ _ hr trivial S2 fun e s3 hx => ?_)
  obtain ⟨his, g₀, g, m, dd, tk, tk', n, nw, V, F, R, U, Kp⟩ := hx
  obtain ⟨T0, D0⟩ := V.turn ht
  refine rD_note rfl rfl R U fun h3 R3 U3 => ?_
  refine rD_flight (s' := { s3 with heap := h3 }) (fr := none) R3 U3 fun h4 R4 U4 => ?_
  obtain ⟨nwl, RK, DK, hsub⟩ := Kp
  have henv : C.env = envOf C.cn cs C.L C.a C.ccd := by show envX _ _ _ _ _ C.cl = _; rw [hcl]; rfl
  have hxf : (envOf C.cn cs C.L C.a C.ccd).kindOf "fault" = some .local := hlf
  have key : ∀ (tell' : Str) (q' : ∀ r, P (.ret (.ref r)) [] ((r, isTup [isS tell', isS msg]) :: led)) (G : XG w Cl) (k3 k4 : Nat) (p7 p8 p9 q1 q2 q3 : Pos) (Qf : Flow → Shared → Prop) (E0 : Value → Shared → Prop), (∀ v s', (∃ σ' led', St C σ' led' s' ∧ P (.ret v) σ' led') → Qf (.ret v) s') → ∀ (h' : Heap) (g' : Heap) (oe : Obj) (vs : Array Value) (tk0 : Nat) (E' : Value → Shared → Prop), oe.cls = .ref Cl → oe.dict = some dd → oe.data = .fields vs → KtsTurn (C.outer.filterMap (·.frame)) C.h₀ g' → Fr g' C.L h' (fun y => if y = "fault" then some (.ref e) else m y) → News g' C.L h' ((e, oe) :: (dd, whyDict w msg tk tk' n) :: nw) → Below C.A₀ C.base C.outer g' → (Hz.hd.heap_1 w.params).In g' → Top topProg looseN C.mean C.mg C.mb g' → KtsDicts (C.outer.filterMap (·.frame)) g' →
      wpAny C.M ((C.A₀.deeper (envOf C.cn cs C.L C.a C.ccd)).mark (some (.ref e))) (execs [.Return (some (.Tuple [.Constant (.str tell') k3 p7, .Attribute (.Name "fault" p8) "why" p9] k4 q1)) q2] (envOf C.cn cs C.L C.a C.ccd))
        (fun f s₄ => wpAny C.M (C.A₀.deeper (envOf C.cn cs C.L C.a C.ccd)) (do bindName (envOf C.cn cs C.L C.a C.ccd) "fault" .none; unbindBehindTheSuite (envOf C.cn cs C.L C.a C.ccd) "fault" q3) (fun _ s₅ => Qf f s₅) E0 s₄) E' { s3 with heap := h', toks := tk0 } := by
    intro tell' q' G k3 k4 p7 p8 p9 q1 q2 q3 Qf E0 hQ h' g' oe vs tk0 E' hoc hod hoda T5 F5 N5 B5 X5 P5 D5
    refine told_suite (M := fun _ => C.M) (cs := cs) (nwl := nwl) (msg := msg) (tk := tk) (tk' := tk') (n := n) G C.hk hxf F5 X5 (fun p hp => N5 p ?_) hoc hod hoda fun r vs h6 tk6 ha hlt F6 N6 => ?_
    · rcases List.mem_cons.mp hp with rfl | hp
      · exact .head _
      · rcases List.mem_cons.mp hp with rfl | hp
        · exact .tail _ (.head _)
        · exact .tail _ (.tail _ (hsub p hp))
    · refine name_goes_keeps (s := { s3 with heap := h6, toks := tk6 }) F6 N6 (fun h7 v F7 N7 => ?_) C.hk hxf
      refine hQ _ _ ⟨[], (r, isTup [isS tell', isS msg]) :: led, ⟨by rw [his], g', _, _, ⟨B5, X5, P5, (fun hf => nomatch (ht.symm.trans hf)), fun _ => ⟨T5, D5⟩⟩, F7, (fun x av e => nomatch e), N7, And.intro ⟨rfl, vs, rfl, ha⟩ RK, nodup_new (a := (r, _)) hlt ?_⟩, q' r⟩
      simp only [List.nodup_cons] at DK
      exact DK.2.2
  show wpAny C.M C.A (handleBy (.ref e) C.env _) _ _ _
  rw [hA, henv]
  rcases hC with ⟨rfl, rfl⟩ | ⟨rfl, rfl⟩
  · refine' caught_yes (s' := { s3 with heap := h4 }) R4 F V.B U4 XB TB D0 T0 ?ex ?hC ?hb (fun h5 g5 oe vs tk5 => key _ q xg44 _ _ _ _ _ _ _ _ _ _ (fun v s' h => h) h5 g5 oe vs tk5 _) C.hk hxf h1 rfl
    case ex => k_is
    case hC => k_is
    case hb => rfl
  · refine' caught_no (s' := { s3 with heap := h4 }) R4 F V.B U4 XB TB ?ex ?hC ?hC' ?hb ?hn ?_ C.hk h1 rfl
    case ex => k_is
    case hC => k_is
    case hC' => k_is
    case hb => rfl
    case hn => rfl
    refine' caught_yes (s' := { s3 with heap := h4 }) R4 F V.B U4 XB TB D0 T0 ?ex ?hC ?hb (fun h5 g5 oe vs tk5 => key _ q xg56 _ _ _ _ _ _ _ _ _ _ (fun v s' h => h) h5 g5 oe vs tk5 _) C.hk hxf h2 rfl
    case ex => k_is
    case hC => k_is
    case hb => rfl
end
theorem heard_ct {w : World} {kk : Nat} {fl Cl : Addr} {msg tell : Str} {led : Led} {Rf : Obj → Prop} (hC : (Cl = 44 ∧ tell = "corrupt") ∨ (Cl = 56 ∧ tell = "misused")) (hm : (fl, Rf) ∈ led) (hRf : ∀ o, Rf o → ∃ fd, o.data = .func fd) (Cx : CtXR kk w fl led [] Cl msg) : CtSR (kk + 1) w 296 led [isV (.ref fl)] (fun v l => ∃ r, v = .ref r ∧ l = (r, isTup [isS tell, isS msg]) :: led) := by
  refine ctS_enter (by k_is) (by k_is) (by ((repeat intro _); rfl)) (by rfl) ?_
  intro C' ht hcl hA r' σ' P'
  refine WS.tryX ht hcl hA r' hm hRf Cx ?_ ?_ ?_ ?_ ?_ hC ?_
  any_goals rfl
  exact fun r => Exists.intro r (And.intro rfl rfl)
end Np
end

section
namespace Np
open PySem PySem.W PySem.Spec PySem.Calls PyProof.Rows
example : (fun (_ : OpenLaw) (_ : Params → Frag) => True) PySem.Challenge.rw_np0200_01 Hz.hd.heap_1 := by
  k_fill
  trivial
section
variable {w : World} {cs : Scope} {C : Pl w cs} {σ σ' : Sto} {led led' : Led} {b : Bool} {k k' : Nat} {pos px : Pos} {rest : List Stmt} {P : Value → Led → Prop} {e : PySem.Expr} {av : AV} {x : Str} {f D : Addr}
theorem Rv.list {es : List PySem.Expr} {avs : List AV} (he : Evs C σ led es avs) (hz : Nat.ble avs.length 100 = true) (h : ∀ r, P (.ref r) ((r, isLst avs) :: led)) : Rv b C σ led (.List es pos) P := by
  refine ⟨fun s Q E S q => wpX_of (List_ (he.run pos s _ E S fun vs s1 ha S1 => ?_))⟩
  refine wpAny_newObj_type (T := "list") (q (.ref _) _ _ (h s1.heap.objs.size) (S1.push (R := isLst avs) ⟨vs, 0, rfl, ha⟩ rfl)) ?_
  show vs.toArray.size ≤ sizeLine
  rw [List.size_toArray, ha.length, sizeLine_eq]
  have := Nat.le_of_ble_eq_true hz
  omega
theorem rv_call0 {oc : Value} {od : Option Addr} {fd : FuncData} {sl : Array (Option Value)} {p : Pos} {post : Value → Led → Prop} (hx : cs.names.lookup x = some .globalImplicit) (ho : (Hz.hd.heap_1 w.params).lookup f = some ⟨oc, od, .func fd, sl⟩) (ct : Ct b k' w x f led [] post) (hr : C.Room k) (hl : Nat.ble k' k = true)
    (i : ∀ v led', post v led' → P v led') : Rv b C σ led (.Call (.Name x p) [] [] pos) P := by
  refine ⟨fun s Q E S q => ?_⟩
  have key : ∀ (s1 : Shared), St C σ led s1 → FnAt f s1.heap ∧ wpX b C.M C.A (call (.ref f) ([] ++ [])) Q E s1 := fun s1 S1 => by
    refine ⟨?_, ct.run C σ [] s1 Q E (hr.le (Nat.le_of_ble_eq_true hl)) trivial S1 fun v s' led' hv S' => q v s' led' (i v led' hv) S'⟩
    obtain ⟨g, m, nw, V, F, G, N, R, D⟩ := S1.has
    exact ⟨oc, od, fd, sl, (V.X.keeps F.keep) _ _ ho⟩
  cases b
  · refine Call_ ((Ev.glo hx ct.fn.glo (av := isV (.ref f)) rfl ct.fn.plain).run s _ E S fun u s1 ha S1 => ?_) rfl
    obtain rfl := ha
    exact callWith_F0 (key s1 S1).1 (key s1 S1).2
  · refine CallC' ((Ev.glo hx ct.fn.glo (av := isV (.ref f)) rfl ct.fn.plain).run s _ E S fun u s1 ha S1 => ?_) rfl
    obtain rfl := ha
    exact callWith_F0C (key s1 S1).1 (key s1 S1).2
theorem strs_are : ∀ {ns : List Str} {vs : List Value}, AllOf (ns.map isS) vs → StrsAre vs ns
  | [], [], _ => .nil
  | n :: ns, v :: vs, ⟨⟨t, h⟩, r⟩ => h ▸ .cons n t (strs_are r)
theorem Tst.inS {l r : PySem.Expr} {y : Str} {ns : List Str} (h1 : Ev C σ led l (isS y)) (h2 : Ev C σ led r (isV (.ref D))) (hm : (D, isLst (ns.map isS)) ∈ led) (hb : behindInMarks .In r = false) : Tst C σ led (.Compare l [.In] [r] pos) (ns.any (· == y) = true) := by
  refine ⟨fun s Q E S k => wpAny_isTrue_Compare1 (h1.run s _ E S fun u s1 ha S1 => h2.run s1 _ E S1 fun v s2 hb S2 => ?_) hb⟩
  obtain ⟨t, rfl⟩ := ha
  obtain rfl := hb
  obtain ⟨g, m, nw, V, F, G, N, R, D'⟩ := S2.has
  obtain ⟨o, ho, vs, n, rfl, hv⟩ := ledR_mem R hm
  exact in_list_strs (N.isList ho) (strs_are hv) (wpAny_truthy_bool (k _ s2 Iff.rfl S2))
/-- `x.index(e)` of a list of texts -/
theorem Ev.index {apos : Pos} {y : Str} {ns : List Str} (j : Nat) (h1 : Ev C σ led (.Name x px) (isV (.ref D))) (h2 : Ev C σ led e (isS y)) (hm : (D, isLst (ns.map isS)) ∈ led) (hp : (plainE e && (apos.endLine == pos.line)) = true) (hj : decide (j < 100 ∧ ns[j]? = some y ∧ ∀ i, i < j → ns[i]? ≠ some y) = true) : Ev C σ led (.Call (.Attribute (.Name x px) ("index" : Str) apos) [e] [] pos) (isI j) := by
  rw [Bool.and_eq_true] at hp
  refine ⟨fun s Q E S q => wpAny_of_eq' (arm_eval_Call ..) ?_⟩
  refine wpAny_bind (h1.run s _ E S fun v s1 hv S1 => wpAny_bind (wpAny_standAt ?_))
  obtain rfl := hv
  have hform : methodCallForm ([e].length + ([] : List Keyword).length) (backTo pos (starEach [e] C.env)) (backToKw pos (keywordEach [] C.env)) = true := plain_few hp.1
  have hpos : methodCallPos true (.Name x px) C.env apos pos = pure pos := by unfold methodCallPos; simp [show apos.endLine = pos.line by simpa using hp.2]
  unfold methodCall
  rw [hform]
  obtain ⟨g, m, nw, V, F, G, N, R, D'⟩ := S1.has
  obtain ⟨o, ho, vs, n, rfl, hv⟩ := ledR_mem R hm
  refine wpAny_bind (wpAny_holding (kf_method N ho PySem.F.slot_list_index PySem.F.type_list_index (wpAny_bind (wpAny_of_eq hpos ?_))))
  refine callWith_method1 (args_cons (h2.run s1 _ E S1 fun v s2 hv2 S2 => args_nil ?_) (starEach_plain hp.1 _)) (starEach_plain hp.1 _)
  clear F G N R D' V hv ho
  obtain ⟨t, rfl⟩ := hv2
  obtain ⟨g, m, nw, V, F, G, N, R, D'⟩ := S2.has
  obtain ⟨o, ho, vs, n, rfl, hv⟩ := ledR_mem R hm
  obtain ⟨hj1, hj2, hj3⟩ := of_decide_eq_true hj
  have at_ : ∀ (i : Nat) (h : i < vs.toArray.size), ∃ z, ns[i]? = some z ∧ isStrOf y vs.toArray[i] = (z == y) := fun i h => by
    have hlen := hv.length
    rw [List.length_map] at hlen
    have hi : i < ns.length := by rw [← hlen]; simpa using h
    obtain ⟨v, hv', t', hz⟩ := allOf_at (j := i) (av := isS ns[i]) hv (by rw [List.getElem?_map, List.getElem?_eq_getElem hi]; rfl)
    refine ⟨ns[i], List.getElem?_eq_getElem hi, ?_⟩
    have : vs.toArray[i] = v := by
      have := List.getElem?_eq_some_iff.mp hv'
      simpa using this.2
    rw [this, hz]; rfl
  have hjl : j < vs.toArray.size := by
    have hlen := hv.length
    rw [List.length_map] at hlen
    have := (List.getElem?_eq_some_iff.mp hj2).1
    rw [List.size_toArray, hlen]; exact this
  refine call_meets PySem.F.slot_list_index ⟨_, (N _ ho).1, rfl⟩ PySem.F.entry_list_index (PySem.F.args_list_index_2 _ _)
    (MeetsSeq.list_index D vs.toArray n (.str y t) (isStrOf y) (fun z hz => eq_isStrOf y t (strs_are hv) z (by simpa using hz)) j hjl (by omega) ?_ ?_) ⟨(N _ ho).1, q _ _ ⟨_, rfl⟩ S2.toks⟩
  · obtain ⟨z, h1, h2⟩ := at_ j hjl
    rw [hj2] at h1
    cases h1
    rw [h2]; exact beq_self_eq_true _
  · intro i hi hlt
    obtain ⟨z, h1, h2⟩ := at_ i hi
    rw [h2, beq_eq_false_iff_ne]
    exact fun e => hj3 i hlt (e ▸ h1)
end
end Np
end

section
namespace Np
open PySem PySem.W PySem.Spec PySem.Calls PyProof.Rows
example : (fun (_ : OpenLaw) (_ : Params → Frag) => True) PySem.Challenge.rw_np0200_01 Hz.hd.heap_1 := by
  k_fill
  trivial
/-- a cell, empty; a cell that holds -/
def isCl0 : Obj → Prop := fun o => o.data = .cell none
def isCl (av : AV) : Obj → Prop := fun o => ∃ v, o.data = .cell (some v) ∧ av v
def isO (o : Obj) : Obj → Prop := fun o' => o' = o
/-- a table of inner codes, with the codes -/
def TabL (P : Addr) (ps : Array Value) (cds : List (Addr × Obj)) : Led := (P, isO (tabObj ps)) :: cds.map fun p => (p.1, isO p.2)
theorem ledR_app : ∀ {l1 l2 : Led} {nw : List (Addr × Obj)}, LedR (l1 ++ l2) nw → ∃ n1 n2, nw = n1 ++ n2 ∧ LedR l1 n1 ∧ LedR l2 n2
  | [], _, nw, h => ⟨[], nw, rfl, trivial, h⟩
  | p :: l1, l2, q :: r, h => by
    obtain ⟨n1, n2, rfl, h1, h2⟩ := ledR_app h.2
    exact ⟨q :: n1, n2, rfl, And.intro h.1 h1, h2⟩
  | _ :: _, _, [], h => h.elim
theorem ledR_app' {l2 : Led} {n2 : List (Addr × Obj)} (h2 : LedR l2 n2) : ∀ {l1 : Led} {n1 : List (Addr × Obj)}, LedR l1 n1 → LedR (l1 ++ l2) (n1 ++ n2) := by
  intro l1
  induction l1 with
  | nil => intro n1 h; cases n1 with
    | nil => exact h2
    | cons q r => exact h.elim
  | cons p l1 ih => intro n1 h; cases n1 with
    | nil => exact h.elim
    | cons q r => exact And.intro h.1 (ih h.2)
theorem ledR_ex {cds : List (Addr × Obj)} : ∀ {nw : List (Addr × Obj)}, LedR (cds.map fun p => (p.1, isO p.2)) nw → nw = cds := by
  induction cds with
  | nil => intro nw h; cases nw with
    | nil => rfl
    | cons q r => exact h.elim
  | cons p l ih => intro nw h; cases nw with
    | nil => exact h.elim
    | cons q r =>
      have h1 : p.1 = q.1 := h.1.1
      have h2 : q.2 = p.2 := h.1.2
      rw [ih h.2, show q = p from Prod.ext h1.symm h2]
theorem ledR_ex' {cds : List (Addr × Obj)} : LedR (cds.map fun p => (p.1, isO p.2)) cds := by
  induction cds with
  | nil => trivial
  | cons p l ih => exact And.intro ⟨rfl, rfl⟩ ih
theorem tabL_R {P : Addr} {ps : Array Value} {cds : List (Addr × Obj)} : LedR (TabL P ps cds) ((P, tabObj ps) :: cds) := And.intro ⟨rfl, rfl⟩ ledR_ex'
theorem perm_new {a b : Addr × Obj} {pre l : List (Addr × Obj)} : (a :: (pre ++ b :: l)).Perm (pre ++ b :: a :: l) := by
  have := (List.perm_middle (a := a) (l₁ := pre ++ [b]) (l₂ := l)).symm
  simpa using this
section
variable {w : World} {cs : Scope} {C : Pl w cs} {σ σ' : Sto} {led led' : Led} {b : Bool} {k k' : Nat} {pos px : Pos} {rest : List Stmt} {P : Flow → Sto → Led → Prop} {e : PySem.Expr} {av : AV} {x : Str} {f D c : Addr}
theorem Ev.cell (hx : cs.names.lookup x = some .cell) (hc : C.cl.lookup x = some c) (hm : (c, isCl av) ∈ led) (hd : (x == ("__debug__" : Str)) = false) : Ev C σ led (.Name x pos) av := by
  refine ⟨fun s Q E S q => ?_⟩
  obtain ⟨g, m, nw, V, F, G, N, R, D⟩ := S.has
  obtain ⟨o, ho, v, hv, ha⟩ := ledR_mem R hm
  exact nameX_C N hc ho hv (q v s ha S) C.hk hx hd
theorem Ev.free (hx : cs.names.lookup x = some .free) (hc : C.cl.lookup x = some c) (hm : (c, isCl av) ∈ led) (hd : (x == ("__debug__" : Str)) = false) (hn : (x == ("__classdict__" : Str)) = false) : Ev C σ led (.Name x pos) av := by
  refine ⟨fun s Q E S q => ?_⟩
  obtain ⟨g, m, nw, V, F, G, N, R, D⟩ := S.has
  obtain ⟨o, ho, v, hv, ha⟩ := ledR_mem R hm
  exact nameX_F N hc ho hv (q v s ha S) C.hk hx hd hn
theorem St.storeC {s : Shared} {v : Value} {Q : Unit → Shared → Prop} {E : Value → Shared → Prop} (S : St C σ led s) (hx : cs.names.lookup x = some .cell) (hc : C.cl.lookup x = some c) (U : LUpd c isCl0 (isCl av) led led') (ha : av v) (q : ∀ s', St C σ led' s' → Q () s') : wpAny C.M C.A (storeName C.env x v) Q E s := by
  obtain ⟨g, m, nw, V, F, G, N, R, D⟩ := S.has
  obtain ⟨o, pre, post, hd, rfl, h1, h2, hR⟩ := U.split R D
  refine storeX_C F N hc (updF_pre h1 h2) hd (fun h' o' F' N' ho' => ?_) C.hk hx
  exact q _ (S.set (k := s.toks) V F' G N' (hR o' ⟨v, ho', ha⟩) (by simpa using D))
theorem WS.assignC (hx : cs.names.lookup x = some .cell) (hc : C.cl.lookup x = some c) (hp : plainE e = true) (h : Rv b C σ led e fun v led' => ∃ (av : AV) (l2 : Led), av v ∧ LUpd c isCl0 (isCl av) led' l2 ∧ WS b C rest σ l2 P) : WS b C (.Assign [.Name x px] e pos :: rest) σ led P :=
  ⟨fun s S => wpX_cons (wpX_Assign hp (h.run s _ _ S fun v s1 led1 hw S1 => by
    obtain ⟨av, l2, ha, U, r⟩ := hw
    exact S1.storeC hx hc U ha fun s2 S2 => r.run s2 S2))⟩
/-- a lambda made -/
theorem Rv.lam {c0 T0 : Addr} {params : Arguments} {body : PySem.Expr} {scope : Scope} {clos : List (Str × Addr)} {qual : Str} {pre post : Led} {ps : Array Value} {cds : List (Addr × Obj)} {Pq : Value → Led → Prop}
    (hq : C.env.qual ++ "<lambda>" = qual) (hccd : C.ccd = .ref c0) (hcode : codeHdIn (Hz.hd.heap_1 w.params) c0 T0 = true) (hdef : defaultsOf params C.env = ([], [])) (hcl : closureFor scope C.env = pure clos) (TS : TabSt qual ps cds)
    (h : ∀ f c' mn ctv ps' cds' oc vs t, TabSt qual ps' cds' → (c', oc) ∈ cds' → oc.data = .fields vs → vs[1]? = some (.str qual t) → Pq (.ref f) ((f, isO (kla_obj "<lambda>" qual params body scope clos mn c' ctv)) :: (pre ++ (TabL T0 ps' cds' ++ post)))) :
    Rv b C σ (pre ++ (TabL T0 ps cds ++ post)) (.Lambda params body scope pos) Pq := by
  refine ⟨fun s Q E S q => wpX_of (kla_eval hdef ?_)⟩
  rw [hq]
  obtain ⟨g, m, nw, V, F, G, N, R, D⟩ := S.has
  obtain ⟨n1, n2, rfl, R1, R2⟩ := ledR_app R
  obtain ⟨n3, n4, rfl, R3, R4⟩ := ledR_app R2
  match n3, R3 with
  | (_, _) :: n3, ⟨⟨rfl, rfl⟩, R3⟩ =>
    obtain rfl := ledR_ex R3
    have hne : (∀ p ∈ n1, p.1 ≠ T0) ∧ ∀ p ∈ n3 ++ n4, p.1 ≠ T0 := by
      simp only [List.map_append, List.map_cons, List.cons_append, List.nodup_append, List.nodup_cons, List.mem_cons, List.mem_map, List.mem_append] at D
      constructor
      · intro p hp e
        exact D.2.2 p.1 ⟨p, hp, rfl⟩ T0 (.inl rfl) e
      · intro p hp e
        rcases List.mem_append.mp hp with hp | hp
        · exact D.2.1.1 (.inl ⟨p, hp, e⟩)
        · exact D.2.1.1 (.inr ⟨p, hp, e⟩)
    cases hc : codeAmong pos ps.toList with
    | some v =>
      obtain ⟨a', oc, vs, t, rfl, hm, hd, hv⟩ := TS.2.1 pos v hc
      refine kla_hit F N V.T (codeHd_of_K V.X hcode) hccd (List.mem_append_right _ (.head _)) TS.1 hc hcl fun f ctv h' tk F' N' l1 => ?_
      exact q _ _ _ (h f a' _ ctv ps n3 oc vs t TS hm hd hv) (S.set V F' G N' (And.intro ⟨rfl, rfl⟩ R) (nodup_new l1 D))
    | none =>
      refine kla_nest F N V.T (codeHd_of_K V.X hcode) hccd (updF_pre hne.1 hne.2) TS.1 hc hcl fun f c' oc vs t ctv h' tk F' N' hd hv l1 l2 => ?_
      have D1 : (((f, kla_obj "<lambda>" qual params body scope clos ((C.mg "__name__").getD .none) c' ctv) :: (c', oc) :: (n1 ++ (T0, tabObj (ps ++ #[rawInt pos.line, rawInt pos.col, .ref c'])) :: (n3 ++ n4))).map (·.1)).Nodup := nodup_new (fun p hp => by
          rcases List.mem_cons.mp hp with rfl | hp
          · exact l2
          · have : p.1 ∈ (n1 ++ ((T0, tabObj ps) :: n3 ++ n4)).map (·.1) := by
              have := List.mem_map_of_mem (f := (·.1)) hp
              simpa using this
            obtain ⟨p', hp', e⟩ := List.mem_map.mp this
            exact e ▸ Nat.lt_trans (l1 p' hp') l2) (nodup_new (fun p hp => by
          have : p.1 ∈ (n1 ++ ((T0, tabObj ps) :: n3 ++ n4)).map (·.1) := by
            have := List.mem_map_of_mem (f := (·.1)) hp
            simpa using this
          obtain ⟨p', hp', e⟩ := List.mem_map.mp this
          exact e ▸ l1 p' hp') (by simpa using D))
      have pm := List.Perm.cons (f, kla_obj "<lambda>" qual params body scope clos ((C.mg "__name__").getD .none) c' ctv) (perm_new (a := (c', oc)) (b := (T0, tabObj (ps ++ #[rawInt pos.line, rawInt pos.col, .ref c']))) (pre := n1) (l := n3 ++ n4))
      refine q _ _ _ (h f c' _ ctv _ ((c', oc) :: n3) oc vs t (TS.add (pos := pos) hd hv) (.head _) hd hv) (S.set V F' G (fun p hp => N' p (pm.mem_iff.mpr hp)) (And.intro ⟨rfl, rfl⟩ (ledR_app' (ledR_app' (n1 := (T0, tabObj (ps ++ #[rawInt pos.line, rawInt pos.col, .ref c'])) :: (c', oc) :: n3) R4 tabL_R) R1)) ((pm.map _).nodup_iff.mp D1))
/-- a lambda's call that raises -/
theorem lam_cx {Cl : Addr} {msg : Str} {params : Arguments} {body : PySem.Expr} {scope : Scope} {clos : List (Str × Addr)} {qual : Str} {mn ctv : Value} {c' : Addr} {oc : Obj} {vs : Array Value} {tk : Tok} (hf : (f, isO (kla_obj "<lambda>" qual params body scope clos mn c' ctv)) ∈ led) (hc : (c', isO oc) ∈ led) (hd : oc.data = .fields vs) (hv : vs[1]? = some (.str qual tk))
    (hb : bindArgs (kla_fn "<lambda>" qual params body scope clos mn (.ref c') ctv) ⟨[], []⟩ = pure []) (hs : (!scope.isCoroutine && !scope.isGenerator && scope.kind == .function && scope.names.all (fun x => x.2 != .cell)) = true)
    (h : ∀ C' : Pl w scope, C'.tn = false → C'.cl = clos → C'.Room k → ∀ (s : Shared) (Q E : Value → Shared → Prop), St C' [] led s → (∀ e s', RO C' led Cl msg e s' → E (.ref e) s') → wpC C'.M C'.A (eval body C'.env) Q (EX false C' E) s) : CtXR (k + 1) w f led [] Cl msg := by
  simp only [Bool.and_eq_true, beq_iff_eq, Bool.not_eq_true', List.all_eq_true, bne_iff_ne] at hs
  obtain ⟨⟨⟨hco, hgen⟩, hk⟩, hcell⟩ := hs
  intro cs C σ vs' s Q E hr ha S q
  match vs', ha with
  | [], _ =>
  obtain ⟨g₀, m, nw, V, F, G, N, R, D⟩ := S.has
  obtain ⟨o1, hm1, rfl⟩ := ledR_mem R hf
  obtain ⟨o2, hm2, rfl⟩ := ledR_mem R hc
  have hroom : C.A.depth < recursionLimit := by
    show C.dp < recursionLimit
    have := hr.1; omega
  refine wpC_call (lam_code V.B F V.X N V.T rfl rfl C.hk hm1 (codeRec_news N hm2 hd hv) hroom hb (fun _ h => nomatch h) (fun g L' h₁ FG F' N' B' X' T' => ?_) hco hgen hk hcell)
  let C' : Pl w scope := { mean := C.mean, mg := C.mg, mb := C.mb, dp := C.dp + 1, un := C.un + 3, gd := C.gd, cn := qual, L := L', a := f, ccd := .ref c', cl := clos, outer := C.env :: C.outer, A₀ := C.A, base := C.base, h₀ := g, s₀ := s, hk := hk, X := X', T := T', B := B', tn := false, D := nofun }
  have hr' : C'.Room k := ⟨by have := hr.1; show C.dp + 1 + 2 * k < _; omega, by have := hr.2; show C.un + 3 + 16 * k < _; omega⟩
  refine h C' rfl rfl hr' _ _ (fun e s' => E e s') ⟨rfl, _, _, nw, C'.ground, F', (fun x av e => nomatch e), N', R, D⟩ fun e s' hx => ?_
  obtain ⟨his, dd, tk, tk', n, nw', R', U', Kp⟩ := hx
  exact q e s' ⟨by rw [his]; show ({ s with heap := s'.heap, toks := s'.toks } : Shared) = _; rw [S.is], g₀, g, m, dd, tk, tk', n, nw', V, FG, R', U', Kp⟩
end
end Np
end

section
namespace Np
open PySem PySem.W PySem.Spec PySem.Calls PyProof.Rows
example : (fun (_ : OpenLaw) (_ : Params → Frag) => True) PySem.Challenge.rw_np0200_01 Hz.hd.heap_1 := by
  k_fill
  trivial
section
variable {w : World} {cs : Scope} {C : Pl w cs} {σ σ' : Sto} {led led' : Led} {b : Bool} {k k' : Nat} {pos px : Pos} {rest : List Stmt} {P : Flow → Sto → Led → Prop} {e : PySem.Expr} {av : AV} {x : Str} {f D c : Addr}
/-- a def of two names and two cells entered, its ground may turn -/
theorem ctS_enter2 {name qual x1 x2 y1 y2 : Str} {params : Arguments} {body : List Stmt} {scope : Scope} {dV kV doc pm cdv ct oc : Value} {an od : Option Addr} {osl : Array (Option Value)} {f : Addr} {a1 a2 : AV} {post : Value → Led → Prop}
    (ho : (Hz.hd.heap_1 w.params).lookup f = some ⟨oc, od, .func (fnOf name qual params body scope dV kV doc pm an cdv ct), osl⟩) (hcd : codeIn (Hz.hd.heap_1 w.params) cdv qual = true) (hb : BindN (fnOf name qual params body scope dV kV doc pm an cdv ct) [] [] [x1, x2])
    (hs : (scope.names.lookup x1 == some .local && scope.names.lookup x2 == some .local && x1 != x2 && !scope.isCoroutine && !scope.isGenerator && scope.kind == .function && y1 != y2) = true) (hce : ∀ n, cellsFrom n scope.names [] = [(y1, n + 1), (y2, n)])
    (h : ∀ (C : Pl w scope) (c1 c2 : Addr), C.tn = true → C.cl = [(y1, c1), (y2, c2)] → C.cn = qual → C.ccd = cdv → C.Room k → let σ : Sto := [(x1, a1), (x2, a2)]; let P : Flow → Sto → Led → Prop := fun fl _ led' => post (retOf fl) led'; let l' := (c1, isCl0) :: (c2, isCl0) :: led; WS true C body σ l' P) : CtSR (k + 1) w f led [a1, a2] post := by
  simp only [Bool.and_eq_true, beq_iff_eq, Bool.not_eq_true', bne_iff_ne] at hs
  obtain ⟨⟨⟨⟨⟨⟨hl1, hl2⟩, hx⟩, hco⟩, hgen⟩, hk⟩, hy⟩ := hs
  intro cs C σ vs s Q E ht hr ha S q
  match vs, ha with
  | [v1, v2], ⟨ha1, ha2, _⟩ =>
  obtain ⟨g₀, m, nw, V, F, G, N, R, D⟩ := S.has
  obtain ⟨_, XB, TB⟩ := C.D ht
  have hbind : BindsTo s (fnOf name qual params body scope dV kV doc pm an cdv ct) ⟨[v1, v2], []⟩ [(x1, v1), (x2, v2)] := BindsTo.of_eq (hb v1 v2)
  have hroom : C.A.depth < recursionLimit := by
    show C.dp < recursionLimit
    have := hr.1; omega
  refine wpC_call (code_defTC V.B F V.X N V.T (V.turn ht).2 rfl rfl C.hk ho hcd hroom hbind (by simp [hl1, hl2]) (by rw [hce]; simp [hy]) (fun g L' h₁ tk cells FG F' N' Y' B' X' T' D' l1 => ?_) hco hgen hk)
  rw [hce] at Y'
  obtain ⟨o1, o2, rfl, hd1, hd2⟩ := CellsAre.two Y'
  let C' : Pl w scope := { mean := C.mean, mg := C.mg, mb := C.mb, dp := C.dp + 1, un := C.un + 3, gd := C.gd, cn := qual, L := L', a := f, ccd := cdv, cl := cellsFrom (L' + 1) scope.names [], outer := C.env :: C.outer, A₀ := C.A, base := C.base, h₀ := g, s₀ := s, hk := hk, X := X', T := T', B := B', tn := true, D := fun _ => ⟨D', XB, TB⟩ }
  have hr' : C'.Room k := ⟨by have := hr.1; show C.dp + 1 + 2 * k < _; omega, by have := hr.2; show C.un + 3 + 16 * k < _; omega⟩
  have hk1 : (envOfC qual scope L' f cdv).kindOf x1 = some .local := hl1
  have hk2 : (envOfC qual scope L' f cdv).kindOf x2 = some .local := hl2
  simp only [bindC, hk1, hk2, if_true] at hd1 hd2
  simp only [bindL, hk1, hk2, if_true] at F'
  refine wpC_mono ((h C' (L' + 1 + 1) (L' + 1) rfl (hce _) rfl rfl hr').run _ ⟨rfl, _, _, _, C'.ground, F', fun x av e => ?_, N', And.intro ⟨rfl, hd1⟩ (And.intro ⟨rfl, hd2⟩ R), ?_⟩) (fun fl s' hx => ?_) fun _ _ x => x
  · rw [List.lookup_cons] at e
    cases e1 : x == x1 with
    | true =>
      rw [e1] at e; cases e
      rw [beq_iff_eq] at e1
      exact ⟨v1, by show (if x = x2 then some v2 else if x = x1 then some v1 else none) = _; rw [if_neg (by rw [e1]; exact hx), if_pos e1], ha1⟩
    | false =>
      rw [e1] at e
      rw [List.lookup_cons] at e
      cases e2 : x == x2 with
      | true =>
        rw [e2] at e; cases e
        rw [beq_iff_eq] at e2
        exact ⟨v2, if_pos e2, ha2⟩
      | false => rw [e2] at e; cases e
  · refine nodup_new (fun p hp => ?_) (nodup_new (fun p hp => Nat.lt_succ_of_lt (l1 p hp)) D)
    rcases List.mem_cons.mp hp with rfl | hp
    · exact Nat.lt_succ_self _
    · exact Nat.lt_succ_of_lt (Nat.lt_succ_of_lt (l1 p hp))
  · obtain ⟨σ', led', S', hp⟩ := hx
    have := leaveT_ (E := E) (Q := Q) (C' := C') ht V G S.is rfl rfl rfl rfl rfl S' fun s' S2 => q _ s' led' hp S2
    cases fl <;> exact this
end
end Np
end

section
namespace Np
open PySem PySem.W PySem.Spec PySem.Calls PyProof.Rows PySem.SeqAt
/-- two such values are equal -/
def EqS (a : AV) : Prop := ∀ (A : Around) (s : Shared) (u v : Value), a u → a v → EqAt A s u v true
theorem eqsI {i : Int} : EqS (isI i) := by rintro A s _ _ ⟨t, rfl⟩ ⟨t', rfl⟩; exact eqAt_int
theorem eqsB {l : List UInt8} : EqS (isB l) := by rintro A s _ _ ⟨t, rfl⟩ ⟨t', rfl⟩; exact eqAt_bytes
theorem eqsS {x : Str} : EqS (isS x) := by rintro A s _ _ ⟨t, rfl⟩ ⟨t', rfl⟩; exact eqAt_str
section
variable {w : World} {cs : Scope} {C : Pl w cs} {σ σ' : Sto} {led led' : Led} {b : Bool} {k k' : Nat} {pos px : Pos} {rest : List Stmt} {P : Flow → Sto → Led → Prop} {R : Led → Prop} {Pq : Value → Led → Prop} {e l r : PySem.Expr} {av : AV} {x : Str} {f D : Addr}
/-- `e` tried there tells `c`, whatever it changes -/
structure Tsv (C : Pl w cs) (σ : Sto) (led : Led) (e : PySem.Expr) (c : Bool) (R : Led → Prop) : Prop where
  run : ∀ (s : Shared) (Q : Bool → Shared → Prop) (E : Value → Shared → Prop), St C σ led s → (∀ s' led', R led' → St C σ led' s' → Q c s') → wpC C.M C.A (isTrue e C.env (eval e C.env)) Q E s
theorem Tsv.or (h1 : Tsv C σ led l false fun led' => Tsv C σ led' r false R) : Tsv C σ led (.BoolOp .Or [l, r] pos) false R :=
  ⟨fun s Q E S q => isTrue_OrC (h1.run s _ _ S fun s1 led1 h2 S1 => by rw [if_neg (by decide)]; exact h2.run s1 _ _ S1 q)⟩
theorem Tsv.not (h : Tsv C σ led e true R) : Tsv C σ led (.UnaryOp .Not e pos) false R := ⟨fun s Q E S q => isTrue_NotC (h.run s _ _ S fun s1 led1 h2 S1 => q s1 led1 h2 S1)⟩
theorem Tsv.call {fn : PySem.Expr} {es : List PySem.Expr} {c : Bool} (h : Rv true C σ led (.Call fn es [] pos) fun v led' => v = .bool c ∧ R led') : Tsv C σ led (.Call fn es [] pos) c R :=
  ⟨fun s Q E S q => isTrue_CallC (h.run s _ _ S fun v s1 led1 hv S1 => by rw [hv.1]; exact wpAny_truthy_bool (q s1 led1 hv.2 S1))⟩
theorem Tsv.neB {y : List UInt8} (h : Rv true C σ led l fun v led' => isB y v ∧ Ev C σ led' r (isB y) ∧ R led') (hm : behindInMarks .NotEq r = false) : Tsv C σ led (.Compare l [.NotEq] [r] pos) false R := by
  refine ⟨fun s Q E S q => wpC_isTrue_Compare1 (h.run s _ _ S fun v s1 led1 hv S1 => wpC_of (hv.2.1.run s1 _ _ S1 fun u s2 hu S2 => ?_)) hm⟩
  obtain ⟨⟨t, rfl⟩, _, hR⟩ := hv
  obtain ⟨t', rfl⟩ := hu
  refine ne_L (wpAny_truthy_bool ?_)
  have := q s2 led1 hR S2
  simpa using this
/-- two tuples that are told equal -/
def PairP (C : Pl w cs) (σ : Sto) (r : PySem.Expr) (R : Led → Prop) (v : Value) (led1 : Led) : Prop := ∃ r1 a b, v = .ref r1 ∧ EqS a ∧ EqS b ∧ Rv true C σ led1 r fun v' led2 => ∃ r2, v' = .ref r2 ∧ (r1, isTup [a, b]) ∈ led2 ∧ (r2, isTup [a, b]) ∈ led2 ∧ R led2
theorem tup2_at {s : Shared} {r1 : Addr} {a1 a2 : AV} (S : St C σ led s) (hm : (r1, isTup [a1, a2]) ∈ led) : ∃ x y, a1 x ∧ a2 y ∧ s.heap.IsTuple r1 #[x, y] := by
  obtain ⟨g, m, nw, V, F, G, N, R, D⟩ := S.has
  obtain ⟨o, ho, vs, rfl, hv⟩ := ledR_mem R hm
  match vs, hv with
  | [x, y], ⟨h1, h2, _⟩ => exact ⟨x, y, h1, h2, N.isTup ho⟩
theorem Tsv.neT (hr : C.Room 1) (h : Rv true C σ led l (PairP C σ r R)) (hm : behindInMarks .NotEq r = false) : Tsv C σ led (.Compare l [.NotEq] [r] pos) false R := by
  refine ⟨fun s Q E S q => wpC_isTrue_Compare1 (h.run s _ _ S fun v s1 led1 hv S1 => ?_) hm⟩
  obtain ⟨r1, a1, a2, rfl, e1, e2, hr2⟩ := hv
  refine hr2.run s1 _ _ S1 fun v' s2 led2 hv S2 => ?_
  obtain ⟨r2, rfl, m1, m2, hR⟩ := hv
  obtain ⟨x, y, hx, hy, t1⟩ := tup2_at S2 m1
  obtain ⟨x', y', hx', hy', t2⟩ := tup2_at S2 m2
  exact tup_ne t1 t2 (by have := hr.2; show C.un < cLine; omega) (e1 _ _ _ _ hx hx') (e2 _ _ _ _ hy hy') (wpAny_truthy_bool (q s2 led2 hR S2))
theorem Rv.eqT (hr : C.Room 1) (h : Rv true C σ led l (PairP C σ r (Pq (.bool true)))) (hm : behindInMarks .Eq r = false) : Rv true C σ led (.Compare l [.Eq] [r] pos) Pq := by
  refine ⟨fun s Q E S q => wpC_Compare1 (h.run s _ _ S fun v s1 led1 hv S1 => ?_) hm⟩
  obtain ⟨r1, a1, a2, rfl, e1, e2, hr2⟩ := hv
  refine hr2.run s1 _ _ S1 fun v' s2 led2 hv S2 => ?_
  obtain ⟨r2, rfl, m1, m2, hR⟩ := hv
  obtain ⟨x, y, hx, hy, t1⟩ := tup2_at S2 m1
  obtain ⟨x', y', hx', hy', t2⟩ := tup2_at S2 m2
  exact tup_eq t1 t2 (by have := hr.2; show C.un < cLine; omega) (e1 _ _ _ _ hx hx') (e2 _ _ _ _ hy hy') (q _ s2 led2 hR S2)
theorem WS.ifV {t : PySem.Expr} {body : List Stmt} (h : Tsv C σ led t false fun led' => WS true C rest σ led' P) : WS true C (.If t body [] pos :: rest) σ led P :=
  ⟨fun s S => wpX_cons (b := true) (wpC_IfC (h.run s _ _ S fun s1 led1 h2 S1 => by
    rw [if_neg (by decide)]
    exact wpC_execs_nil (h2.run s1 S1)))⟩
theorem Rv.or {p : Prop} (h1 : Ev C σ led l fun v => ∃ c : Bool, v = .bool c ∧ (c = true ↔ p)) (h2 : p → Pq (.bool true) led) (h3 : ¬ p → Rv true C σ led r Pq) : Rv true C σ led (.BoolOp .Or [l, r] pos) Pq := by
  refine ⟨fun s Q E S q => BoolOp_orC (h1.run s _ _ S fun v s1 hv S1 => ?_)⟩
  obtain ⟨c, rfl, hc⟩ := hv
  refine wpAny_truthy_bool ?_
  cases c with
  | true => exact q _ s1 led (h2 (hc.mp rfl)) S1
  | false => exact (h3 fun e => absurd (hc.mpr e) (by decide)).run s1 Q E S1 q
theorem Ev.beq {y z : List UInt8} (h1 : Ev C σ led l (isB y)) (h2 : Ev C σ led r (isB z)) (hm : behindInMarks .Eq r = false) : Ev C σ led (.Compare l [.Eq] [r] pos) fun v => ∃ c : Bool, v = .bool c ∧ (c = true ↔ y = z) := by
  refine ⟨fun s Q E S q => wpAny_Compare1 (h1.run s _ E S fun u s1 ha S1 => h2.run s1 _ E S1 fun v s2 hb S2 => ?_) hm⟩
  obtain ⟨t, rfl⟩ := ha
  obtain ⟨t', rfl⟩ := hb
  exact eq_L (q _ s2 ⟨_, rfl, decide_eq_true_iff⟩ S2)
theorem Rv.sub0 {kk : Nat} {p : Pos} (h : Rv true C σ led e fun v led' => ∃ r a1 a2, v = .ref r ∧ (r, isTup [a1, a2]) ∈ led' ∧ ∀ u, a1 u → Pq u led') (hs : ∀ o i', subscripted (.Constant (.int 0) kk p) false o i' = operate [o, i'] (getItem o i')) : Rv true C σ led (.Subscript e (.Constant (.int 0) kk p) pos) Pq := by
  refine ⟨fun s Q E S q => SubscriptC (h.run s _ _ S fun v s1 led1 hv S1 => wpAny_Constant_int ?_)⟩
  obtain ⟨r1, a1, a2, rfl, hm, hP⟩ := hv
  obtain ⟨x, y, hx, hy, t1⟩ := tup2_at S1 hm
  exact item_tupleT (l := [x, y]) (j := 0) t1 (by decide) (by decide) rfl rfl (q x _ led1 (hP x hx) S1.toks) (hs _ _)
theorem Rv.eqStr {y : Str} (h : Rv true C σ led l fun v led' => isS y v ∧ Ev C σ led' r (isS y) ∧ Pq (.bool true) led') (hm : behindInMarks .Eq r = false) : Rv true C σ led (.Compare l [.Eq] [r] pos) Pq := by
  refine ⟨fun s Q E S q => wpC_Compare1 (h.run s _ _ S fun v s1 led1 hv S1 => wpC_of (hv.2.1.run s1 _ _ S1 fun u s2 hu S2 => ?_)) hm⟩
  obtain ⟨⟨t, rfl⟩, _, hR⟩ := hv
  obtain ⟨t', rfl⟩ := hu
  exact eq_str (by rw [beq_self_eq_true]; exact q _ s2 led1 hR S2)
theorem Rv.callS {es : List PySem.Expr} (ht : C.tn = true) (fn : Fn w x f) (hx : cs.names.lookup x = some .globalImplicit) (hr : C.Room k) (hp : (e :: es).all plainE = true) (he : Evd C σ led (e :: es) fun avs l1 => ∃ (k' : Nat) (post : Value → Led → Prop), CtSR k' w f l1 avs post ∧ Nat.ble k' k = true ∧ ∀ v l2, post v l2 → Pq v l2) : Rv true C σ led (.Call (.Name x px) (e :: es) [] pos) Pq := by
  refine ⟨fun s Q E S q => wpX_callK (b := true) C.X fn.keep hp ((Ev.glo hx fn.glo (av := isV (.ref f)) rfl fn.plain).run s _ E S fun u s1 ha S1 => ⟨ha, he.run pos s1 _ E S1 fun vs s2 avs l1 hb hct S2 => ?_⟩)⟩
  obtain ⟨k', post, ct, hl, hi⟩ := hct
  obtain ⟨g, m, nw, V, F, G, N, R, D⟩ := S2.has
  exact ⟨V.X.keeps F.keep, ct C σ vs s2 Q E ht (hr.le (Nat.le_of_ble_eq_true hl)) hb S2 fun v s' led' hv S' => q v s' led' (hi v led' hv) S'⟩
end
end Np
namespace Np
open PySem PySem.W PySem.Spec PySem.Calls PyProof.Rows
theorem LUpd.app {D : Addr} {P P' : Obj → Prop} {l l' : Led} (h : LUpd D P P' l l') : ∀ pre : Led, LUpd D P P' (pre ++ l) (pre ++ l')
  | [] => h
  | _ :: pre => .tail (h.app pre)
theorem Rv.led_eq {w : World} {cs : Scope} {C : Pl w cs} {σ : Sto} {led led' : Led} {b : Bool} {e : PySem.Expr} {P : Value → Led → Prop} (q : led = led') (h : Rv b C σ led' e P) : Rv b C σ led e P := q ▸ h
end Np
end

section
namespace Np
open PySem PySem.W PySem.Spec PySem.Calls PyProof.Rows
/-- one's own objects, each told once -/
theorem news_dedup {g h : Heap} {L : Addr} : ∀ {news : List (Addr × Obj)}, News g L h news → ∃ nd : List (Addr × Obj), (∀ p, p ∈ nd ↔ p ∈ news) ∧ (nd.map (·.1)).Nodup := by
  intro news
  induction news with
  | nil => exact fun _ => ⟨[], fun p => Iff.rfl, List.nodup_nil⟩
  | cons q news ih =>
    intro N
    obtain ⟨nd, h1, h2⟩ := ih fun p hp => N p (.tail _ hp)
    by_cases hq : q.1 ∈ nd.map (·.1)
    · refine ⟨nd, fun p => ?_, h2⟩
      rw [List.mem_cons, ← h1]
      constructor
      · exact .inr
      · rintro (rfl | hp)
        · obtain ⟨p', hp', e⟩ := List.mem_map.mp hq
          have a := (N p' (.tail _ ((h1 p').mp hp'))).1
          have b := (N p (.head _)).1
          rw [e, b] at a
          have : p' = p := Prod.ext e (Option.some.inj a).symm
          exact this ▸ hp'
        · exact hp
    · refine ⟨q :: nd, fun p => by rw [List.mem_cons, List.mem_cons, h1], ?_⟩
      rw [List.map_cons, List.nodup_cons]
      exact ⟨hq, h2⟩
/-- a contract in the old form: for the calls inside a comprehension -/
def CtO (k : Nat) (w : World) (f : Addr) (avs : List AV) (av : AV) : Prop := ∀ {mean : ExcName → Option Value} {mg mb : Str → Option Value} {dp un : Nat} {gd : Option (List Code)} {cn : Str} {cs : Scope} {a : Addr} {ccd : Value} {cl : List (Str × Addr)} {outer : List Env} {A₀ : Around} {base h₀ : Heap} {L : Addr} {m : Str → Option Value} {s : Shared} {Q E : Value → Shared → Prop} {news : List (Addr × Obj)} {vs : List Value}, AllOf avs vs →
    Below A₀ base outer h₀ → Fr h₀ L s.heap m → (Hz.hd.heap_1 w.params).In h₀ → News h₀ L s.heap news → Top topProg looseN mean mg mb h₀ → cs.kind = .function →
    dp + 2 * k < recursionLimit → un + 16 * k < cLine →
    (∀ v h' tk', av v → Fr h₀ L h' m → News h₀ L h' news → Q v { s with heap := h', toks := tk' }) →
    wpAny (model PySem.Challenge.rw_np0200_01.row.prog w) (ktrTop dp un gd cn cs L a ccd cl outer) (call (.ref f) vs) Q E s
theorem ctO_enter {w : World} {k : Nat} {f : Addr} {avs : List AV} {av : AV} {name qual : Str} {params : Arguments} {body : List Stmt} {scope : Scope} {dV kV doc pm cdv ct oc : Value} {an od : Option Addr} {osl : Array (Option Value)}
    (ho : (Hz.hd.heap_1 w.params).lookup f = some ⟨oc, od, .func (fnOf name qual params body scope dV kV doc pm an cdv ct), osl⟩) (hcd : codeIn (Hz.hd.heap_1 w.params) cdv qual = true) (hb : BindN (fnOf name qual params body scope dV kV doc pm an cdv ct) [] [] (params.args.map (·.arg)))
    (hs : (params.args.length == avs.length && (params.args.map (·.arg)).all (fun x => scope.names.lookup x == some .local) && decide (params.args.map (·.arg)).Nodup && !scope.isCoroutine && !scope.isGenerator && scope.kind == .function && scope.names.all (fun x => x.2 != .cell)) = true)
    (h : ∀ (led : Led) (C : Pl w scope), C.Room k → let σ := (params.args.map (·.arg)).zip avs; let P : Flow → Sto → Led → Prop := fun fl _ led' => av (retOf fl) ∧ led' = led; WS false C body σ led P) : CtO (k + 1) w f avs av := by
  rw [show params.args.length = (params.args.map (·.arg)).length from (List.length_map ..).symm] at hs
  generalize params.args.map (·.arg) = names at hb hs h
  simp only [Bool.and_eq_true, beq_iff_eq, decide_eq_true_eq, Bool.not_eq_true', List.all_eq_true, bne_iff_ne] at hs
  obtain ⟨⟨⟨⟨⟨⟨hl, hloc⟩, hnd⟩, hco⟩, hgen⟩, hk⟩, hcell⟩ := hs
  intro mean mg mb dp un gd cn cs a ccd cl outer A₀ base h₀ L m s Q E news vs ha B F X N T hkc hd hu q
  obtain ⟨nd, h1, h2⟩ := news_dedup N
  have Nd : News h₀ L s.heap nd := fun p hp => N p ((h1 p).mp hp)
  have hvl : vs.length = names.length := ha.length.trans hl.symm
  have hbind : BindsTo s (fnOf name qual params body scope dV kV doc pm an cdv ct) ⟨vs, []⟩ (names.zip vs) := BindsTo.of_eq (by simpa using hb.get vs hvl)
  have hmap : (names.zip vs).map (·.1) = names := List.map_fst_zip (Nat.le_of_eq hvl.symm)
  have hloc' : ∀ y ∈ names.zip vs, scope.names.lookup y.1 = some .local := fun y hy => hloc _ (hmap ▸ List.mem_map_of_mem hy)
  have hroom : (ktrTop dp un gd cn cs L a ccd cl outer).depth < recursionLimit := by
    show dp < recursionLimit
    omega
  refine wpAny_call (code_def0 B F X Nd T rfl rfl hkc ho hcd hroom hbind hloc' (fun g L' h₁ _ F' N' B' X' T' => ?_) hco hgen hk hcell)
  let C' : Pl w scope := { mean := mean, mg := mg, mb := mb, dp := dp + 1, un := un + 3, gd := gd, cn := qual, L := L', a := f, ccd := cdv, cl := [], outer := envX cn cs L a ccd cl :: outer, A₀ := ktrTop dp un gd cn cs L a ccd cl outer, base := base, h₀ := g, s₀ := s, hk := hk, X := X', T := T', B := B', tn := false, D := nofun }
  have hr' : C'.Room k := ⟨by show dp + 1 + 2 * k < _; omega, by show un + 3 + 16 * k < _; omega⟩
  refine wpAny_mono ((h (nd.map fun p => (p.1, isO p.2)) C' hr').run _ ⟨rfl, _, _, nd, C'.ground, F', fun x av e => ?_, N', ledR_ex', h2⟩) (fun fl s' hx => ?_) fun _ _ x => x.elim
  · obtain ⟨v, hv, ha'⟩ := zip_lookup ha e
    exact ⟨v, (rev_lookup (by rw [hmap]; exact hnd) x).trans hv, ha'⟩
  · obtain ⟨σ', led', S', hav, rfl⟩ := hx
    obtain ⟨his, g2, m', nw', V2, F2, G2, N2, R2, D2⟩ := S'
    obtain rfl := V2.same rfl
    obtain rfl := ledR_ex R2
    refine leaveK_ F2 N2 fun F3 N3 => ?_
    refine (fun h : Q (retOf fl) s' => by cases fl <;> exact h) ?_
    have e : s' = { s with heap := s'.heap, toks := s'.toks } := his
    rw [e]
    exact q _ _ _ hav F3 fun p hp => N3 p ((h1 p).mpr hp)
end Np
end

section
namespace Np
open PySem PySem.W PySem.Spec PySem.Calls PyProof.Rows
theorem ints_all : ∀ {vs : List Value} {ns : List Int}, IntsAre vs ns → AllOf (ns.map isI) vs
  | _, _, .nil => trivial
  | _, _, .cons n t h => And.intro ⟨t, rfl⟩ (ints_all h)
section
variable {w : World} {cs : Scope} {C : Pl w cs} {σ σ' : Sto} {led led' : Led} {b : Bool} {k k' : Nat} {pos px : Pos} {rest : List Stmt} {Pq : Value → Led → Prop} {e l r : PySem.Expr} {av : AV} {x : Str} {f D : Addr}
/-- an item of a list that is written there, its place found by changing things -/
theorem Rv.idx {fs : List PySem.Expr} {avs : List AV} {i : PySem.Expr} {p1 p2 : Pos} (hf : Evs C σ led fs avs) (hz : Nat.ble avs.length 100 = true) (hs : ∀ o i', subscripted i false o i' = operate [o, i'] (getItem o i'))
    (hi : ∀ r, Rv false C σ ((r, isLst avs) :: led) i fun v l => ∃ (j : Int) (av : AV) (l' : Led), isI j v ∧ 0 ≤ j ∧ j < 1000 ∧ avs[j.toNat]? = some av ∧ (r, isLst avs) ∈ l ∧ Le l l' ∧ ∀ u, av u → Pq u l') : Rv b C σ led (.Subscript (.List fs p1) i p2) Pq := by
  refine ⟨fun s Q E S q' => wpX_of (Subscript_ (List_ (hf.run p1 s _ E S fun vs s1 ha S1 => ?_)))⟩
  refine wpAny_newObj_type (T := "list") (((hi _).run _ _ E (S1.push (R := isLst avs) ⟨vs, 0, rfl, ha⟩ rfl) fun v s2 l2 hv S2 => ?_)) ?_
  · obtain ⟨j, av, l', ⟨t, rfl⟩, h0, h1, hj, hm, hle, hP⟩ := hv
    obtain ⟨g, m, nw, V, F, G, N, R, D⟩ := S2.has
    obtain ⟨o, ho, vs', n, rfl, ha'⟩ := ledR_mem R hm
    obtain ⟨v, hv, hav⟩ := allOf_at ha' hj
    exact item_litK (N.isList ho) h0 (by omega) hv (q' v _ l' (hP v hav) (S2.weak (Sub.refl _) hle)) (hs _ _)
  · show vs.toArray.size ≤ sizeLine
    rw [List.size_toArray, ha.length, sizeLine_eq]
    have := Nat.le_of_ble_eq_true hz
    omega
theorem Ev.neg {i : Int} (h : Ev C σ led e (isI i)) : Ev C σ led (.UnaryOp .USub e pos) (isI (-i)) :=
  ⟨fun s Q E S q => wpAny_UnaryOp (h.run s _ E S fun v s1 hv S1 => by obtain ⟨t, rfl⟩ := hv; exact PySem.P.neg_int (q _ _ ⟨_, rfl⟩ S1.toks))⟩
/-- `x[:n]` of the argument -/
theorem Rv.sliceUp {x : Str} {p p3 p4 : Pos} {kk : Nat} {vs : List Value} {ns : List Int} {Sa : Addr} (h1 : Ev C σ led (.Name x p) (isV (.ref Sa))) (hL : ∀ g, Ground C g → g.IsList Sa vs.toArray) (hI : IntsAre vs ns) (hz : vs.toArray.size ≤ sizeLine) (h : ∀ r, Pq (.ref r) ((r, isLst ((ns.take 63).map isI)) :: led)) : Rv b C σ led (.Subscript (.Name x p) (.Slice none (some (.Constant (.int 63) kk p3)) none p4) pos) Pq := by
  refine ⟨fun s Q E S q => wpX_of (Subscript_ (h1.run s _ E S fun u s1 ha S1 => wpAny_Slice (wpAny_pure ((Ev.int (k := kk) (pos := p3)).run s1 _ E S1 fun v s2 hv S2 => wpAny_pure ?_))))⟩
  obtain rfl := ha
  obtain ⟨t, rfl⟩ := hv
  obtain ⟨g, m, nw, V, F, G, N, R, D⟩ := S2.has
  refine kmk_slice_ints (s := s2) (hi := some 63) (lo := none) F N (Fr.lst F (hL g V)) IsPart.none (IsPart.int _ _) hI (kmk_upto hI (by decide)) rfl (fun D' ws h' F' N' l1 hI2 _ _ => ?_) rfl (fun _ => rfl) hz
  exact q _ _ _ (h D') (S2.set (k := s2.toks) V F' G N' (And.intro ⟨rfl, ws, 0, rfl, ints_all hI2⟩ R) (nodup_new l1 D))
end
/-- the law's own text, run from the caller -/
theorem law_run {w : World} {scope : Scope} {name : Str} {body : List Stmt} {mean : ExcName → Option Value} {mg mb : Str → Option Value} {g h₁ : Heap} {L fa : Addr} {cd : Value} {m : Str → Option Value} {nw : List (Addr × Obj)} {s₁ : Shared} {tk : Nat} {Sa : Addr} {vs : List Value} {led : Led} {Q : Flow → Shared → Prop} (P : Flow → Sto → Led → Prop) (hk : scope.kind = .function) (F : Fr g L h₁ m) (N : News g L h₁ nw) (B : Below callerA g [] g) (X : (Hz.hd.heap_1 w.params).In g) (T : Top topProg looseN mean mg mb g) (hL : g.IsList Sa vs.toArray) (G : Ag [("script", isV (.ref Sa))] m) (R : LedR led nw) (D : (nw.map (·.1)).Nodup)
    (h : ∀ C : Pl w scope, C.tn = true → C.cl = cellsFrom (L + 1) scope.names [] → C.cn = name → C.ccd = cd → C.Room 20 → (∀ g', Ground C g' → KtsTurn [] g g') → WS true C body [("script", isV (.ref Sa))] led P)
    (q : ∀ fl σ' led' s' g' m' nw', P fl σ' led' → s' = { s₁ with heap := s'.heap, toks := s'.toks } → KtsTurn [] g g' → Fr g' L s'.heap m' → News g' L s'.heap nw' → LedR led' nw' → Q fl s') :
    wpC (model PySem.Challenge.rw_np0200_01.row.prog w) (callerA.deeper (envOfC name scope L fa cd)) (execs body (envOfC name scope L fa cd)) Q (fun _ _ => False) { s₁ with heap := h₁, toks := tk } := by
  let C : Pl w scope := { mean := mean, mg := mg, mb := mb, dp := (callerA.deeper (envOfC name scope L fa cd)).depth, un := (callerA.deeper (envOfC name scope L fa cd)).units, gd := (callerA.deeper (envOfC name scope L fa cd)).guards, cn := name, L := L, a := fa, ccd := cd, cl := cellsFrom (L + 1) scope.names [], outer := [], A₀ := callerA, base := g, h₀ := g, s₀ := s₁, hk := hk, X := X, T := T, B := B, tn := true, D := fun _ => ⟨(fun _ h => nomatch h), X, T⟩ }
  refine wpC_mono ((h C rfl rfl rfl rfl ⟨by show 1 + claimMargin + 1 + 2 * 20 < recursionLimit; decide, by show 4 + 3 + 16 * 20 < cLine; decide⟩ fun g' V => (V.turn rfl).1).run _ ⟨rfl, g, m, nw, C.ground, F, G, N, R, D⟩) (fun fl s' hx => ?_) fun _ _ x => x
  obtain ⟨σ', led', ⟨his, g', m', nw', V, F', G', N', R', D'⟩, hP⟩ := hx
  exact q fl σ' led' s' g' m' nw' hP his (V.turn rfl).1 F' N' R'
theorem ledR_perm {l l' : Led} (p : l.Perm l') : ∀ {nw : List (Addr × Obj)}, LedR l nw → ∃ nw', LedR l' nw' ∧ nw.Perm nw' := by
  induction p with
  | nil => exact fun {nw} h => ⟨nw, h, .refl _⟩
  | cons a p ih =>
    intro nw h
    cases nw with
    | nil => exact h.elim
    | cons q r =>
      obtain ⟨nw', h1, h2⟩ := ih h.2
      exact ⟨q :: nw', And.intro h.1 h1, .cons _ h2⟩
  | swap a b l =>
    intro nw h
    cases nw with
    | nil => exact h.elim
    | cons q r => cases r with
      | nil => exact h.2.elim
      | cons q2 r => exact ⟨q2 :: q :: r, And.intro h.2.1 (And.intro h.1 h.2.2), .swap _ _ _⟩
  | trans p1 p2 i1 i2 =>
    intro nw h
    obtain ⟨n1, h1, q1⟩ := i1 h
    obtain ⟨n2, h2, q2⟩ := i2 h1
    exact ⟨n2, h2, q1.trans q2⟩
theorem WS.perm {w : World} {cs : Scope} {C : Pl w cs} {σ : Sto} {led led' : Led} {b : Bool} {ss : List Stmt} {P : Flow → Sto → Led → Prop} (p : led.Perm led') (h : WS b C ss σ led' P) : WS b C ss σ led P := ⟨fun s S => h.run s ⟨S.is, by
  obtain ⟨g, m, nw, V, F, G, N, R, D⟩ := S.has
  obtain ⟨nw', R', q⟩ := ledR_perm p R
  exact ⟨g, m, nw', V, F, G, fun x hx => N x (q.mem_iff.mpr hx), R', (q.map _).nodup_iff.mp D⟩⟩⟩
end Np
end

section
namespace Np
open PySem PySem.W PySem.Spec PySem.Calls PyProof.Rows
section
variable {w : World} {cs : Scope} {C : Pl w cs} {σ σ' : Sto} {led led' : Led} {k k' : Nat} {pos px : Pos} {rest : List Stmt} {Pq : Value → Led → Prop} {e l r : PySem.Expr} {av : AV} {x : Str} {f D : Addr}
theorem Rv.of (h : Rv false C σ led e Pq) : Rv true C σ led e Pq := ⟨fun s Q E S q => wpC_of (h.run s Q E S q)⟩
theorem Rv.and {rs : List PySem.Expr} (h1 : Rv false C σ led l fun v led' => v = .bool true ∧ Rv false C σ led' (.BoolOp .And (r :: rs) pos) Pq) : Rv false C σ led (.BoolOp .And (l :: r :: rs) pos) Pq :=
  ⟨fun s Q E S q => BoolOp_and (h1.run s _ E S fun v s1 led1 hv S1 => by rw [hv.1]; exact wpAny_truthy_bool (by rw [if_pos rfl]; exact hv.2.run s1 Q E S1 q))⟩
theorem Rv.and1 (h : Rv false C σ led e Pq) : Rv false C σ led (.BoolOp .And [e] pos) Pq := ⟨fun s Q E S q => BoolOp_one (h.run s Q E S q)⟩
theorem Rv.eqI {y : Int} (h1 : Ev C σ led l (isI y)) (h2 : Ev C σ led r (isI y)) (hm : behindInMarks .Eq r = false) (h : Pq (.bool true) led) : Rv false C σ led (.Compare l [.Eq] [r] pos) Pq := by
  refine ⟨fun s Q E S q => wpAny_Compare1 (h1.run s _ E S fun u s1 ha S1 => h2.run s1 _ E S1 fun v s2 hb S2 => ?_) hm⟩
  obtain ⟨t, rfl⟩ := ha
  obtain ⟨t', rfl⟩ := hb
  exact eq_int (by rw [beq_self_eq_true]; exact q _ s2 led h S2)
theorem Rv.isNone {kk : Nat} {p : Pos} (h1 : Rv false C σ led l fun v led1 => v = .none ∧ Pq (.bool true) led1) (hm : behindInMarks .Is (.Constant .none kk p) = false) : Rv false C σ led (.Compare l [.Is] [.Constant .none kk p] pos) Pq :=
  ⟨fun s Q E S q => wpAny_Compare1 (h1.run s _ E S fun u s1 led1 ha S1 => Ev.none.run s1 _ E S1 fun v s2 hb S2 => by rw [ha.1, show v = Value.none from hb]; exact is_none_none (q _ s2 led1 ha.2 S2)) hm⟩
theorem isList_of {s : Shared} {avs : List AV} (S : St C σ led s) (hm : (D, isLst avs) ∈ led) : ∃ vs : List Value, AllOf avs vs ∧ s.heap.IsList D vs.toArray := by
  obtain ⟨g, m, nw, V, F, G, N, R, _⟩ := S.has
  obtain ⟨o, ho, vs, n, rfl, hv⟩ := ledR_mem R hm
  exact ⟨vs, hv, N.isList ho⟩
theorem comp_lt {k n i : Nat} (h : k + 1 = n - i) : i < n := Nat.lt_of_sub_pos (h ▸ Nat.succ_pos k)
theorem comp_next {k n i : Nat} (h : k + 1 = n - i) : k = n - (i + 1) := by rw [Nat.sub_add_eq, ← h]; rfl
theorem comp_all {n i : Nat} (h : 0 = n - i) : n ≤ i := Nat.le_of_sub_eq_zero h.symm
theorem few_size {n : Nat} (h : n ≤ 1000) : n ≤ 16777216 := Nat.le_trans h (by decide)
theorem Rv.eqL {ns : List Int} (hr : C.Room 5) (h : Rv false C σ led l fun v led1 => ∃ r1, v = .ref r1 ∧ Rv false C σ led1 r fun v' led2 => ∃ r2, v' = .ref r2 ∧ (r1, isLst (ns.map isI)) ∈ led2 ∧ (r2, isLst (ns.map isI)) ∈ led2 ∧ Pq (.bool true) led2) (hm : behindInMarks .Eq r = false) : Rv false C σ led (.Compare l [.Eq] [r] pos) Pq := by
  refine ⟨fun s Q E S q => wpAny_Compare1 (h.run s _ _ S fun v s1 led1 hv S1 => ?_) hm⟩
  obtain ⟨r1, rfl, hr2⟩ := hv
  refine hr2.run s1 _ _ S1 fun v' s2 led2 hv S2 => ?_
  obtain ⟨r2, rfl, m1, m2, hR⟩ := hv
  obtain ⟨v1, a1, t1⟩ := isList_of S2 m1
  obtain ⟨v2, a2, t2⟩ := isList_of S2 m2
  refine ke_eq_ints t1 t2 (ints_are a1) (ints_are a2) (by have := hr.2; show C.un + 64 < cLine; omega) ?_
  rw [decide_eq_true rfl]
  exact q _ s2 led2 hR S2
/-- `[f(x) for x in y]` -/
theorem Rv.comp {fnm y : Str} {p1 p2 p3 py : Pos} {scope : Scope} {cl : List (Str × Addr)} {xs : List Str} {ys : List Int}
    (hfn : Fn w fnm f) (hy : cs.names.lookup y = some .local) (hv : σ.lookup y = some (isV (.ref D))) (hdy : (y == ("__debug__" : Str)) = false) (hm : (D, isLst (xs.map isS)) ∈ led) (hr : C.Room 2)
    (hclos : closureFor scope C.env = pure cl) (hcell : ∀ y ∈ scope.names, y.2 ≠ .cell) (hkind : scope.kind = .function) (hnames : ∀ y ∈ scope.names, y.2 = .local → scope.names.lookup y.1 = some .local) (hx : scope.names.lookup x = some .local)
    (hk1 : ∀ c, (compEnvC scope cl c C.env).kindOf x = some .local) (hk2 : ∀ c, (compEnvC scope cl c C.env).kindOf fnm = some .globalImplicit) (hdx : (x == ("__debug__" : Str)) = false)
    (hlen : xs.length = ys.length) (hz : xs.length ≤ 1000) (ct : ∀ (i : Nat) (a : Str) (b : Int), xs[i]? = some a → ys[i]? = some b → CtO 2 w f [isS a] (isI b))
    (h : ∀ r, Pq (.ref r) ((r, isLst (ys.map isI)) :: led)) : Rv false C σ led (.ListComp (.Call (.Name fnm p1) [.Name x p2] [] p3) [⟨.Name x px, .Name y py, [], 0⟩] scope pos) Pq := by
  refine ⟨fun s Q E S q => ?_⟩
  obtain ⟨g, m, nw, V, F, G, N, R, DD⟩ := S.has
  obtain ⟨v, hmv, hav⟩ := G y _ hv
  obtain rfl : v = .ref D := hav
  obtain ⟨o, ho, vs, n, rfl, hvs⟩ := ledR_mem R hm
  have hvl : vs.length = xs.length := by rw [hvs.length, List.length_map]
  refine LCg.ListComp_U (F₀ := F) hclos hcell hkind hnames hx (nameX_L F hmv (LCg.CompSrc.ledger rfl F N ho (by rw [List.size_toArray, sizeLine_eq, hvl]; exact few_size hz) fun g' => ?_) C.hk hy hdy) (fun _ => rfl)
  have key : ∀ (k i : Nat) (us : List Value), k = xs.length - i → i ≤ xs.length → AllOf ((ys.take i).map isI) us →
      LCg.CompRest PySem.Challenge.rw_np0200_01.row.prog w C.A g C.L m C.env (.Call (.Name fnm p1) [.Name x p2] [] p3) x scope cl { s with heap := g' } (LCg.SrcAt g D vs.toArray) (fun i v => vs.toArray[i]? = some v) (LCg.FinE g C.L m { s with heap := g' } Q) k i us nw := by
    intro k
    induction k with
    | zero =>
      intro i us hk hi ha
      refine LCg.CompRest.zero fun D' h' tk F' N' o1 => ?_
      have hti : ys.take i = ys := List.take_of_length_le (by rw [← hlen]; exact comp_all hk)
      rw [hti] at ha
      refine q _ _ _ (h D') (S.set (k := tk) V F' G N' (And.intro ⟨rfl, us, _, rfl, ha⟩ R) ?_)
      rw [List.map_cons, List.nodup_cons]
      refine ⟨fun hmm => ?_, DD⟩
      obtain ⟨p, hp, e⟩ := List.mem_map.mp hmm
      have : ∀ {l : List (Addr × Obj)}, LCg.Off1 D' l → ∀ p ∈ l, p.1 ≠ D' := by
        intro l
        induction l with
        | nil => exact fun _ _ h => nomatch h
        | cons a l ih => exact fun h p hp => (List.mem_cons.mp hp).elim (fun e => e ▸ h.1) (ih h.2 p)
      exact this o1 p hp e
    | succ k ih =>
      intro i us hk hi ha
      refine LCg.CompRest.succ fun v I oI Cc oC Dd m₂ h' tk E' hPv hoC hmx F' N' off ne => ?_
      have hlt : i < xs.length := comp_lt hk
      obtain ⟨u, hu1, t, hu⟩ := allOf_at (j := i) (av := isS xs[i]) hvs (by rw [List.getElem?_map, List.getElem?_eq_getElem hlt]; rfl)
      have huv : v = .str xs[i] t := by
        have : vs[i]? = some v := by simpa using hPv
        rw [hu1] at this
        rw [← hu]; exact (Option.some.inj this).symm
      subst huv
      refine wpX_callK (b := false) V.X hfn.keep rfl (LCgL.ld_global F' V.X V.T hfn.glo ⟨rfl, ?_⟩ rfl hkind (hk2 _) hfn.plain)
      refine args_cons (LCgL.ld_own N' (.tail _ (.head _)) hoC hmx (args_nil ⟨V.X.keeps F'.keep, ?_⟩) hkind (hk1 _) hdx) rfl
      have hyi : i < ys.length := by rw [← hlen]; exact hlt
      refine ct i xs[i] ys[i] (List.getElem?_eq_getElem hlt) (List.getElem?_eq_getElem hyi) (And.intro ⟨t, rfl⟩ trivial) V.B F' V.X N' V.T C.hk hr.1 hr.2 fun v h2 tk2 hv2 F2 N2 => ?_
      refine LCg.CompEnd.intro F2 N2 nw (fun p hp => hp) off (.inr ⟨_, ho, rfl, _, rfl⟩) (ih (i + 1) _ (comp_next hk) hlt ?_)
      rw [List.take_succ_eq_append_getElem hyi, List.map_append]
      have ap : ∀ {a1 : List AV} {v1 : List Value} {a2 : AV} {v2 : Value}, AllOf a1 v1 → a2 v2 → AllOf (a1 ++ [a2]) (v1 ++ [v2]) := by
        intro a1
        induction a1 with
        | nil => intro v1 a2 v2 h h2; cases v1; exact ⟨h2, trivial⟩; exact h.elim
        | cons p a1 ih => intro v1 a2 v2 h h2; cases v1; exact h.elim; exact ⟨h.1, ih h.2 h2⟩
      exact ap ha hv2
  exact key _ 0 [] (by rw [List.size_toArray, hvl]; rfl) (Nat.zero_le _) trivial
/-- a call of one name that takes names, of a def told in the old form -/
theorem Rv.callO {fnm : Str} {p1 : Pos} (hfn : Fn w fnm f) (hx : cs.names.lookup fnm = some .globalImplicit) (hr : C.Room 2) (he : Ev C σ led e av) (hp : plainE e = true) {av' : AV} (ct : CtO 2 w f [av] av') (q : ∀ v, av' v → Pq v led) : Rv false C σ led (.Call (.Name fnm p1) [e] [] pos) Pq := by
  refine ⟨fun s Q E S q' => wpX_callK (b := false) C.X hfn.keep (by simp [hp]) ((Ev.glo hx hfn.glo (av := isV (.ref f)) rfl hfn.plain).run s _ E S fun u s1 ha S1 => ⟨ha, (Evs.cons he .nil hp).run pos s1 _ E S1 fun vs s2 hb S2 => ?_⟩)⟩
  obtain ⟨g, m, nw, V, F, G, N, R, DD⟩ := S2.has
  refine ⟨V.X.keeps F.keep, ct hb V.B F V.X N V.T C.hk hr.1 hr.2 fun v h' tk hv F' N' => q' v _ led (q v hv) (S2.set V F' G N' R DD)⟩
end
end Np
end

section
set_option compiler.extract_closed false
set_option maxHeartbeats 4000000
set_option pp.deepTerms false
set_option pp.maxSteps 3000
namespace Np
open PySem PySem.W PySem.Spec PySem.Calls PyProof.Rows
example : (fun (_ : OpenLaw) (_ : Params → Frag) => True) PySem.Challenge.rw_np0200_01 Hz.hd.heap_1 := by
  k_fill
  trivial
set_option hygiene false
local macro_rules | `(tactic| walk_at "om") => `(tactic| first | (with_reducible assumption) | (with_reducible exact Int.natCast_nonneg _) | lia | omega)
local macro_rules | `(tactic| walk_at "pw") => `(tactic| with_reducible first | exact pw8 | exact pw16 | exact pw24 | exact pw2 | exact pw4 | exact pw5 | exact pw9 | exact p2_16 | exact p2_256 | exact p2_65536 | exact p2_16777216 | exact pwM_1 | exact pwM_15 | exact pwM_255 | exact pwN _)
local macro_rules | `(tactic| walk_at "mem") => `(tactic| first | (with_reducible assumption) | exact List.Mem.head _ | (apply List.Mem.tail; walk_at "mem"))
local macro_rules | `(tactic| walk_at "upd") => `(tactic| with_reducible first | exact .head | exact .tail .head | exact .tail (.tail .head))
local macro_rules | `(tactic| walk_at "z") => `(tactic| first | (with_reducible assumption) | (with_reducible exact hz _ _) | (with_reducible exact hz1 _) | (with_reducible exact hz3 _ _ _) | ((try simp only [octs, List.length_append, List.length_cons, List.length_nil, List.length_replicate, List.length_set, List.length_take, List.length_drop, List.length_map]); walk_at "om"))
local macro_rules | `(tactic| walk_at "e") => `(tactic| first
  | ((with_reducible apply Ev.loc) <;> rfl)
  | (with_reducible apply Ev.int)
  | ((with_reducible apply Ev.glo); rfl; k_is; (first | exact isI_mk | exact isV_mk); rfl)
  | ((with_reducible apply Ev.item); walk_at "e"; walk_at "e"; exact fun _ _ => rfl; walk_at "z"; walk_at "om"; walk_at "om")
  | ((with_reducible apply Ev.add); walk_at "e"; walk_at "e")
  | ((with_reducible apply Ev.sub); walk_at "e"; walk_at "e")
  | ((with_reducible apply Ev.len); rfl; walk_at "e"; walk_at "z"; rfl)
  | ((with_reducible apply Ev.balen); rfl; walk_at "e"; walk_at "mem"; walk_at "z"; rfl)
  | ((with_reducible apply Ev.callf); walk_at "es"; rfl; walk_at "ct"; rfl; assumption; rfl)
  | ((with_reducible apply Ev.cat); walk_at "e"; walk_at "e"; walk_at "z")
  | ((with_reducible apply Ev.min); rfl; walk_at "e"; walk_at "e"; rfl)
  | ((with_reducible apply Ev.max); rfl; walk_at "e"; walk_at "e"; rfl)
  | ((with_reducible apply Ev.orh); walk_at "e"; walk_at "e"; walk_at "pw"; walk_at "om"; walk_at "om"; walk_at "om")
  | ((with_reducible apply Ev.orl); walk_at "e"; walk_at "e"; walk_at "pw"; walk_at "om"; walk_at "om"; walk_at "om")
  | ((with_reducible apply Ev.and); walk_at "e"; walk_at "e"; walk_at "pw")
  | ((with_reducible apply Ev.shl); walk_at "e"; walk_at "e"; walk_at "om"; walk_at "om"; walk_at "pw"; walk_at "om"; walk_at "om")
  | ((with_reducible apply Ev.shr); walk_at "e"; walk_at "e"; walk_at "om"; walk_at "pw")
  | ((with_reducible apply Ev.mul); walk_at "e"; walk_at "e"; walk_at "om"; walk_at "om")
  | ((with_reducible apply Ev.pow); walk_at "e"; walk_at "e"; (first | exact (by decide : decide (0 ≤ (5 : Int) ∧ (5 : Int) ≤ 1000 ∧ 0 ≤ (10 : Int) ∧ (10 : Int) < 65536 ∧ (10 : Int) ^ (5 : Int).toNat = 100000) = true) | exact (by decide : decide (0 ≤ (24 : Int) ∧ (24 : Int) ≤ 1000 ∧ 0 ≤ (2 : Int) ∧ (2 : Int) < 65536 ∧ (2 : Int) ^ (24 : Int).toNat = 16777216) = true)))
  | ((with_reducible apply Ev.div); walk_at "e"; walk_at "e"; walk_at "om"; walk_at "om")
  | ((with_reducible apply Ev.mod); walk_at "e"; walk_at "e"; walk_at "om")
  | ((with_reducible apply Ev.bytesL); rfl; walk_at "os"; rfl)
  | ((with_reducible apply Ev.bytesBa); rfl; walk_at "e"; walk_at "mem"; walk_at "z"; rfl)
  | ((with_reducible apply Ev.bytesB); rfl; walk_at "e"; rfl)
  | ((with_reducible apply Ev.bytesN); rfl; walk_at "e"; walk_at "om"; walk_at "om"; rfl)
  | ((with_reducible apply Ev.rep); walk_at "e"; walk_at "e"; walk_at "om"; walk_at "om")
  | ((with_reducible apply Ev.repO); walk_at "e"; walk_at "e"; walk_at "om"; walk_at "om")
  | ((with_reducible apply Ev.baitem); walk_at "e"; walk_at "mem"; walk_at "e"; exact fun _ _ => rfl; walk_at "z"; walk_at "om"; walk_at "z")
  | ((with_reducible apply Ev.cut); walk_at "e"; walk_at "e"; walk_at "e"; walk_at "om"; walk_at "om"; walk_at "z")
  | ((with_reducible apply Ev.from); walk_at "e"; walk_at "e"; walk_at "om"; walk_at "z")
  | ((with_reducible apply Ev.upto); walk_at "e"; walk_at "e"; walk_at "om"; walk_at "z")
  | ((with_reducible apply Ev.lstItem); walk_at "e"; walk_at "mem"; walk_at "e"; exact fun _ _ => rfl; walk_at "om"; walk_at "om"; (first | rfl | assumption))
  | ((with_reducible apply Ev.lstLen); rfl; walk_at "e"; walk_at "mem"; walk_at "z"; rfl)
  | ((with_reducible apply Ev.cell); rfl; assumption; walk_at "mem"; rfl)
  | ((with_reducible apply Ev.free); rfl; assumption; walk_at "mem"; rfl; rfl)
  | (with_reducible apply Ev.str)
  | (with_reducible apply Ev.none)
  | (with_reducible apply Ev.bytes)
  | ((with_reducible apply Ev.tupItem); walk_at "e"; walk_at "mem"; rfl; rfl)
  | ((with_reducible apply Ev.iteT); walk_at "t"; walk_at "om"; walk_at "e")
  | ((with_reducible apply Ev.iteF); walk_at "t"; walk_at "om"; walk_at "e")
  | ((with_reducible apply Ev.ite); walk_at "t"; (intro hp'; walk_at "e"); (intro hn'; walk_at "e")))
local macro_rules | `(tactic| walk_at "es") => `(tactic| with_reducible first | exact Evs.nil | (apply Evs.cons; with_unfolding_all walk_at "e"; walk_at "es"; with_unfolding_all rfl))
local macro_rules | `(tactic| walk_at "os") => `(tactic| with_reducible first | exact Evo.nil | (apply Evo.cons; with_unfolding_all walk_at "e"; with_unfolding_all walk_at "om"; with_unfolding_all walk_at "om"; walk_at "os"; with_unfolding_all rfl))
local macro_rules | `(tactic| walk_at "t") => `(tactic| first
  | ((with_reducible apply Tst.lt); walk_at "e"; walk_at "e"; rfl)
  | ((with_reducible apply Tst.le); walk_at "e"; walk_at "e"; rfl)
  | ((with_reducible apply Tst.gt); walk_at "e"; walk_at "e"; rfl)
  | ((with_reducible apply Tst.ge); walk_at "e"; walk_at "e"; rfl)
  | ((with_reducible apply Tst.eq); walk_at "e"; walk_at "e"; rfl)
  | ((with_reducible apply Tst.ne); walk_at "e"; walk_at "e"; rfl)
  | ((with_reducible apply Tst.beq); walk_at "e"; walk_at "e"; rfl)
  | ((with_reducible apply Tst.bne); walk_at "e"; walk_at "e"; rfl)
  | ((with_reducible apply Tst.ltle); walk_at "e"; walk_at "e"; walk_at "e"; rfl)
  | ((with_reducible apply Tst.andF); walk_at "t"; exact id)
  | ((with_reducible apply Tst.and); walk_at "t"; (intro hp'; walk_at "t"))
  | ((with_reducible apply Tst.orT); walk_at "t"; exact trivial)
  | ((with_reducible apply Tst.or); walk_at "t"; (intro hp'; walk_at "t"))
  | ((with_reducible apply Tst.and1); walk_at "t")
  | ((with_reducible apply Tst.or1); walk_at "t")
  | ((with_reducible apply Tst.not); walk_at "t")
  | ((with_reducible apply Tst.isNone); walk_at "e"; rfl)
  | ((with_reducible apply Tst.isNoneN); walk_at "e"; (first | exact nnI | exact nnB | exact nnR); rfl)
  | ((with_reducible apply Tst.isntNone); walk_at "e"; rfl)
  | ((with_reducible apply Tst.isntNoneN); walk_at "e"; (first | exact nnI | exact nnB | exact nnR); rfl)
  | (with_reducible apply Tst.bool))
local macro_rules | `(tactic| walk_at "rv") => `(tactic| first
  | ((with_reducible apply Rv.tup); walk_at "es"; rfl; intro r')
  | ((with_reducible apply Rv.ite); walk_at "t"; (intro hp'; walk_at "rv"); rotate_left; (intro hn'; walk_at "rv"); rotate_right)
  | ((with_reducible apply Rv.ev); walk_at "e"; intro v' hv')
  | ((with_reducible apply Rv.call); walk_at "es"; rfl; walk_at "ct"; rfl; assumption; rfl; intro v' led' hv'))
local macro_rules | `(tactic| walk_at "enter") => `(tactic| (refine Ct.enter ⟨by k_is, by k_is, rfl⟩ (by k_is) (by k_is) (by ((repeat intro _); rfl)) (by rfl) ?_; intro C' r' σ' P'))
local macro_rules | `(tactic| walk_at "s") => `(tactic| first
  | ((with_reducible apply WS.assign); rfl; rfl; walk_at "e"; intro σ')
  | ((with_reducible apply WS.if'); walk_at "t"; intro hp' P'; rotate_left; intro hn'; rotate_right)
  | ((with_reducible apply WS.if); walk_at "t"; intro hp' P'; rotate_left; intro hn' P'; rotate_right)
  | ((with_reducible refine WS.nil ?_); (first | (show WS _ _ _ _ _ _) | (show LoopP _ _ _ _ _ _ _ _ _ _) | (show LoopP2 _ _ _ _ _ _ _ _ _ _) | (show ForP _ _ _ _ _ _ _ _ _) | (show JoinP _ _ _ _ _ _) | skip))
  | ((with_reducible refine WS.ret ?_); walk_at "rv")
  | ((with_reducible apply WS.append); walk_at "e"; walk_at "e"; walk_at "upd"; walk_at "om"; walk_at "om"; walk_at "z"; rfl)
  | ((with_reducible apply WS.extend); walk_at "e"; walk_at "e"; walk_at "upd"; walk_at "z"; rfl)
  | ((with_reducible apply WS.setItem); rfl; walk_at "e"; walk_at "e"; walk_at "e"; (first | exact fun _ _ _ _ _ S q => setTab_run S (by walk_at "upd") (by walk_at "om") q | exact fun _ _ _ _ _ S q => setBa_run S (by walk_at "upd") (by walk_at "om") (by walk_at "om") (by walk_at "om") (by walk_at "om") (by walk_at "om") q | exact fun _ _ _ _ _ S q => setLst_run S (by first | assumption | walk_at "upd") q))
  | ((with_reducible apply WS.tupLS); rfl; rfl; walk_at "es"; rfl; intro σ')
  | ((with_reducible apply WS.tupL); rfl; rfl; walk_at "es"; rfl; intro σ')
  | ((with_reducible apply WS.init); rfl; rfl; rfl; rfl; rfl; intro D; walk_at "ed")
  | ((with_reducible apply WS.initSw); rfl; rfl; rfl; rfl; rfl; intro D; walk_at "ed"))
local macro_rules | `(tactic| walk_at "ed") => `(tactic| first
  | ((with_reducible apply Evd.dict); intro D2 lo; walk_at "ed")
  | ((with_reducible apply Evd.ev); walk_at "e"; rfl; walk_at "ed")
  | ((with_reducible apply Evd.nil); refine ⟨rfl, ?_⟩; intro σ'))
local macro_rules | `(tactic| walk_at "sub") => `(tactic| with_reducible first | exact Sub.nil | (apply Sub.cons; with_unfolding_all rfl; (first | exact same | exact toI (by with_unfolding_all walk_at "om") | exact toB (by with_unfolding_all walk_at "om")); walk_at "sub"))
local macro_rules | `(tactic| walk_at "sT") => `(tactic| ((with_reducible apply WS.ifT); walk_at "t"; walk_at "om"; intro P'))
local macro_rules | `(tactic| walk_at "sF") => `(tactic| first | ((with_reducible apply WS.ifN); walk_at "t"; walk_at "om") | ((with_reducible apply WS.ifF); walk_at "t"; walk_at "om"; intro P'))
local macro_rules | `(tactic| walk_at "get") => `(tactic| ((with_reducible apply WS.assignG); rfl; rfl; (with_reducible apply Rv.get); walk_at "e"; walk_at "e"; walk_at "mem"; assumption; rfl; rotate_left; (intro j t hk; refine ⟨isI j, ⟨t, rfl⟩, ?_⟩; intro σ'); rotate_left; (intro hk; refine ⟨isV .none, rfl, ?_⟩; intro σ')))
local macro_rules | `(tactic| walk_at "tupc") => `(tactic| ((with_reducible apply WS.tup); rfl; rfl; rfl; rfl; (with_reducible apply Rv.call); walk_at "es"; rfl; walk_at "ct"; rfl; assumption; rfl))
local macro_rules | `(tactic| walk_at "sx") => `(tactic| ((with_reducible apply WS.expr); rfl; (with_reducible apply Rv.call); walk_at "es"; rfl; walk_at "ct"; rfl; assumption; rfl; rintro v' led' ⟨rfl, rfl⟩; refine ⟨trivial, ?_⟩))
local macro_rules | `(tactic| walk_at "xenter") => `(tactic| (refine CtX.enter ⟨by k_is, by k_is, rfl⟩ (by k_is) (by k_is) (by ((repeat intro _); rfl)) (by rfl) ?_; intro C' r' σ'))
local macro_rules | `(tactic| walk_at "x") => `(tactic| first
  | exact WX.raise (by first | exact xc44 | exact xc56) (r'.le (by decide)) rfl (by k_is) (by k_is) rfl (by first | exact Le.refl _ | exact .drop (Le.refl _))
  | ((with_reducible apply WX.ifT); walk_at "t"; (first | walk_at "om" | walk_at "z"))
  | ((with_reducible apply WX.ifN); walk_at "t"; (first | walk_at "om" | walk_at "z"))
  | ((with_reducible first | apply WX.callR | apply WX.callA); walk_at "es"; rfl; walk_at "ct"; rfl; assumption; rfl; exact Le.refl _)
  | ((with_reducible apply WX.while); walk_at "t"; (first | walk_at "om" | walk_at "z"))
  | ((with_reducible apply WX.pre); intro P'; walk_at "s"; (with_reducible refine WS.nil ?_); show WX _ _ _ _ _ _ _ _))
section
theorem octI_ok (l : List UInt8) (a : Int) : 0 ≤ octI l a ∧ octI l a < 256 := ⟨Int.natCast_nonneg _, Int.ofNat_lt.mpr (UInt8.toNat_lt _)⟩
theorem fin1 {led l' : Led} {A : Prop} (h : A) (e : led = l') : ∃ l, Le led l ∧ A ∧ l = l' := ⟨led, Le.refl _, h, e⟩
theorem cw_turn {f : Nat → Bool} {T c m m' : Nat} (h : T = c + cw f c m) (hf : f c = true) (hm : m = m' + 1) : T = c + 1 + cw f (c + 1) m' := by
  subst hm
  rw [h, cw_step hf (Nat.succ_pos _), show m'.succ - 1 = m' from rfl]
  omega
theorem cw_end {f : Nat → Bool} {T c m : Nat} (h : T = c + cw f c m) (hf : f c = true → m = 0) : T = c := by
  by_cases e : f c = true
  · rw [h, hf e, cw_zero]; rfl
  · rw [h, cw_false e]; rfl
theorem lt_cap {c L a : Nat} {z : Int} (k : Nat) (hz : z = (k : Nat)) : (c : Int) < min (L : Int) ((a : Int) + z) ↔ c < min L (a + k) := by
  subst hz
  rw [Int.lt_min, Nat.lt_min, ← Int.natCast_add, Int.ofNat_lt, Int.ofNat_lt]
theorem turn_le {c T : Nat} (h : c < T) : T - c = T - (c + 1) + 1 := by rw [Nat.sub_add_eq]; exact (Nat.sub_add_cancel (Nat.sub_pos_of_lt h)).symm
theorem dec_lt {c T : Nat} (h : c < T) : T - (c + 1) < T - c := Nat.sub_lt_sub_left h (Nat.lt_succ_self c)
theorem lt_of_dec {c T : Nat} (h : ¬ T - c = 0) : c < T := Nat.lt_of_sub_ne_zero h
theorem lt_toNat {a c : Nat} {e : Int} : (a : Int) + c < e ↔ c < e.toNat - a := by omega
theorem lt_ahead {a x e c : Nat} (he : e ≤ a) : c < min (a - e) x ↔ (e : Int) < (a : Int) - c ∧ 0 < (x : Int) - c := by omega
theorem sub_add {a c T : Nat} : a + c < T ↔ c < T - a := by rw [Nat.lt_sub_iff_add_lt, Nat.add_comm]
theorem x_shift {x a c : Nat} : (x : Int) + (a + c : Nat) - a = (x + c : Nat) := by omega
theorem td_len {x : List UInt8} {i j : Nat} : ((x.drop i).take j).length ≤ x.length := Nat.le_trans (List.length_take_le' _ _) (by rw [List.length_drop]; exact Nat.sub_le _ _)
theorem add_big {a b : Nat} (h : a ≤ 200000) (h' : b ≤ 1000) : a + b ≤ 16777216 := Nat.le_trans (Nat.add_le_add h h') (by decide)
theorem ext_z {a x : List UInt8} {i j : Nat} (h : a.length ≤ 200000) (h2 : x.length ≤ 1000) : a.length + ((x.drop i).take j).length ≤ 16777216 := add_big h (Nat.le_trans td_len h2)
theorem most_len {x : List UInt8} {m : Int} (h : (x.length : Int) ≤ m) (hm : m ≤ 100000) : x.length < 200000 := Nat.lt_of_le_of_lt (Int.ofNat_le.mp (Int.le_trans h hm) : x.length ≤ 100000) (by decide)
theorem dec2 {a b n : Nat} (h : a < n) (h' : a < b) : n - b < n - a := Nat.sub_lt_sub_left h h'
theorem lt_ge {a n k : Nat} (h : a + (k + 1) ≤ n) : a < n := Nat.lt_of_lt_of_le (Nat.lt_add_of_pos_right (Nat.succ_pos k)) h
theorem tn_sub {a n : Nat} : ((a : Int) + (n : Nat)).toNat - ((a : Nat) : Int).toNat = n := (Nat.add_sub_cancel_left a n : a + n - a = n)
theorem ext_z3 {a x : List UInt8} {o : UInt8} {i j : Nat} (h : a.length < 200000) (h2 : x.length ≤ 1000) : (a ++ [o]).length + ((x.drop i).take j).length ≤ 16777216 := ext_z (by rw [List.length_append]; exact h) h2
theorem app_lt {most : Int} {x y : List UInt8} {n : Nat} (h : most < ((x ++ y).length : Nat)) (e : x.length + y.length ≤ n) : most < (n : Nat) := Int.lt_of_lt_of_le h (Int.ofNat_le.mpr (by rw [List.length_append]; exact e))
theorem word_at_ct {b w} (l : List UInt8) (a : Int) (led : Led) (hl : l.length ≤ 100) (ha : 0 ≤ a) (ha' : a + 3 < l.length) : Ct b 1 w "word_at" 72 led [isB l, isI a] (fun v led' => isI (wordI l a) v ∧ led' = led) := by
  walk_at "enter"
  have h1 := octI_ok l a
  have h2 := octI_ok l (a + 1)
  have h3 := octI_ok l (a + 2)
  have h4 := octI_ok l (a + 3)
  walk_at "s"
  exact ⟨_, Le.refl _, hv', rfl⟩
theorem hash_at_ct {b w} (l : List UInt8) (a : Int) (led : Led) (hl : l.length ≤ 100) (ha : 0 ≤ a) (ha' : a + 2 < l.length) : Ct b 1 w "hash_at" 142 led [isB l, isI a] (fun v led' => isI (hashI l a) v ∧ led' = led) := by
  walk_at "enter"
  have h1 := octI_ok l a
  have h2 := octI_ok l (a + 1)
  walk_at "s"
  walk_at "s"
  walk_at "s"
  walk_at "s"
  exact ⟨_, Le.refl _, hv', rfl⟩
theorem more_octets_ct {b w} (a : Int) (led : Led) (ha : 0 ≤ a) (ha' : a < 200) : Ct b 1 w "more_octets" 65 led [isI a] (fun v led' => isB (moreL a) v ∧ led' = led) := by
  walk_at "enter"
  walk_at "s"
  · walk_at "s"
    exact fin1 (toB (show [] = moreL a by unfold moreL; rw [if_pos hp']) _ hv') rfl
  · walk_at "s"
    walk_at "s"
    refine fin1 (toB ?_ _ hv') rfl
    unfold moreL
    rw [if_neg hn', show ((a - 15) / 255).toNat = 0 by omega, show (a - 15) % 255 = a - 15 by omega]
    rfl
theorem zeros_at_ct {b w} (l : List UInt8) (a : Nat) (led : Led) (hl : l.length ≤ 100) (ha' : (a : Int) < l.length) : Ct b 1 w "zeros_at" 205 led [isB l, isI a] (fun v led' => isI (zerosN l a) v ∧ led' = led) := by
  walk_at "enter"
  walk_at "s"
  walk_at "s"
  refine WS.while (fun c : Nat => [("behind", isI c), ("octets", isB l), ("at", isI a), ("end", isI (min (l.length : Int) (a + 192)))]) (fun _ => led) (fun c => a ≤ c ∧ a + zerosN l a = c + cw (fun i => l.getD i 0 == 0) c (min l.length (a + 192) - c)) (fun c => min l.length (a + 192) - c) a ⟨Nat.le_refl a, rfl⟩ (by walk_at "sub") (Le.refl _) ?_
  intro c p1 σ' led'
  refine ⟨_, by walk_at "t", ?_, ?_⟩
  · rintro ⟨h1, h2⟩ P'
    walk_at "s"
    walk_at "s"
    have h1 := (lt_cap 192 rfl).mp h1
    exact LoopP.end (c + 1) ⟨⟨Nat.le_succ_of_le p1.1, cw_turn p1.2 (oct_zero.mpr (Int.ofNat.inj h2)) (turn_le h1)⟩, dec_lt h1⟩ (by walk_at "sub") (Le.refl _)
  · intro hn
    walk_at "s"
    have := cw_end p1.2 fun q => Classical.byContradiction fun h => hn ⟨(lt_cap 192 rfl).mpr (lt_of_dec h), congrArg Int.ofNat (oct_zero.mp q)⟩
    refine fin1 (toI ?_ _ hv') rfl
    show (c : Int) - a = (zerosN l a : Nat)
    walk_at "om"
theorem literals_at_ct {b w} (l : List UInt8) (a : Nat) (led : Led) (hl : l.length ≤ 100) (ha' : (a : Int) < l.length) : Ct b 1 w "literals_at" 212 led [isB l, isI a] (fun v led' => isI (litsN l a) v ∧ led' = led) := by
  walk_at "enter"
  walk_at "s"
  walk_at "s"
  refine WS.while (fun c : Nat => [("behind", isI c), ("octets", isB l), ("at", isI a), ("end", isI (min (l.length : Int) (a + 64)))]) (fun _ => led) (fun c => a ≤ c ∧ a + litsN l a = c + cw (litF l) c (min l.length (a + 64) - c)) (fun c => min l.length (a + 64) - c) (a + 1) ⟨Nat.le_succ a, (Nat.add_assoc ..).symm⟩ (by walk_at "sub") (Le.refl _) ?_
  intro c p1 σ' led'
  refine ⟨_, by walk_at "t", ?_, ?_⟩
  · rintro ⟨h1, h2⟩ P'
    walk_at "s"
    walk_at "s"
    have h1 := (lt_cap 64 rfl).mp h1
    exact LoopP.end (c + 1) ⟨⟨Nat.le_succ_of_le p1.1, cw_turn p1.2 (litF_iff.mpr (h2.imp (fun h e => h (congrArg Int.ofNat e)) fun h => ⟨by walk_at "om", fun e => h.2 (congrArg Int.ofNat e)⟩)) (turn_le h1)⟩, dec_lt h1⟩ (by walk_at "sub") (Le.refl _)
  · intro hn
    walk_at "s"
    have := cw_end p1.2 fun q => Classical.byContradiction fun h => hn ⟨(lt_cap 64 rfl).mpr (lt_of_dec h), (litF_iff.mp q).imp (fun h e => h (Int.ofNat.inj e)) fun h => ⟨by walk_at "om", fun e => h.2 (Int.ofNat.inj e)⟩⟩
    refine fin1 (toI ?_ _ hv') rfl
    show (c : Int) - a = (litsN l a : Nat)
    walk_at "om"
theorem like_octets_ct {b w} (l : List UInt8) (a x : Nat) (e : Int) (led : Led) (hl : l.length ≤ 100) (hba : x < a) (he : e ≤ l.length) : Ct b 1 w "like_octets" 79 led [isB l, isI a, isI x, isI e] (fun v led' => isI (likeN l a x e.toNat) v ∧ led' = led) := by
  walk_at "enter"
  walk_at "s"
  refine WS.while (fun c : Nat => [("many", isI c), ("octets", isB l), ("at", isI a), ("other", isI x), ("end", isI e)]) (fun _ => led) (fun c => likeN l a x e.toNat = c + cw (fun i => l.getD (a + i) 0 == l.getD (x + i) 0) c (e.toNat - a - c)) (fun c => e.toNat - a - c) 0 (Nat.zero_add _).symm (by walk_at "sub") (Le.refl _) ?_
  intro c p1 σ' led'
  refine ⟨_, by walk_at "t", ?_, ?_⟩
  · rintro ⟨h1, h2⟩ P'
    walk_at "s"
    walk_at "s"
    have h1 := lt_toNat.mp h1
    exact LoopP.end (c + 1) ⟨cw_turn p1 (oct_like.mpr (Int.ofNat.inj h2)) (turn_le h1), dec_lt h1⟩ (by walk_at "sub") (Le.refl _)
  · intro hn
    walk_at "s"
    have := cw_end p1 fun q => Classical.byContradiction fun h => hn ⟨lt_toNat.mpr (lt_of_dec h), congrArg Int.ofNat (oct_like.mp q)⟩
    exact fin1 (toI (congrArg Int.ofNat this.symm) _ hv') rfl
theorem ahead_at {l : List UInt8} {a c : Nat} (h : c < a) : octI l ((a : Int) - c - 1) = ((l.getD (a - c - 1) 0).toNat : Nat) := by
  unfold octI; rw [show ((a : Int) - c - 1).toNat = a - c - 1 by omega]
theorem like_ahead_ct {b w} (l : List UInt8) (a x e : Nat) (led : Led) (hl : l.length ≤ 100) (hba : x < a) (hal : a < l.length) (hea : e ≤ a) : Ct b 1 w "like_ahead" 86 led [isB l, isI a, isI x, isI e] (fun v led' => isI (aheadN l a x e) v ∧ led' = led) := by
  walk_at "enter"
  walk_at "s"
  refine WS.while (fun c : Nat => [("many", isI c), ("octets", isB l), ("at", isI a), ("other", isI x), ("least", isI e)]) (fun _ => led) (fun c => aheadN l a x e = c + cw (fun i => l.getD (a - i - 1) 0 == l.getD (x - i - 1) 0) c (min (a - e) x - c)) (fun c => min (a - e) x - c) 0 (Nat.zero_add _).symm (by walk_at "sub") (Le.refl _) ?_
  intro c p1 σ' led'
  refine ⟨_, by walk_at "t", ?_, ?_⟩
  · rintro ⟨h1, h2, h3⟩ P'
    have h9 := (lt_ahead hea).mpr ⟨h1, h2⟩
    have hx9 := Nat.lt_of_lt_of_le h9 (Nat.min_le_right _ _)
    rw [ahead_at (Nat.lt_trans hx9 hba), ahead_at hx9] at h3
    walk_at "s"
    walk_at "s"
    exact LoopP.end (c + 1) ⟨cw_turn p1 (oct_like.mpr (Int.ofNat.inj h3)) (turn_le h9), dec_lt h9⟩ (by walk_at "sub") (Le.refl _)
  · intro hn
    walk_at "s"
    have := cw_end p1 fun q => Classical.byContradiction fun h => by
      have h9 := lt_of_dec h
      have hx9 := Nat.lt_of_lt_of_le h9 (Nat.min_le_right _ _)
      exact hn ⟨((lt_ahead hea).mp h9).1, ((lt_ahead hea).mp h9).2, by rw [ahead_at (Nat.lt_trans hx9 hba), ahead_at hx9]; exact congrArg Int.ofNat (oct_like.mp q)⟩
    exact fin1 (toI (congrArg Int.ofNat this.symm) _ hv') rfl
theorem match_at_ct {b w} (l : List UInt8) (a x : Nat) (led : Led) (hl : l.length ≤ 100) (hba : x < a) (he : a ≤ l.length) : Ct b 1 w "match_at" 149 led [isB l, isI a, isI x] (fun v led' => isI (likeN l a x (min l.length (a + 66))) v ∧ led' = led) := by
  walk_at "enter"
  walk_at "s"
  walk_at "s"
  refine WS.while (fun c : Nat => [("behind", isI (a + c : Nat)), ("octets", isB l), ("at", isI a), ("begin", isI x), ("end", isI (min (l.length : Int) (a + 66)))]) (fun _ => led) (fun c => likeN l a x (min l.length (a + 66)) = c + cw (fun i => l.getD (a + i) 0 == l.getD (x + i) 0) c (min l.length (a + 66) - a - c)) (fun c => min l.length (a + 66) - a - c) 0 (Nat.zero_add _).symm (by walk_at "sub") (Le.refl _) ?_
  intro c p1 σ' led'
  refine ⟨_, by walk_at "t", ?_, ?_⟩
  · rintro ⟨h1, h2⟩ P'
    rw [x_shift] at h2
    walk_at "s"
    walk_at "s"
    have h1 := sub_add.mp ((lt_cap 66 rfl).mp h1)
    exact LoopP.end (c + 1) ⟨cw_turn p1 (oct_like.mpr (Int.ofNat.inj h2)) (turn_le h1), dec_lt h1⟩ (by walk_at "sub") (Le.refl _)
  · intro hn
    walk_at "s"
    have := cw_end p1 fun q => Classical.byContradiction fun h => hn ⟨(lt_cap 66 rfl).mpr (sub_add.mpr (lt_of_dec h)), by rw [x_shift]; exact congrArg Int.ofNat (oct_like.mp q)⟩
    refine fin1 (toI ?_ _ hv') rfl
    show ((a + c : Nat) : Int) - a = (likeN l a x (min l.length (a + 66)) : Nat)
    walk_at "om"
theorem match_octets_ct {b w} (x y : Int) (led : Led) (ha : 3 ≤ x) (ha' : x ≤ 66) (hb : 0 ≤ y) (hb' : y < 1024) : Ct b 1 w "match_octets" 163 led [isI x, isI y] (fun v led' => isB (matchL x y) v ∧ led' = led) := by
  walk_at "enter"
  walk_at "s"
  exact ⟨_, Le.refl _, hv', rfl⟩
theorem padded_ct {b w} (x : List UInt8) (n : Int) (led : Led) (hl : (x.length : Int) ≤ n) (hn : n ≤ 1000) : Ct b 1 w "padded" 191 led [isB x, isI n] (fun v led' => isB (x ++ List.replicate (n - x.length).toNat 0) v ∧ led' = led) := by
  walk_at "enter"
  walk_at "s"
  · exact absurd hl (Int.not_le.mpr hp')
  · walk_at "s"
    exact ⟨_, Le.refl _, hv', rfl⟩
/-- what the ways to pack give -/
def packP (x : List UInt8) (most : Int) : AV := fun v => ((x.length : Int) ≤ most ∧ isB x v) ∨ (most < x.length ∧ v = .none)
theorem take_snoc {l : List UInt8} {i : Nat} (h : i < l.length) : l.take i ++ [l.getD i 0] = l.take (i + 1) := by
  rw [List.take_add_one, List.getElem?_eq_getElem h, List.getD_eq_getElem?_getD, List.getElem?_eq_getElem h]
  rfl
theorem octI_u8 {l : List UInt8} {n : Nat} : (octI l n).toNat.toUInt8 = l.getD n 0 := by unfold octI; rw [Int.toNat_natCast, Int.toNat_natCast]; simp
theorem take_copy {l : List UInt8} {a o j : Nat} (hj : a + j < l.length) (ho : 0 < o) (hoa : o ≤ a) (h : l.getD (a + j) 0 = l.getD (a - o + j) 0) : l.take (a + j) ++ [(octI (l.take (a + j)) (((l.take (a + j)).length : Int) - o)).toNat.toUInt8] = l.take (a + (j + 1)) := by
  rw [show (((l.take (a + j)).length : Int) - o) = ((a - o + j : Nat) : Int) by rw [List.length_take_of_le (Nat.le_of_lt hj)]; clear h hj ho; omega, octI_u8, List.getD_eq_getElem?_getD, List.getElem?_take_of_lt (by omega), ← List.getD_eq_getElem?_getD, ← h]
  exact take_snoc hj
end
section
local macro_rules | `(tactic| walk_at "ct") => `(tactic| (with_reducible first | apply zeros_at_ct | apply literals_at_ct) <;> walk_at "om")
theorem zle_pack_ct {w} (l : List UInt8) (most : Int) (led : Led) (hl : l.length ≤ 100) (hm : 0 ≤ most) (hm' : most ≤ 100000) : Ct true 2 w "zle_pack" 219 led [isB l, isI most] (fun v led' => packP (zleF l) most v ∧ led' = led) := by
  walk_at "enter"
  walk_at "s"
  refine WS.while2 (fun (out : List UInt8) (a : Nat) => [("found", isV (.ref D)), ("at", isI a), ("octets", isB l), ("most", isI most)]) (fun out a => (D, isBa out) :: led) (fun out a => ZR l out a ∧ a ≤ l.length ∧ (out.length : Int) ≤ most) (fun out a => l.length - a) [] 0 ⟨ZR.init l, Nat.zero_le _, hm⟩ (by walk_at "sub") (Le.refl _) ?_
  rintro out a ⟨p1, p2, p3⟩ σ' led'
  refine ⟨_, by walk_at "t", ?_, ?_⟩
  · intro ha P'
    have z1 := zerosN_le l a
    have z2 := litsN_le l a
    have hol := most_len p3 hm'
    have hz3 := fun o i j => ext_z3 (a := out) (x := l) (o := o) (i := i) (j := j) hol (Nat.le_trans hl (by decide))
    walk_at "s"
    · obtain ⟨q1, q2, q3, q4⟩ := zle_next0 p1 ha rfl hp'
      walk_at "s"
      walk_at "s"
      walk_at "s"
      walk_at "s"
      walk_at "s"
      · walk_at "s"
        exact ⟨led, .drop (Le.refl _), And.intro (.inr ⟨app_lt hp' q4, hv'⟩) rfl⟩
      · walk_at "s"
        exact LoopP2.end _ (a + zerosN l a) ⟨⟨q1, q2, Int.not_lt.mp hn'⟩, dec2 (Int.ofNat_lt.mp ha) (Nat.lt_add_of_pos_right q3)⟩ (by walk_at "sub") (Le.refl _)
    · obtain ⟨q1, q2, q3, q4⟩ := zle_next1 p1 ha rfl hn'
      walk_at "s"
      walk_at "s"
      walk_at "s"
      walk_at "s"
      walk_at "s"
      have e1 : ((a : Int) + (litsN l a : Nat)).toNat - ((a : Nat) : Int).toNat = litsN l a := tn_sub
      walk_at "s"
      · walk_at "s"
        exact ⟨led, .drop (Le.refl _), And.intro (.inr ⟨app_lt hp' (Nat.le_trans (Nat.add_le_add_left (List.length_take_le _ _) _) (by rw [e1, List.length_append]; exact q4)), hv'⟩) rfl⟩
      · walk_at "s"
        rw [e1] at hn'
        exact LoopP2.end _ (a + litsN l a) ⟨⟨q1, q2, Int.not_lt.mp hn'⟩, dec2 (Int.ofNat_lt.mp ha) (Nat.lt_add_of_pos_right q3)⟩ (by walk_at "sub") (.keep (toBa (by rw [e1]; rfl)) (Le.refl _))
  · intro hn
    have e := p1.fin (by walk_at "om")
    subst e
    walk_at "s"
    exact ⟨led, .drop (Le.refl _), And.intro (.inl ⟨p3, hv'⟩) rfl⟩
theorem zle_unpack_ct {w} (l pad x : List UInt8) (led : Led) (hl : l.length ≤ 100) (hx : x = zleF l ++ pad) (hxl : x.length ≤ 1000) : Ct true 2 w "zle_unpack" 226 led [isB x, isI l.length] (fun v led' => isB l v ∧ led' = led) := by
  walk_at "enter"
  walk_at "s"
  refine WS.while2 (fun (out : List UInt8) (a : Nat) => [("found", isV (.ref D)), ("at", isI out.length), ("octets", isB x), ("size", isI l.length)]) (fun out a => (D, isBa (l.take a)) :: led) (fun out a => ZR l out a ∧ a ≤ l.length) (fun out a => l.length - a) [] 0 ⟨ZR.init l, Nat.zero_le _⟩ (by walk_at "sub") (Le.refl _) ?_
  rintro out a ⟨p1, p2⟩ σ' led'
  have hlt : (l.take a).length = a := List.length_take_of_le p2
  refine ⟨_, by walk_at "t", ?_, ?_⟩
  · intro ha P'
    rw [hlt] at ha
    replace ha : a < l.length := by walk_at "om"
    by_cases h0 : (l.getD a 0).toNat = 0
    · obtain ⟨q1, q2, q3, q4, q5, out', q6, q7⟩ := zle_dec0 p1 ha h0 hx
      have hz' := zerosN_le l a
      have q2' : octI x out.length = 63 + zerosN l a := congrArg Int.ofNat q2
      walk_at "sF"
      walk_at "s"
      walk_at "s"
      walk_at "s"
      walk_at "sF"
      walk_at "sF"
      walk_at "s"
      walk_at "s"
      walk_at "s"
      exact LoopP2.end out' (a + zerosN l a) ⟨⟨q7, q4⟩, dec2 ha (Nat.lt_add_of_pos_right q3)⟩ (by walk_at "sub") (.keep (toBa (by rw [show (octI x out.length - 64 + 1).toNat = zerosN l a by walk_at "om"]; exact q5)) (Le.refl _))
    · obtain ⟨q1, q2, q3, q4, q5, out', q6, q7⟩ := zle_dec1 p1 ha h0 hx
      have q2' : octI x out.length + 1 = litsN l a := congrArg Int.ofNat q2
      have hz := fun i j => ext_z (a := l.take a) (x := x) (i := i) (j := j) (by rw [hlt]; exact Nat.le_trans p2 (Nat.le_trans hl (by decide))) hxl
      walk_at "sF"
      walk_at "s"
      walk_at "s"
      walk_at "s"
      walk_at "sF"
      walk_at "sT"
      walk_at "sF"
      walk_at "s"
      walk_at "s"
      walk_at "s"
      walk_at "s"
      exact LoopP2.end out' (a + litsN l a) ⟨⟨q7, q4⟩, dec2 ha (Nat.lt_add_of_pos_right (by rw [← q2]; exact Nat.succ_pos _))⟩ (by walk_at "sub") (.keep (toBa (by rw [q2', show ((out.length : Int) + 1).toNat = out.length + 1 from rfl, show ((out.length : Int) + 1 + (litsN l a : Nat)).toNat - (out.length + 1) = litsN l a from tn_sub (a := out.length + 1)]; exact q5)) (Le.refl _))
  · intro hn
    have e : l.take a = l := List.take_of_length_le (by walk_at "om")
    walk_at "s"
    exact ⟨led, .drop (Le.refl _), And.intro (toB e _ hv') rfl⟩
end
section
local macro_rules | `(tactic| walk_at "ct") => `(tactic| (with_reducible first | apply hash_at_ct | apply match_at_ct | apply match_octets_ct) <;> walk_at "om")
theorem found_match_ct {b w} (l : List UInt8) (a : Nat) (D : Addr) (c : List (Int × Int)) (led : Led) (hl : l.length ≤ 100) (ha : a < l.length) (hc : Tab c a) (lo : (D == sysModules) = false) :
    Ct b 2 w "found_match" 156 ((D, isTab w c) :: led) [isB l, isI a, isV (.ref D)] (fun v led' => ∃ r, v = .ref r ∧ led' = (r, isTup [isI (fmR l a c).1, isI (fmR l a c).2.1]) :: (D, isTab w (fmR l a c).2.2) :: led) := by
  walk_at "enter"
  obtain ⟨hc1, hc2⟩ := hc
  walk_at "s"
  · have e : fmR l a c = (0, 0, c) := by unfold fmR; rw [if_pos hp']
    walk_at "s"
    exact ⟨_, Le.refl _, r', rfl, by rw [e]⟩
  walk_at "s"
  walk_at "get"
  · have e : fmR l a c = (0, 0, kdfPut c (hashI l a) a) := by unfold fmR; rw [if_neg hn', hk]
    walk_at "s"
    walk_at "s"
    · walk_at "s"
      exact ⟨_, Le.refl _, r', rfl, by rw [e]⟩
    · exact absurd trivial hn'
  · have hj := hc2 _ _ hk
    obtain ⟨j, rfl⟩ := Int.eq_ofNat_of_zero_le hj.1
    walk_at "s"
    walk_at "s"
    · have e : fmR l a c = (0, 0, kdfPut c (hashI l a) a) := by unfold fmR; rw [if_neg (by assumption), hk]; exact if_pos (hp'.resolve_left id)
      walk_at "s"
      exact ⟨_, Le.refl _, r', rfl, by rw [e]⟩
    · walk_at "s"
      walk_at "s"
      · have e := fmR_pos (l := l) (a := a) (by assumption) hk (fun q => hn' (.inr q)) (Int.ofNat_le.mp hp')
        exact ⟨_, Le.refl _, r', rfl, by rw [e]; rfl⟩
      · rename ¬ (False ∨ _) => h9
        have e : fmR l a c = (0, 0, kdfPut c (hashI l a) a) := by unfold fmR; rw [if_neg (by assumption), hk]; exact (if_neg fun q => h9 (.inr q)).trans (if_neg fun q => hn' (Int.ofNat_le.mpr q))
        exact ⟨_, Le.refl _, r', rfl, by rw [e]⟩
theorem jb_posN {l : List UInt8} {S : JS} (hm : 0 < (fmR l S.a S.c).1) : (jb1 S).set ((jbh S : Nat) : Int).toNat (octI (jb1 S) (jbh S) + 1 * ((2 ^ S.thing : Nat) : Int)).toNat.toUInt8 ++ matchL (fmR l S.a S.c).1 (fmR l S.a S.c).2.1 = (jbStep l S).found ∧ (jbStep l S).a = S.a + (fmR l S.a S.c).1.toNat ∧ (jbStep l S).c = (fmR l S.a S.c).2.2 := by
  unfold jbStep octI
  rw [if_pos hm, Int.toNat_natCast, Int.one_mul, ← Int.natCast_add, Int.toNat_natCast]
  exact ⟨rfl, rfl, rfl⟩
theorem jb_negN {l : List UInt8} {S : JS} (hm : ¬ 0 < (fmR l S.a S.c).1) : jb1 S ++ [(octI l S.a).toNat.toUInt8] = (jbStep l S).found ∧ (jbStep l S).a = S.a + 1 ∧ (jbStep l S).c = (fmR l S.a S.c).2.2 := by
  unfold jbStep octI
  rw [if_neg hm, Int.toNat_natCast, Int.toNat_natCast]
  exact ⟨by simp, rfl, rfl⟩
local macro_rules | `(tactic| walk_at "ct") => `(tactic| (with_reducible apply found_match_ct) <;> first | assumption | walk_at "om")
theorem jbStep_len (l : List UInt8) (S : JS) : (jbStep l S).found.length ≤ (jb1 S).length + 2 := by
  unfold jbStep; split
  · simp [matchL_len]
  · simp
theorem lzjb_pack_ct {w} (l : List UInt8) (most : Int) (led : Led) (hl : l.length ≤ 100) (hm : 0 ≤ most) (hm' : most ≤ 100000) : Ct true 3 w "lzjb_pack" 170 led [isB l, isI most] (fun v led' => packP (jbF l) most v ∧ led' = led) := by
  walk_at "enter"
  walk_at "s"
  refine WS.while (fun S : JS => [("found", isV (.ref D)), ("places", isV (.ref D2)), ("at", isI S.a), ("thing", isI S.thing), ("here", isI S.here), ("octets", isB l), ("most", isI most)]) (fun S => (D2, isTab w S.c) :: (D, isBa S.found) :: led) (fun S => JR l S ∧ (S.found.length : Int) ≤ most) (fun S => l.length - S.a) jb0 ⟨JR.init l, hm⟩ (by walk_at "sub") (Le.refl _) ?_
  rintro S ⟨p1, p2⟩ σ' l'
  refine ⟨_, by walk_at "t", ?_, ?_⟩
  · intro ha P'
    have ha' : S.a < l.length := Int.ofNat_lt.mp ha
    have w1 := p1.1
    have w8 := w1.t
    have wc := w1.c
    obtain ⟨k1, k2⟩ := w1.head
    obtain ⟨f1, f2, f3⟩ := fmR_spec wc ha'
    have hp := pow_le w8
    obtain ⟨-, g1, g2, -⟩ := step_facts w1 ha'
    have g3 := step_thing l S
    have g4 := (p1.step ha').len
    have k3 := octI_ok (jb1 S) (jbh S)
    replace k2 : octI (jb1 S) (jbh S) < ((2 ^ S.thing : Nat) : Int) := Int.ofNat_lt.mpr k2
    have g5 := jb1_len S
    have g6 := jbStep_len l S
    have g7 := matchL_len (fmR l S.a S.c).1 (fmR l S.a S.c).2.1
    refine WS.ifJ [("found", isV (.ref D)), ("places", isV (.ref D2)), ("at", isI S.a), ("thing", isI S.thing), ("here", isI (jbh S)), ("octets", isB l), ("most", isI most)] ((D2, isTab w S.c) :: (D, isBa (jb1 S)) :: led) (by walk_at "t") ?_ ?_ ?_
    · intro h0 P'
      replace h0 : S.thing = 0 := Int.ofNat.inj h0
      have e1 : S.found ++ [(0 : Int).toNat.toUInt8] = jb1 S := by unfold jb1; rw [if_pos h0]; rfl
      have e2 : S.found.length = jbh S := by unfold jbh; rw [if_pos h0]
      walk_at "s"
      walk_at "s"
      walk_at "s"
      exact And.intro (by walk_at "sub") (.keep same (.keep (toBa e1) (Le.refl _)))
    · intro h0 P'
      replace h0 : ¬ S.thing = 0 := fun e => h0 (congrArg Int.ofNat e)
      have e1 : S.found = jb1 S := by unfold jb1; rw [if_neg h0]
      have e2 : S.here = jbh S := by unfold jbh; rw [if_neg h0]
      walk_at "s"
      exact And.intro (by walk_at "sub") (.keep same (.keep (toBa e1) (Le.refl _)))
    · intro σ' l'
      walk_at "tupc"
      rintro v led2 ⟨r, rfl, rfl⟩
      refine TupP.here rfl ?_
      intro σ'
      refine WS.ifJ [("found", isV (.ref D)), ("places", isV (.ref D2)), ("at", isI (jbStep l S).a), ("thing", isI S.thing), ("here", isI (jbh S)), ("octets", isB l), ("most", isI most)] ((D2, isTab w (jbStep l S).c) :: (D, isBa (jbStep l S).found) :: led) (by walk_at "t") ?_ ?_ ?_
      · intro hmm P'
        obtain ⟨q1, q2, q3⟩ := jb_posN hmm
        obtain ⟨m, o, e1, e2, m3, m66, o0, o1, -⟩ := f3 hmm
        walk_at "s"
        walk_at "s"
        walk_at "s"
        walk_at "s"
        exact And.intro (by walk_at "sub") (by rw [q3]; exact .keep same (.keep (toBa q1) (Le.refl _)))
      · intro hmm P'
        obtain ⟨q1, q2, q3⟩ := jb_negN hmm
        have := octI_ok l S.a
        walk_at "s"
        walk_at "s"
        walk_at "s"
        exact And.intro (by walk_at "sub") (by rw [q3]; exact .keep same (.keep (toBa q1) (Le.refl _)))
      · intro σ' l'
        walk_at "s"
        walk_at "s"
        · walk_at "s"
          exact ⟨led, .drop (.drop (Le.refl _)), And.intro (.inr ⟨by walk_at "om", hv'⟩) rfl⟩
        · walk_at "s"
          exact LoopP.end (jbStep l S) ⟨⟨p1.step ha', by walk_at "om"⟩, by walk_at "om"⟩ (by walk_at "sub") (Le.refl _)
  · intro hn
    have e := p1.fin fun h => hn (Int.ofNat_lt.mpr h)
    walk_at "s"
    exact ⟨led, .drop (.drop (Le.refl _)), And.intro (.inl ⟨by walk_at "om", toB e _ hv'⟩) rfl⟩
end
section
theorem copied_ct {w} (l : List UInt8) (a m o : Nat) (mi oi : Int) (D : Addr) (led : Led) (hl : l.length ≤ 100) (ha : a + m ≤ l.length) (ho : 0 < o) (hoa : o ≤ a) (heq : ∀ i, i < m → l.getD (a + i) 0 = l.getD (a - o + i) 0) (hmi : mi = m) (hoi : oi = o) :
    Ct true 1 w "copied" 177 ((D, isBa (l.take a)) :: led) [isV (.ref D), isI mi, isI oi, isI l.length] (fun v led' => v = .none ∧ led' = (D, isBa (l.take (a + m))) :: led) := by
  subst hmi hoi
  walk_at "enter"
  have hlt : (l.take a).length = a := by rw [List.length_take]; walk_at "om"
  walk_at "sF"
  refine WS.for (n := m) (fun _ : Nat => [("found", isV (.ref D)), ("offset", isI o)]) (fun c => (D, isBa (l.take (a + c))) :: led) (fun i c => c = i) 0 rfl rfl rfl (Ev.weak (by walk_at "e") (toI (by walk_at "om"))) (by walk_at "om") rfl (by walk_at "sub") (Le.refl _) ?_ ?_
  · rintro It i c hi rfl σ' l' P'
    have hlt : (l.take (a + c)).length = a + c := by rw [List.length_take]; walk_at "om"
    have := octI_ok (l.take (a + c)) ((l.take (a + c)).length - o)
    walk_at "s"
    walk_at "s"
    exact ForP.end (c + 1) rfl (by walk_at "sub") (.keep same (.keep (toBa (take_copy (by walk_at "om") ho hoa (heq _ hi))) (Le.refl _)))
  · rintro c rfl
    walk_at "s"
    exact And.intro rfl rfl
theorem jb_dec {l pad x : List UInt8} {S : JS} (h : JR l S) (ha : S.a < l.length) (hx : x = jbF l ++ pad) : (jb1 S).length < x.length ∧ jbh S < x.length ∧
    ((octI x (jbh S) / ((2 ^ S.thing : Nat) : Int) % 2 = 0 ∧ (jbStep l S).a = S.a + 1 ∧ (jbStep l S).found.length = (jb1 S).length + 1 ∧ octI x (jb1 S).length = octI l S.a) ∨
     (octI x (jbh S) / ((2 ^ S.thing : Nat) : Int) % 2 = 1 ∧ ∃ m o : Nat, 3 ≤ m ∧ m ≤ 66 ∧ 0 < o ∧ o < 1024 ∧ o ≤ S.a ∧ S.a + m ≤ l.length ∧ (∀ i, i < m → l.getD (S.a + i) 0 = l.getD (S.a - o + i) 0) ∧ (jbStep l S).a = S.a + m ∧ (jbStep l S).found.length = (jb1 S).length + 2 ∧
      (jb1 S).length + 1 < x.length ∧ octI x (jb1 S).length = ((m - 3) * 4 + o / 256 : Nat) ∧ octI x ((jb1 S).length + 1) = (o % 256 : Nat))) := by
  obtain ⟨d1, d2, d3, d4, d5⟩ := h.dec ha hx
  refine ⟨d1, d2, ?_⟩
  by_cases hm : 0 < (fmR l S.a S.c).1
  · rw [if_pos hm] at d3
    obtain ⟨m, o, e1, e2, e3, e4, e5, e6, e7, e8, e9, f1, f2, f3⟩ := d5 hm
    exact .inr ⟨congrArg Int.ofNat d3, m, o, e1, e2, e3, e4, e5, e6, e7, e8, e9, f1, congrArg Int.ofNat f2, congrArg Int.ofNat f3⟩
  · rw [if_neg hm] at d3
    obtain ⟨e1, e2, e3⟩ := d4 hm
    exact .inl ⟨congrArg Int.ofNat d3, e1, e2, congrArg (fun u : UInt8 => ((u.toNat : Nat) : Int)) e3⟩
local macro_rules | `(tactic| walk_at "ct") => `(tactic| (with_reducible apply copied_ct (m := m) (o := o)) <;> first | assumption | walk_at "om")
theorem mt_len {m o : Nat} (h : 3 ≤ m) (ho : o < 1024) : (((m - 3) * 4 + o / 256 : Nat) : Int) / 4 + 3 = m := by
  obtain ⟨k, rfl⟩ := Nat.exists_eq_add_of_le h
  rw [Nat.add_sub_cancel_left]
  omega
theorem mt_off {m o : Nat} (ho : o < 1024) : (((m - 3) * 4 + o / 256 : Nat) : Int) % 4 * 256 + (o % 256 : Nat) = o := by
  generalize m - 3 = k
  omega
theorem lzjb_unpack_ct {w} (l pad x : List UInt8) (led : Led) (hl : l.length ≤ 100) (hx : x = jbF l ++ pad) (hxl : x.length ≤ 1000) : Ct true 2 w "lzjb_unpack" 184 led [isB x, isI l.length] (fun v led' => isB l v ∧ led' = led) := by
  walk_at "enter"
  walk_at "s"
  refine WS.while2 (fun (S : JS) (marks : Int) => [("found", isV (.ref D)), ("at", isI S.found.length), ("thing", isI S.thing), ("marks", isI marks), ("octets", isB x), ("size", isI l.length)]) (fun S _ => (D, isBa (l.take S.a)) :: led) (fun S marks => JR l S ∧ (0 < S.thing → marks = octI x S.here)) (fun S _ => l.length - S.a) jb0 0 ⟨JR.init l, fun h => absurd h (Nat.lt_irrefl _)⟩ (by walk_at "sub") (Le.refl _) ?_
  rintro S marks ⟨p1, p2⟩ σ' l'
  have w1 := p1.1
  have hSl := w1.a
  have hlt : (l.take S.a).length = S.a := by rw [List.length_take]; walk_at "om"
  refine ⟨_, by walk_at "t", ?_, ?_⟩
  · intro ha P'
    rw [hlt] at ha
    replace ha : S.a < l.length := Int.ofNat_lt.mp ha
    have w8 := w1.t
    obtain ⟨-, g1, g2, -⟩ := step_facts w1 ha
    have g3 := step_thing l S
    have g5 := jb1_len S
    obtain ⟨d1, d2, d3⟩ := jb_dec p1 ha hx
    have k0 := octI_ok x (jbh S)
    have k1 := octI_ok x (jb1 S).length
    have k2 := octI_ok x ((jb1 S).length + 1)
    refine WS.ifJ [("found", isV (.ref D)), ("at", isI (jb1 S).length), ("thing", isI S.thing), ("marks", isI (octI x (jbh S))), ("octets", isB x), ("size", isI l.length)] ((D, isBa (l.take S.a)) :: led) (by walk_at "t") ?_ ?_ ?_
    · intro h0 P'
      replace h0 : S.thing = 0 := Int.ofNat.inj h0
      have e2 : jbh S = S.found.length := by unfold jbh; rw [if_pos h0]
      rw [if_pos h0] at g5
      have e3 := congrArg (fun n : Nat => octI x n) e2

      walk_at "sF"
      walk_at "s"
      walk_at "s"
      walk_at "s"
      exact And.intro (by walk_at "sub") (Le.refl _)
    · intro h0 P'
      replace h0 : ¬ S.thing = 0 := fun e => h0 (congrArg Int.ofNat e)
      have e2 : jbh S = S.here := by unfold jbh; rw [if_neg h0]
      rw [if_neg h0] at g5
      have e3 := p2 (Nat.pos_of_ne_zero h0)
      rw [← e2] at e3
      walk_at "s"
      exact And.intro (by walk_at "sub") (Le.refl _)
    · intro σ' l'
      walk_at "s"
      obtain ⟨b0, e1, e2, e3⟩ | ⟨b0, m, o, m3, m66, o0, o1, oa, am, heq, e1, e2, e3, e4, e5⟩ := d3
      · walk_at "sF"
        walk_at "sF"
        walk_at "s"
        walk_at "s"
        walk_at "s"
        walk_at "s"
        walk_at "s"
        exact LoopP2.end (jbStep l S) (octI x (jbh S)) ⟨⟨p1.step ha, fun _ => by rw [g2]⟩, by walk_at "om"⟩ (by walk_at "sub") (.keep (toBa (by rw [e3, octI_u8, e1]; exact take_snoc ha)) (Le.refl _))
      · have f1 : octI x (jb1 S).length / 4 + 3 = m := by rw [e4]; exact mt_len m3 o1
        have f2 : octI x (jb1 S).length % 4 * 256 + octI x ((jb1 S).length + 1) = o := by rw [e4, e5]; exact mt_off o1
        walk_at "sF"
        walk_at "sT"
        walk_at "sx"
        walk_at "s"
        walk_at "s"
        walk_at "s"
        walk_at "s"
        exact LoopP2.end (jbStep l S) (octI x (jbh S)) ⟨⟨p1.step ha, fun _ => by rw [g2]⟩, dec2 ha (by rw [e1]; exact Nat.lt_add_of_pos_right (Nat.lt_of_lt_of_le (by decide) m3))⟩ (by walk_at "sub") (.keep (toBa (by rw [e1])) (Le.refl _))
  · intro hn
    have e : l.take S.a = l := List.take_of_length_le (by walk_at "om")
    walk_at "s"
    exact ⟨led, .drop (Le.refl _), And.intro (toB e _ hv') rfl⟩
end
section
local macro_rules | `(tactic| walk_at "ct") => `(tactic| (with_reducible first | apply word_at_ct | apply more_octets_ct | apply like_octets_ct | apply like_ahead_ct) <;> walk_at "om")
theorem sequence_ct {b w} (x : List UInt8) (y m : Int) (led : Led) (hl : x.length ≤ 100) (hb : 0 < y) (hb' : y < 200) (hm : 4 ≤ m) (hm' : m < 200) : Ct b 2 w "sequence" 93 led [isB x, isI y, isI m] (fun v led' => isB (seqL x y m) v ∧ led' = led) := by
  walk_at "enter"
  have hx1 := moreL_len (x.length : Int)
  have hx2 := moreL_len (m - 4)
  walk_at "s"
  walk_at "s"
  walk_at "s"
  exact fin1 (toB (by rw [min_ite, min_ite]; rfl) _ hv') rfl
theorem last_sequence_ct {b w} (x : List UInt8) (led : Led) (hl : x.length ≤ 100) : Ct b 2 w "last_sequence" 100 led [isB x] (fun v led' => isB (lastL x) v ∧ led' = led) := by
  walk_at "enter"
  have hx1 := moreL_len (x.length : Int)
  walk_at "s"
  exact fin1 (toB (by rw [min_ite]; rfl) _ hv') rfl
def LenOk (x : List UInt8) (a t n e : Int) : Prop := (t < 15 ∧ n = t ∧ e = a) ∨ (t = 15 ∧ a < x.length ∧ octI x a < 255 ∧ n = 15 + octI x a ∧ e = a + 1)
theorem length_in_ct {b w} (x : List UInt8) (a t n e : Int) (led : Led) (hl : x.length ≤ 200) (ha : 0 ≤ a) (hb : 0 ≤ t) (hb' : t ≤ 15)
    (h : LenOk x a t n e) : Ct b 1 w "length_in" 121 led [isB x, isI a, isI t] (fun v led' => ∃ r, v = .ref r ∧ led' = (r, isTup [isI n, isI e]) :: led) := by
  walk_at "enter"
  walk_at "s"
  · obtain ⟨_, rfl, rfl⟩ | ⟨h1, _⟩ := h
    · walk_at "s"
      exact ⟨_, Le.refl _, r', rfl, rfl⟩
    · exact absurd h1 (Int.ne_of_lt hp')
  obtain ⟨h1, _⟩ | ⟨_, h1, h2, rfl, rfl⟩ := h
  · exact absurd h1 hn'
  walk_at "s"
  refine WS.while (fun _ : Unit => [("length", isI 15), ("at", isI a), ("octets", isB x)]) (fun _ => led) (fun _ => True) (fun _ => 0) () trivial (by walk_at "sub") (Le.refl _) ?_
  intro _ _ σ' l'
  refine ⟨_, by walk_at "t", ?_, fun hn => absurd h1 hn⟩
  intro hp P'
  walk_at "s"
  walk_at "s"
  have e1 : octI x (a + 1 - 1) < 255 := by rw [Int.add_sub_cancel]; exact h2
  walk_at "sT"
  walk_at "s"
  exact ⟨_, Le.refl _, Exists.intro r' (And.intro rfl rfl)⟩
theorem copy_at_ct {b w} (l : List UInt8) (a b' : Nat) (D : Addr) (c : List (Int × Int)) (led : Led) (hl : l.length ≤ 100) (hb : b' ≤ a) (ha' : a + 12 ≤ l.length) (hc : Tab c a) (lo : (D == sysModules) = false) :
    Ct b 2 w "copy_at" 107 ((D, isTab w c) :: led) [isB l, isI a, isI b', isV (.ref D)] (fun v led' => (caR l a b' c = none ∧ v = .none ∧ led' = (D, isTab w (kdfPut c (wordI l a) a)) :: led) ∨
      ∃ x y z r, caR l a b' c = some (x, y, z) ∧ v = .ref r ∧ led' = (r, isTup [isI x, isI y, isI z]) :: (D, isTab w (kdfPut c (wordI l a) a)) :: led) := by
  walk_at "enter"
  obtain ⟨hc1, hc2⟩ := hc
  walk_at "s"
  walk_at "get"
  · walk_at "s"
    walk_at "s"
    · walk_at "s"
      exact ⟨_, Le.refl _, .inl ⟨by unfold caR; rw [hk], hv', rfl⟩⟩
    · exact absurd trivial hn'
  · have hj := hc2 _ _ hk
    obtain ⟨j, rfl⟩ := Int.eq_ofNat_of_zero_le hj.1
    walk_at "s"
    walk_at "sF"
    walk_at "s"
    walk_at "s"
    walk_at "s"
    exact ⟨_, Le.refl _, .inr ⟨_, _, _, r', caR_pos hk, rfl, rfl⟩⟩
local macro_rules | `(tactic| walk_at "ct") => `(tactic| (with_reducible apply length_in_ct) <;> first | assumption | walk_at "om")
theorem copy_in_ct {w} (l x : List UInt8) (a m o : Nat) (i t n e : Int) (D : Addr) (led : Led) (hl : l.length ≤ 100) (hxl : x.length ≤ 200) (hi : 0 ≤ i) (hix : i + 2 ≤ x.length)
    (ho0 : octI x i = (o % 256 : Nat)) (ho1 : octI x (i + 1) = (o / 256 : Nat)) (hb : 0 ≤ t) (hb' : t ≤ 15) (hlen : LenOk x (i + 2) t n e) (hn : n + 4 = m)
    (ha : a + m ≤ l.length) (ho : 0 < o) (hoa : o ≤ a) (heq : ∀ i, i < m → l.getD (a + i) 0 = l.getD (a - o + i) 0) :
    Ct true 2 w "copy_in" 128 ((D, isBa (l.take a)) :: led) [isB x, isI i, isI t, isV (.ref D), isI l.length] (fun v led' => isI e v ∧ led' = (D, isBa (l.take (a + m))) :: led) := by
  walk_at "enter"
  have hlt : (l.take a).length = a := by rw [List.length_take]; walk_at "om"
  walk_at "sF"
  walk_at "s"
  walk_at "tupc"
  rintro v led2 ⟨r, rfl, rfl⟩
  refine TupP.here rfl ?_
  intro σ'
  walk_at "s"
  walk_at "sF"
  walk_at "sF"
  refine WS.for (n := m) (fun _ : Nat => [("found", isV (.ref D)), ("back", isI o), ("at", isI e)]) (fun c => (D, isBa (l.take (a + c))) :: led) (fun i c => c = i) 0 rfl rfl rfl (Ev.weak (by walk_at "e") (toI (by walk_at "om"))) (by walk_at "om") rfl (by walk_at "sub") (Le.refl _) ?_ ?_
  · rintro It i c hi rfl σ' l' P'
    have hlt : (l.take (a + c)).length = a + c := by rw [List.length_take]; walk_at "om"
    have := octI_ok (l.take (a + c)) ((l.take (a + c)).length - o)
    walk_at "s"
    walk_at "s"
    exact ForP.end (c + 1) rfl (by walk_at "sub") (.keep same (.keep (toBa (take_copy (by walk_at "om") ho hoa (heq _ hi))) (Le.refl _)))
  · rintro c rfl
    walk_at "s"
    exact ⟨_, Le.refl _, And.intro hv' rfl⟩
theorem seqL_len (x : List UInt8) (o m : Int) : (seqL x o m).length ≤ x.length + 5 := by
  unfold seqL
  have h1 := moreL_len x.length
  have h2 := moreL_len (m - 4)
  walk_at "z"
theorem lastL_len (x : List UInt8) : (lastL x).length ≤ x.length + 2 ∧ 1 ≤ (lastL x).length := by
  unfold lastL
  have h1 := moreL_len x.length
  walk_at "z"
end
section
local macro_rules | `(tactic| walk_at "ct") => `(tactic| (with_reducible first | apply word_at_ct | apply sequence_ct | apply last_sequence_ct) <;> first | assumption | walk_at "z")
theorem grow {F b p m s : Nat} (h : F ≤ 2 * b) (hs : s ≤ (p - b) + 5) (hb : b ≤ p) (hm : 4 ≤ m) : F + s ≤ 2 * (p + m) := by omega
theorem twice_le {F b a n : Nat} (h : F ≤ 2 * b) (hb : b ≤ a) (ha : a ≤ n) (hn : n ≤ 100) : F ≤ 200000 := by omega
theorem pm2 {p m : Nat} (h : 4 ≤ m) : (p : Int) + m - 2 = (p + m - 2 : Nat) := by omega
theorem sub_big {n x : Nat} (h : n ≤ 100) : n - x + 2 ≤ 1000 := Nat.le_trans (Nat.add_le_add_right (Nat.le_trans (Nat.sub_le n x) h) 2) (by decide)
theorem lz4_pack_ct {w} (l : List UInt8) (most : Int) (led : Led) (hl : l.length ≤ 100) (hm : 0 ≤ most) (hm' : most ≤ 100000) : Ct true 3 w "lz4_pack" 114 led [isB l, isI most] (fun v led' => packP (lzF l) most v ∧ led' = led) := by
  walk_at "enter"
  walk_at "s"
  refine WS.while (fun S : LS => [("found", isV (.ref D)), ("known", isV (.ref D2)), ("begin", isI S.b), ("at", isI S.a), ("octets", isB l), ("most", isI most)]) (fun S => (D2, isTab w S.c) :: (D, isBa S.found) :: led) (fun S => LR l S ∧ S.found.length ≤ 2 * S.b) (fun S => l.length - S.a) lz0 ⟨LR.init l, Nat.le_refl _⟩ (by walk_at "sub") (Le.refl _) ?_
  rintro S ⟨p1, p2⟩ σ' l'
  have w1 := p1.1
  have hba := w1.ba
  have hal := w1.al
  have hpre := p1.len
  have hT := fun i j => Nat.le_trans (td_len (x := l) (i := i) (j := j)) hl
  refine ⟨_, by walk_at "t", ?_, ?_⟩
  · rintro ⟨ha, hfm⟩ P'
    replace ha : S.a + 12 ≤ l.length := by walk_at "om"
    have hst := p1.step ha
    (with_reducible apply WS.assignG); rfl; rfl; (with_reducible apply Rv.call); walk_at "es"; rfl
    exact copy_at_ct l S.a S.b D2 S.c _ hl hba ha w1.t.1 lo
    rfl; assumption; rfl
    rintro v led2 (⟨hcr, rfl, rfl⟩ | ⟨x, y, z, r, hcr, rfl, rfl⟩)
    · obtain ⟨e1, e2⟩ := lz_none w1 ha hcr
      rw [e1] at hst
      refine ⟨isV .none, rfl, ?_⟩
      intro σ'
      walk_at "s"
      · walk_at "s"
        walk_at "s"
        walk_at "s"
        exact LoopP.end ⟨S.found, S.b, S.a + 1, kdfPut S.c (wordI l S.a) S.a⟩ ⟨⟨hst.1, p2⟩, dec2 (lt_ge (k := 11) ha) (Nat.lt_succ_self _)⟩ (by walk_at "sub") (Le.refl _)
      · exact absurd trivial hn'
    · obtain ⟨p, o, m, rfl, rfl, rfl, h1, h2, h3, h4, h5, h6, h7, h8, e1, e2⟩ := lz_some w1 ha hcr
      rw [e1] at hst
      clear h8
      have hsl := seqL_len ((l.drop (S.b : Int).toNat).take ((p : Int).toNat - (S.b : Int).toNat)) o m
      have hz9 := add_big (Nat.le_of_lt (most_len hfm hm')) (Nat.le_trans hsl (Nat.le_trans (Nat.add_le_add_right (hT _ _) 5) (by decide)))
      have htl := (w1.t.put (Nat.lt_succ_self S.a)).1.1
      refine ⟨isV (.ref r), rfl, ?_⟩
      intro σ'
      walk_at "s"
      · exact hp'.elim
      · walk_at "s"
        walk_at "s"
        walk_at "s"
        walk_at "s"
        walk_at "s"
        walk_at "s"
        refine LoopP.end ⟨S.found ++ seqL ((l.drop S.b).take (p - S.b)) o m, p + m, p + m, _⟩ ⟨⟨hst.1, ?_⟩, ?_⟩ (by walk_at "sub") ?_
        · show (S.found ++ seqL ((l.drop (S.b : Int).toNat).take ((p : Int).toNat - (S.b : Int).toNat)) o m).length ≤ 2 * (p + m)
          rw [List.length_append]
          exact grow p2 (Nat.le_trans hsl (Nat.add_le_add_right (List.length_take_le _ _) 5)) h1 h5
        · exact dec2 (lt_ge (k := 11) ha) (lt_ge (k := 3) h6)
        · rw [pm2 h5]
          exact .drop (Le.refl _)
  · intro hn
    have hll := lastL_len (l.drop (S.b : Int).toNat)
    rw [List.length_drop] at hll
    have hz9 := add_big (twice_le p2 hba hal hl) (Nat.le_trans hll.1 (sub_big hl))
    by_cases ha : S.a + 12 ≤ l.length
    · have hfm : most < S.found.length := by walk_at "om"
      walk_at "s"
      walk_at "s"
      · simp only [List.length_append] at hp'
        exfalso; walk_at "om"
      · exact ⟨led, .drop (.drop (Le.refl _)), And.intro (.inr ⟨by walk_at "om", hv'⟩) rfl⟩
    · have hfin : S.found ++ lastL (l.drop (S.b : Int).toNat) = lzF l := p1.fin ha
      walk_at "s"
      walk_at "s"
      · exact ⟨led, .drop (.drop (Le.refl _)), And.intro (.inl ⟨by rw [← hfin]; exact hp', toB hfin _ hv'⟩) rfl⟩
      · exact ⟨led, .drop (.drop (Le.refl _)), And.intro (.inr ⟨by rw [← hfin]; walk_at "om", hv'⟩) rfl⟩
end
section
theorem len_oct {x : List UInt8} {a t n e : Int} (h : (t < 15 ∧ n = t ∧ e = a) ∨ (t = 15 ∧ a < x.length ∧ (x.getD a.toNat 0).toNat < 255 ∧ n = 15 + (x.getD a.toNat 0).toNat ∧ e = a + 1)) : LenOk x a t n e :=
  h.imp id fun ⟨h1, h2, h3, h4, h5⟩ => ⟨h1, h2, Int.ofNat_lt.mpr h3, h4, h5⟩
local macro_rules | `(tactic| walk_at "ct") => `(tactic| (with_reducible apply length_in_ct) <;> first | exact hA | walk_at "om")
theorem lz4_unpack_ct {w} (l pad x : List UInt8) (led : Led) (hl : l.length ≤ 100) (hx : x = lzF l ++ pad) (hxl : x.length ≤ 200) : Ct true 3 w "lz4_unpack" 135 led [isB x, isI l.length] (fun v led' => isB l v ∧ led' = led) := by
  walk_at "enter"
  walk_at "s"
  refine WS.while (fun S : LS => [("found", isV (.ref D)), ("at", isI S.found.length), ("octets", isB x), ("size", isI l.length)]) (fun S => (D, isBa (l.take S.b)) :: led) (fun S => LR l S) (fun S => l.length - S.b) lz0 (LR.init l) (by walk_at "sub") (Le.refl _) ?_
  intro S p1 σ' l'
  refine ⟨_, by walk_at "t", ?_, fun hn => absurd rfl hn⟩
  intro _ P'
  have hbl : S.b ≤ l.length := Nat.le_trans p1.1.ba p1.1.al
  have hlt : (l.take S.b).length = S.b := by rw [List.length_take]; walk_at "om"
  have k0 := octI_ok x S.found.length
  have hz := fun i j => ext_z (a := l.take S.b) (x := x) (i := i) (j := j) (by rw [hlt]; exact Nat.le_trans hbl (Nat.le_trans hl (by decide))) (Nat.le_trans hxl (by decide))
  rcases p1.dec hx hl with ⟨g1, g2, g3, g4⟩ | ⟨p, o, m, S', q1, q2, ⟨g1, g2, g3, g4, g5, g6, g7, g8, g9, g10, g11, g12, g13, g14⟩⟩
  · have hA := len_oct (lenA (k := 0) g1 (by decide) g2 (by walk_at "om") (by walk_at "om"))
    walk_at "sF"
    walk_at "s"
    walk_at "tupc"
    rintro v led2 ⟨r, rfl, rfl⟩
    refine TupP.here rfl ?_
    intro σ'
    walk_at "sF"
    walk_at "sF"
    walk_at "s"
    have e : l.take S.b ++ (x.drop ((S.found.length + 1 + mo (l.length - S.b) : Nat) : Int).toNat).take ((((S.found.length + 1 + mo (l.length - S.b) : Nat) : Int) + ((l.length - S.b : Nat) : Int)).toNat - ((S.found.length + 1 + mo (l.length - S.b) : Nat) : Int).toNat) = l := by
      rw [← Int.natCast_add, Int.toNat_natCast, Int.toNat_natCast, Nat.add_sub_cancel_left, g3, List.take_append_drop]
    refine WS.weak (Sub.refl _) (.keep (toBa e) (Le.refl _)) ?_
    walk_at "s"
    walk_at "sT"
    walk_at "s"
    exact ⟨led, .drop (Le.refl _), And.intro hv' rfl⟩
  · have hA := len_oct (lenA (k := min (m - 4) 15) g1 (Nat.lt_of_le_of_lt (Nat.min_le_right _ _) (by decide)) g2 (by walk_at "om") (by walk_at "om"))
    have hB := len_oct (lenB (x := x) (z := ((S.found.length + 1 + mo (p - S.b) : Nat) : Int) + ((p - S.b : Nat) : Int)) g1 (by walk_at "om") g6 (by walk_at "om") (by walk_at "om"))
    walk_at "sF"
    walk_at "s"
    walk_at "tupc"
    rintro v led2 ⟨r, rfl, rfl⟩
    refine TupP.here rfl ?_
    intro σ'
    walk_at "sF"
    walk_at "sF"
    walk_at "s"
    have e : l.take S.b ++ (x.drop ((S.found.length + 1 + mo (p - S.b) : Nat) : Int).toNat).take ((((S.found.length + 1 + mo (p - S.b) : Nat) : Int) + ((p - S.b : Nat) : Int)).toNat - ((S.found.length + 1 + mo (p - S.b) : Nat) : Int).toNat) = l.take p := by
      rw [← Int.natCast_add, Int.toNat_natCast, Int.toNat_natCast, Nat.add_sub_cancel_left, g3, take_ext, Nat.add_sub_cancel' g9]
    refine WS.weak (Sub.refl _) (.keep (toBa e) (Le.refl _)) ?_
    have hlp : (l.take p).length = p := by rw [List.length_take]; walk_at "om"
    walk_at "s"
    walk_at "sF"
    (with_reducible apply WS.assignG); rfl; rfl; (with_reducible apply Rv.call); walk_at "es"; rfl
    refine copy_in_ct l x p m o _ _ _ _ D led hl hxl ?_ ?_ ?_ ?_ ?_ ?_ hB ?_ ?_ g10 g11 g14
    · walk_at "om"
    · walk_at "om"
    · rw [← Int.natCast_add]; exact congrArg Int.ofNat g4
    · rw [← Int.natCast_add]; exact congrArg Int.ofNat g5
    · walk_at "om"
    · walk_at "om"
    · walk_at "om"
    · walk_at "om"
    rfl; assumption; rfl
    rintro v led2 ⟨hv, rfl⟩
    refine ⟨_, hv, ?_⟩
    intro σ'
    walk_at "s"
    exact LoopP.end S' ⟨q1, by walk_at "om"⟩ (by walk_at "sub") (.keep (toBa (by rw [q2])) (Le.refl _))
end
section
local macro_rules | `(tactic| walk_at "ct") => `(tactic| (with_reducible first | apply zle_pack_ct | apply lzjb_pack_ct | apply lz4_pack_ct) <;> walk_at "om")
local macro_rules | `(tactic| walk_at "ct") => `(tactic| (with_reducible first | apply zle_unpack_ct | apply lzjb_unpack_ct | apply lz4_unpack_ct) <;> first | assumption | walk_at "om")
theorem round_up_ct {b w} (x y : Nat) (led : Led) (hy : 0 < y) (hy' : y ≤ 16) (hx' : x ≤ 1000) : Ct b 1 w "round_up" 198 led [isI x, isI y] (fun v led' => isI (upN x y) v ∧ led' = led) := by
  walk_at "enter"
  have e : ((x : Int) + y - 1) / y = ((x + y - 1) / y : Nat) := by rw [show (x : Int) + y - 1 = (x + y - 1 : Nat) by omega, ← Int.natCast_ediv]
  have h2 := Nat.div_le_self (x + y - 1) y
  walk_at "s"
  exact fin1 (toI (by rw [e, ← Int.natCast_mul]; rfl) _ hv') rfl
theorem pack_by_ct {w} (which : Nat) (l : List UInt8) (most : Int) (led : Led) (hw : which = 1 ∨ which = 2 ∨ which = 3) (hl : l.length ≤ 100) (hm : 0 ≤ most) (hm' : most ≤ 100000) : Ct true 4 w "pack_by" 233 led [isI which, isB l, isI most] (fun v led' => packP (pkF which l) most v ∧ led' = led) := by
  walk_at "enter"
  rcases hw with rfl | rfl | rfl
  · walk_at "sT"
    walk_at "s"
    exact ⟨_, Le.refl _, hv'⟩
  · walk_at "sF"
    walk_at "sT"
    walk_at "s"
    exact ⟨_, Le.refl _, hv'⟩
  · walk_at "sF"
    walk_at "sF"
    walk_at "sT"
    walk_at "s"
    exact ⟨_, Le.refl _, hv'⟩
theorem unpacked_ct {w} (which : Nat) (l pad x : List UInt8) (led : Led) (hw : which ≤ 3) (hl : l.length ≤ 100) (hx : x = (if which = 0 then l else pkF which l) ++ pad) (hxl : x.length ≤ 200) : Ct true 4 w "unpacked" 247 led [isI which, isB x, isI l.length] (fun v led' => isB l v ∧ led' = led) := by
  walk_at "enter"
  have h4 : which = 0 ∨ which = 1 ∨ which = 2 ∨ which = 3 := by omega
  rcases h4 with rfl | rfl | rfl | rfl
  · replace hx : x = l ++ pad := hx
    have hxx : l.length ≤ x.length := by rw [hx, List.length_append]; exact Nat.le_add_right _ _
    have hxt : List.take ((l.length : Nat) : Int).toNat x = l := by rw [hx]; exact List.take_left' rfl
    walk_at "sT"
    walk_at "sF"
    walk_at "s"
    exact fin1 (toB hxt _ hv') rfl
  · replace hx : x = zleF l ++ pad := hx
    walk_at "sF"
    walk_at "sT"
    walk_at "s"
    exact ⟨_, Le.refl _, hv'⟩
  · replace hx : x = jbF l ++ pad := hx
    walk_at "sF"
    walk_at "sF"
    walk_at "sT"
    walk_at "s"
    exact ⟨_, Le.refl _, hv'⟩
  · replace hx : x = lzF l ++ pad := hx
    walk_at "sF"
    walk_at "sF"
    walk_at "sF"
    walk_at "sT"
    walk_at "s"
    exact ⟨_, Le.refl _, hv'⟩
end
section
local macro_rules | `(tactic| walk_at "ct") => `(tactic| (with_reducible first | apply round_up_ct | apply padded_ct | apply pack_by_ct) <;> first | assumption | walk_at "om")
theorem packed_ct {w} (which n : Nat) (l : List UInt8) (led : Led) (hw : which ≤ 3) (hl : l.length ≤ 60) (hn : 0 < n) (hn' : n ≤ 16) : Ct true 5 w "packed" 240 led [isI which, isB l, isI n] (fun v led' => ∃ r, v = .ref r ∧ led' = (r, isTup [isI (dueW which l n), isB (dueL which l n)]) :: led) := by
  walk_at "enter"
  have u1 := upN_ge (n := l.length) hn
  have u2 := upN_lt (n := l.length) hn
  have g1 := upN_ge (n := (pkF which l).length) hn
  have g2 := upN_lt (n := (pkF which l).length) hn
  have z1 : ∀ x : List UInt8, x ++ List.replicate (((upN x.length n : Nat) : Int) - ((x.length : Nat) : Int)).toNat 0 = wholeL x n := fun x => by
    unfold wholeL; rw [Int.toNat_sub]
  walk_at "s"
  by_cases hd : dueOk which l n
  · obtain ⟨d1, d2, d3⟩ := hd
    have d4 := (fits_iff hn d2).mpr d3
    have hw' : which = 1 ∨ which = 2 ∨ which = 3 := by omega
    walk_at "sT"
    (with_reducible apply WS.assignG); rfl; rfl; walk_at "rv"
    obtain ⟨⟨h1, h2⟩ | ⟨h1, h2⟩, rfl⟩ := hv'
    · refine ⟨_, h2, ?_⟩
      intro σ'
      walk_at "sT"
      walk_at "s"
      exact ⟨_, Le.refl _, Exists.intro r' (And.intro rfl (by rw [z1]; unfold dueW dueL; rw [if_pos ⟨d1, d2, d3⟩, if_pos ⟨d1, d2, d3⟩]))⟩
    · exfalso; walk_at "om"
  · have e : isTup [isI 0, isB (l ++ List.replicate (((upN l.length n : Nat) : Int) - ((l.length : Nat) : Int)).toNat 0)] = isTup [isI (dueW which l n : Nat), isB (dueL which l n)] := by rw [z1]; unfold dueW dueL; rw [if_neg hd, if_neg hd]; rfl
    walk_at "s"
    · have hp2 : which ≠ 0 := fun e => hp' (congrArg Int.ofNat e)
      have hw' : which = 1 ∨ which = 2 ∨ which = 3 := by omega
      (with_reducible apply WS.assignG); rfl; rfl; walk_at "rv"
      obtain ⟨⟨h1, h2⟩ | ⟨h1, h2⟩, rfl⟩ := hv'
      · refine ⟨_, h2, ?_⟩
        intro σ'
        have d4 : ¬ 0 < (pkF which l).length := fun h => hd ⟨hp2, h, (fits_iff hn h).mp (by walk_at "om")⟩
        walk_at "sF"
        walk_at "s"
        walk_at "s"
        exact ⟨_, Le.refl _, Exists.intro r' (And.intro rfl (by rw [e]))⟩
      · refine ⟨isV .none, h2, ?_⟩
        intro σ'
        walk_at "sF"
        walk_at "s"
        walk_at "s"
        exact ⟨_, Le.refl _, Exists.intro r' (And.intro rfl (by rw [e]))⟩
    · walk_at "s"
      exact ⟨_, Le.refl _, Exists.intro r' (And.intro rfl (by rw [e]))⟩
theorem law_whole_ct {b w} (x : List UInt8) (n : Nat) (led : Led) (hl : x.length ≤ 200000) (hn : 0 < n) (hn' : n ≤ 16) : Ct b 1 w "_law_whole" 282 led [isB x, isI n] (fun v led' => isB (wholeL x n) v ∧ led' = led) := by
  have u1 := upN_ge (n := x.length) hn
  have u2 := upN_lt (n := x.length) hn
  walk_at "enter"
  refine WS.while (fun j : Nat => [("octets", isB (x ++ List.replicate j 0)), ("sector", isI n)]) (fun _ => led) (fun j => x.length + j ≤ upN x.length n) (fun j => upN x.length n - j) 0 u1 (.cons rfl (toB (List.append_nil x).symm) (by walk_at "sub")) (Le.refl _) ?_
  intro j p1 σ' l'
  have hj := up_stop hn p1
  have e : (((x ++ List.replicate j (0 : UInt8)).length : Nat) : Int) % n = ((x.length + j) % n : Nat) := by rw [List.length_append, List.length_replicate, Int.natCast_emod]
  refine ⟨_, by walk_at "t", ?_, ?_⟩
  · intro hp P'
    have hlt : ¬ x.length + j = upN x.length n := fun q => hp (e.trans (congrArg Int.ofNat (hj.mpr q)))
    walk_at "s"
    walk_at "s"
    exact LoopP.end (j + 1) ⟨by walk_at "om", by walk_at "om"⟩ (.cons rfl (toB (by rw [List.replicate_succ', List.append_assoc])) (by walk_at "sub")) (Le.refl _)
  · intro hn2
    have e2 : x.length + j = upN x.length n := hj.mp (Int.ofNat.inj (e.symm.trans (Classical.not_not.mp hn2)))
    walk_at "s"
    exact fin1 (toB (by unfold wholeL; rw [show upN x.length n - x.length = j by walk_at "om"]) _ hv') rfl
end
section
local macro_rules | `(tactic| walk_at "ct") => `(tactic| (with_reducible apply law_whole_ct) <;> walk_at "om")
theorem law_due_ct {w} (which n : Nat) (l : List UInt8) (led : Led) (hw : which ≤ 3) (hl : l.length ≤ 60) (hn : 0 < n) (hn' : n ≤ 16) : Ct true 5 w "_law_due" 289 led [isI which, isB l, isI n] (fun v led' => ∃ r, v = .ref r ∧ led' = (r, isTup [isI (dueW which l n), isB (dueL which l n)]) :: led) := by
  walk_at "enter"
  have wl := whole_len (l := l) hn
  have wp := whole_len (l := pkF which l) hn
  have wg := upN_ge (n := (pkF which l).length) hn
  have wg2 := upN_lt (n := l.length) hn
  have wg3 := upN_lt (n := (pkF which l).length) hn
  have no : ¬ dueOk which l n → isTup [isI 0, isB (wholeL l n)] = isTup [isI (dueW which l n), isB (dueL which l n)] := fun h => by unfold dueW dueL; rw [if_neg h, if_neg h]; rfl
  walk_at "s"
  by_cases h0 : which = 0
  · walk_at "sT"
    walk_at "s"
    exact ⟨_, Le.refl _, Exists.intro r' (And.intro rfl (by rw [no fun h => h.1 h0]))⟩
  walk_at "sF"
  obtain ⟨f, x, hx, ct⟩ : ∃ f x, [isV (.ref 219), isV (.ref 170), isV (.ref 114)][((which : Int) - 1).toNat]? = some (isV (.ref f)) ∧ Ct true 3 w x f led [isB l, isI 100000] fun v led' => packP (pkF which l) 100000 v ∧ led' = led := by
    have h4 : which = 1 ∨ which = 2 ∨ which = 3 := by omega
    rcases h4 with rfl | rfl | rfl
    · exact ⟨_, _, rfl, ⟨(zle_pack_ct l 100000 led (by omega) (by decide) (by decide)).fn, fun C σ vs s Q E hr => (zle_pack_ct l 100000 led (by omega) (by decide) (by decide)).run C σ vs s Q E (hr.le (by decide))⟩⟩
    · exact ⟨_, _, rfl, lzjb_pack_ct l 100000 led (by omega) (by decide) (by decide)⟩
    · exact ⟨_, _, rfl, lz4_pack_ct l 100000 led (by omega) (by decide) (by decide)⟩
  (with_reducible apply WS.assignG); rfl; rfl; (with_reducible apply Rv.callIdx)
  walk_at "es"; rfl; (intro led; walk_at "e"); exact fun _ _ => rfl; omega; omega; exact hx; walk_at "es"; rfl; exact ct; assumption; rfl
  rintro v led2 ⟨⟨h1, h2⟩ | ⟨h1, h2⟩, rfl⟩
  · refine ⟨_, h2, ?_⟩
    intro σ'
    by_cases hd : dueOk which l n
    · have hne : pkF which l ≠ [] := fun e => by have := hd.2.1; rw [e] at this; exact absurd this (by decide)
      have hlt := hd.2.2
      (with_reducible apply WS.ifN); walk_at "t"
      · rintro (h | h | h)
        · exact h
        · exact hne h
        · omega
      walk_at "s"
      exact ⟨_, Le.refl _, Exists.intro r' (And.intro rfl (by unfold dueW dueL; rw [if_pos hd, if_pos hd]))⟩
    · walk_at "s"
      · walk_at "s"
        exact ⟨_, Le.refl _, Exists.intro r' (And.intro rfl (by rw [no hd]))⟩
      · exact absurd ⟨h0, List.length_pos_iff.mpr fun e => hn' (.inr (.inl e)), by have : ¬ _ := fun e => hn' (.inr (.inr e)); omega⟩ hd
  · refine ⟨isV .none, h2, ?_⟩
    intro σ'
    walk_at "s"
    · walk_at "s"
      exact ⟨_, Le.refl _, Exists.intro r' (And.intro rfl (by rw [no fun h => by have := h.2.2; omega]))⟩
    · exact absurd trivial hn'
end
section
theorem law_draw_ct {b w} (k m : Int) (Hd Sc : Addr) (ns : List Int) (led led' : Led) (U : LUpd Hd (isLst [isI k]) (isLst [isI (k + 1)]) led led') (hs : (Sc, isLst (ns.map isI)) ∈ led') (hk : 0 ≤ k) (hm : 0 < m) (hl : ns.length ≤ 63) :
    Ct b 1 w "_law_draw" 268 led [isV (.ref Sc), isV (.ref Hd), isI m] (fun v l => (∃ x, 0 ≤ x ∧ x < m ∧ isI x v) ∧ l = led') := by
  walk_at "enter"
  have m0 := U.mem
  have m1 := U.mem'
  have e0 : ((ns.map isI).length : Int) = ns.length := by rw [List.length_map]
  walk_at "s"
  walk_at "s"
  · walk_at "s"
    exact ⟨_, Le.refl _, ⟨_, by decide, hm, hv'⟩, rfl⟩
  · have hj : (ns.map isI)[(k + 1 - 1).toNat]? = some (isI (ns.getD (k + 1 - 1).toNat 0)) := by
      rw [List.getElem?_map, List.getD_eq_getElem?_getD, List.getElem?_eq_getElem (by walk_at "om")]; rfl
    walk_at "s"
    exact ⟨_, Le.refl _, ⟨_, Int.emod_nonneg _ (Int.ne_of_gt hm), Int.emod_lt_of_pos _ hm, hv'⟩, rfl⟩
local macro_rules | `(tactic| walk_at "ct") => `(tactic| (apply law_draw_ct; (first | exact hU _ _ | exact .tail (hU _ _)); (first | exact hS _ | exact .tail _ (hS _)); walk_at "om"; walk_at "om"; assumption))
theorem add24 {a b i : Nat} (h : a ≤ 24 * i) (h2 : b ≤ 24) : a + b ≤ 24 * (i + 1) := Nat.add_le_add h h2
theorem few_len {a i n : Nat} (h : a ≤ 24 * i) (hi : i < n) (hn : (n : Int) < 5) : a ≤ 1000 := by omega
theorem mod25 {d : Int} : (d % 25).toNat ≤ 24 := by omega
theorem big_le {a : Nat} (h : a ≤ 1000) : a ≤ 16777216 := Nat.le_trans h (by decide)
theorem app24 {x y : List UInt8} {i : Nat} (h : x.length ≤ 24 * i) (h2 : y.length ≤ 24) : (x ++ y).length ≤ 24 * (i + 1) := by rw [List.length_append]; exact add24 h h2
theorem law_octets_ct {w} (k : Int) (Hd Sc : Addr) (ns : List Int) (lf : Int → Led) (hU : ∀ a b, LUpd Hd (isLst [isI a]) (isLst [isI b]) (lf a) (lf b)) (hS : ∀ a, (Sc, isLst (ns.map isI)) ∈ lf a) (hk : 0 ≤ k) (hl : ns.length ≤ 63) :
    Ct true 2 w "_law_octets" 275 (lf k) [isV (.ref Sc), isV (.ref Hd)] (fun v l => (∃ x : List UInt8, x.length ≤ 60 ∧ isB x v) ∧ ∃ k', 0 ≤ k' ∧ l = lf k') := by
  walk_at "enter"
  walk_at "s"
  refine WS.forG (fun c : List UInt8 × Int => [("found", isB c.1), ("script", isV (.ref Sc)), ("hand", isV (.ref Hd))]) (fun c => lf c.2) (fun i c => c.1.length ≤ 24 * i ∧ 0 ≤ c.2) rfl rfl rfl ?_
  walk_at "rv"
  obtain ⟨⟨n, n0, n1, hv'⟩, rfl⟩ := hv'
  obtain ⟨n, rfl⟩ := Int.eq_ofNat_of_zero_le n0
  refine ⟨n, hv', by walk_at "om", ([], k + 1), ⟨Nat.zero_le _, Int.add_nonneg hk (by decide)⟩, by walk_at "sub", Le.refl _, ?_, ?_⟩
  · rintro It i ⟨x, j⟩ hi ⟨p1, p2⟩
    dsimp -zeta only at p1 p2 ⊢
    intro σ' l' P'
    (with_reducible apply WS.assignG); rfl; rfl; walk_at "rv"
    obtain ⟨⟨d, d0, d1, hv'⟩, rfl⟩ := hv'
    refine ⟨_, hv', ?_⟩
    intro σ'
    clear hv' hU hS hl hk
    have hm : (d / 1024 % 25).toNat ≤ 24 := mod25
    have hx9 := few_len p1 hi n1
    have hz := fun i j => add_big (Nat.le_trans hx9 (by decide)) (Nat.le_trans (td_len (x := x) (i := i) (j := j)) hx9)
    have hz1 := fun i => big_le (Nat.le_trans (by rw [List.length_drop]; exact Nat.sub_le _ _ : (x.drop i).length ≤ x.length) hx9)
    walk_at "s"
    walk_at "s"
    · walk_at "s"
      (repeat walk_at "s")
      refine ForP.end (τ := List UInt8 × Int) (_, j + 1) ?_ (by walk_at "sub") (Le.refl _)
      exact And.intro (app24 p1 (by rw [List.length_replicate]; exact hm)) (Int.add_nonneg p2 (by decide))
    walk_at "s"
    · walk_at "s"
      (repeat walk_at "s")
      refine ForP.end (τ := List UInt8 × Int) (_, j + 1) ?_ (by walk_at "sub") (Le.refl _)
      exact And.intro (app24 p1 (by rw [List.length_replicate]; exact hm)) (Int.add_nonneg p2 (by decide))
    walk_at "s"
    · have hx := List.length_pos_iff.mpr hp'.2
      have hy := Int.emod_nonneg (d / 4 % 256) (b := x.length) (by omega)
      walk_at "s"
      (repeat walk_at "s")
      refine ForP.end (τ := List UInt8 × Int) (_, j + 1) ?_ (by walk_at "sub") (Le.refl _)
      exact And.intro (app24 p1 (Nat.le_trans (List.length_take_le _ _) hm)) (Int.add_nonneg p2 (by decide))
    · walk_at "s"
      (repeat walk_at "s")
      refine ForP.end (τ := List UInt8 × Int) (_, j + 1) ?_ (by walk_at "sub") (Le.refl _)
      exact And.intro (app24 p1 (by decide : 3 ≤ 24)) (Int.add_nonneg p2 (by decide))
  · rintro ⟨x, j⟩ ⟨p1, p2⟩
    dsimp only at p1 p2
    walk_at "s"
    exact ⟨_, Le.refl _, ⟨_, by walk_at "z", hv'⟩, j, p2, rfl⟩
end
section
theorem unp4_cx {w} (which n : Int) (x : List UInt8) (led : Led) (hw : which ≠ 0 ∧ which ≠ 1 ∧ which ≠ 2 ∧ which ≠ 3) : CtX 3 w "unpacked" 247 led [isI which, isB x, isI n] 44 "no such packing" := by
  walk_at "xenter"
  obtain ⟨h0, h1, h2, h3⟩ := hw
  walk_at "x"
  walk_at "x"
  walk_at "x"
  walk_at "x"
  walk_at "x"
theorem unp0_cx {w} (n : Int) (x : List UInt8) (led : Led) (hx : (x.length : Int) < n) (hl : x.length ≤ 1000) : CtX 3 w "unpacked" 247 led [isI 0, isB x, isI n] 44 "too short" := by
  walk_at "xenter"
  walk_at "x"
  walk_at "x"
  walk_at "x"
theorem packby4_cx {w} (which n : Int) (x : List UInt8) (led : Led) (hw : which ≠ 0 ∧ which ≠ 1 ∧ which ≠ 2 ∧ which ≠ 3) : CtX 3 w "pack_by" 233 led [isI which, isB x, isI n] 56 "no such packing" := by
  walk_at "xenter"
  obtain ⟨h0, h1, h2, h3⟩ := hw
  walk_at "x"
  walk_at "x"
  walk_at "x"
  walk_at "x"
theorem zle0_cx {w} (n : Int) (led : Led) (hn : 0 < n) : CtX 3 w "zle_unpack" 226 led [isB [], isI n] 44 "too short" := by
  walk_at "xenter"
  walk_at "x"
  walk_at "x"
  walk_at "x"
  walk_at "x"
theorem jb0_cx {w} (n : Int) (led : Led) (hn : 0 < n) : CtX 3 w "lzjb_unpack" 184 led [isB [], isI n] 44 "too short" := by
  walk_at "xenter"
  walk_at "x"
  walk_at "x"
  walk_at "x"
  walk_at "x"
  walk_at "x"
theorem lz0_cx {w} (n : Int) (led : Led) (hn : 0 < n) : CtX 3 w "lz4_unpack" 135 led [isB [], isI n] 44 "too short" := by
  walk_at "xenter"
  walk_at "x"
  walk_at "x"
  walk_at "x"
  walk_at "x"
local macro_rules | `(tactic| walk_at "ct") => `(tactic| (with_reducible first | apply zle0_cx | apply jb0_cx | apply lz0_cx) <;> walk_at "om")
theorem unpe_cx {w} (which : Nat) (n : Int) (led : Led) (hw : which = 1 ∨ which = 2 ∨ which = 3) (hn : 0 < n) : CtX 4 w "unpacked" 247 led [isI which, isB [], isI n] 44 "too short" := by
  walk_at "xenter"
  walk_at "x"
  rcases hw with rfl | rfl | rfl
  · walk_at "x"
    walk_at "x"
  · walk_at "x"
    walk_at "x"
    walk_at "x"
  · walk_at "x"
    walk_at "x"
    walk_at "x"
    walk_at "x"
local macro_rules | `(tactic| walk_at "ct") => `(tactic| (with_reducible first | apply packby4_cx | apply round_up_ct) <;> first | assumption | walk_at "om")
theorem packed4_cx {w} (which : Int) (n : Nat) (x : List UInt8) (led : Led) (hw : which ≠ 0 ∧ which ≠ 1 ∧ which ≠ 2 ∧ which ≠ 3) (hx : x.length ≤ 60) (hn : 0 < n) (hn' : n ≤ 16) : CtX 4 w "packed" 240 led [isI which, isB x, isI n] 56 "no such packing" := by
  walk_at "xenter"
  walk_at "x"
  walk_at "x"
  walk_at "x"
end
section
def names4 : List Str := ["plain", "zle", "lzjb", "lz4"]
theorem packing_names_ct {b w} (led : Led) : Ct b 1 w "packing_names" 254 led [] (fun v l => ∃ r, v = .ref r ∧ l = (r, isLst (names4.map isS)) :: led) := by
  walk_at "enter"
  (with_reducible refine WS.ret ?_)
  (with_reducible apply Rv.list)
  · exact Evs.cons Ev.str (.cons Ev.str (.cons Ev.str (.cons Ev.str .nil rfl) rfl) rfl) rfl
  · rfl
  · intro r
    exact ⟨_, Le.refl _, Exists.intro r (And.intro rfl rfl)⟩
end
section
theorem due_pad (which : Nat) (l : List UInt8) (n : Nat) : ∃ pad, dueL which l n = (if dueW which l n = 0 then l else pkF (dueW which l n) l) ++ pad := by
  unfold dueL dueW
  by_cases h : dueOk which l n
  · rw [if_pos h, if_pos h, if_neg h.1]; exact ⟨_, rfl⟩
  · rw [if_neg h, if_neg h, if_pos rfl]; exact ⟨_, rfl⟩
theorem due_len {which : Nat} {l : List UInt8} {n : Nat} (hn : 0 < n) (hn' : n ≤ 16) (hl : l.length ≤ 60) : (dueL which l n).length ≤ 80 := by
  unfold dueL
  have a1 := upN_lt (n := l.length) hn
  by_cases h : dueOk which l n
  · rw [if_pos h, whole_len hn]; have := h.2.2; (first | lia | omega)
  · rw [if_neg h, whole_len hn]; (first | lia | omega)
theorem due_w {which : Nat} {l : List UInt8} {n : Nat} (hw : which ≤ 3) : dueW which l n ≤ 3 := by
  unfold dueW
  split <;> (first | lia | omega)
def blkL (Hd Sc : Addr) (ns : List Int) (pre post : Led) (k : Int) (ps : Array Value) (cds : List (Addr × Obj)) : Led := pre ++ (Hd, isLst [isI k]) :: (Sc, isLst (ns.map isI)) :: (TabL 298 ps cds ++ post)
theorem isO_fn {name qual : Str} {params : Arguments} {body : PySem.Expr} {scope : Scope} {clos : List (Str × Addr)} {pm ctv : Value} {c' : Addr} : ∀ o, isO (kla_obj name qual params body scope clos pm c' ctv) o → ∃ fd, o.data = .func fd := fun o h => ⟨_, congrArg Obj.data h⟩
theorem blk_eq (Hd Sc : Addr) (ns : List Int) (l pre post : Led) (k : Int) (ps : Array Value) (cds : List (Addr × Obj)) : l ++ blkL Hd Sc ns pre post k ps cds = (l ++ (pre ++ [(Hd, isLst [isI k]), (Sc, isLst (ns.map isI))])) ++ (TabL 298 ps cds ++ post) := by simp [blkL]
theorem le_app {l' : Led} : ∀ l : Led, Le (l ++ l') l'
  | [] => Le.refl _
  | _ :: l => .drop (le_app l)
theorem blk_le (Hd Sc : Addr) (ns : List Int) (l pre post : Led) (k : Int) (ps : Array Value) (cds : List (Addr × Obj)) : Le ((l ++ (pre ++ [(Hd, isLst [isI k]), (Sc, isLst (ns.map isI))])) ++ (TabL 298 ps cds ++ post)) (blkL Hd Sc ns pre post k ps cds) := by
  rw [← blk_eq]; exact le_app l
theorem tabL_mem {P : Addr} {ps : Array Value} {cds : List (Addr × Obj)} {post : Led} {c : Addr} {o : Obj} (h : (c, o) ∈ cds) : (c, isO o) ∈ TabL P ps cds ++ post := List.mem_append_left _ (.tail _ (List.mem_map.mpr ⟨(c, o), h, rfl⟩))
local macro_rules | `(tactic| walk_at "ct") => `(tactic| (apply law_draw_ct; exact hU _ _; exact hS _; walk_at "om"; walk_at "om"; assumption))
theorem block_ct {w} (k : Int) (Hd Sc : Addr) (ns : List Int) (pre post : Led) (ps : Array Value) (cds : List (Addr × Obj)) (hk : 0 ≤ k) (hl : ns.length ≤ 63) (TS : TabSt "_law_block_right.<locals>.<lambda>" ps cds) :
    CtSR 9 w 303 (blkL Hd Sc ns pre post k ps cds) [isV (.ref Sc), isV (.ref Hd)] (fun v l => v = .bool true ∧ ∃ k' ps' cds', 0 ≤ k' ∧ TabSt "_law_block_right.<locals>.<lambda>" ps' cds' ∧ l = blkL Hd Sc ns pre post k' ps' cds') := by
  refine ctS_enter2 (x1 := "script") (x2 := "hand") (y1 := "told") (y2 := "octets") (by k_is) (by k_is) (by ((repeat intro _); rfl)) (by rfl) (by intro n; rfl) ?_
  intro C' c1 c2 ht hcl hcn hccd r' σ' P' l'
  have hU : ∀ a b, LUpd Hd (isLst [isI a]) (isLst [isI b]) ((c1, isCl0) :: (c2, isCl0) :: blkL Hd Sc ns pre post a ps cds) ((c1, isCl0) :: (c2, isCl0) :: blkL Hd Sc ns pre post b ps cds) := fun a b => .tail (.tail (LUpd.app .head pre))
  have hS : ∀ a, (Sc, isLst (ns.map isI)) ∈ (c1, isCl0) :: (c2, isCl0) :: blkL Hd Sc ns pre post a ps cds := fun a => .tail _ (.tail _ (List.mem_append_right _ (.tail _ (.head _))))
  (with_reducible apply WS.tupD); rfl; rfl; rfl
  (with_reducible apply Evd.rv)
  · (with_reducible apply Rv.call); walk_at "es"; rfl; walk_at "ct"; rfl; assumption; rfl
    rintro v' led' ⟨⟨x0, h0, h1, hv'⟩, rfl⟩
    refine ⟨_, hv', ?_⟩
    (with_reducible apply Evd.rv)
    · (with_reducible apply Rv.add1); walk_at "e"
      (with_reducible apply Rv.call); walk_at "es"; rfl; walk_at "ct"; rfl; assumption; rfl
      rintro v' led' ⟨⟨x1, g0, g1, hv2⟩, rfl⟩
      obtain ⟨n, hn⟩ : ∃ n : Nat, 1 + x1 = n := ⟨(1 + x1).toNat, by omega⟩
      obtain ⟨which, rfl⟩ := Int.eq_ofNat_of_zero_le h0
      refine ⟨_, hv2, fun t => ⟨isI n, ⟨t, congrArg (Value.int · t) hn⟩, ?_⟩⟩
      (with_reducible apply Evd.nil); refine ⟨rfl, ?_⟩; intro σ'
      have hw : which ≤ 3 := by omega
      have n0 : 0 < n := by omega
      have n1 : n ≤ 16 := by omega
      have hcO : C'.cl.lookup ("octets" : Str) = some c2 := by rw [hcl]; rfl
      have hcT : C'.cl.lookup ("told" : Str) = some c1 := by rw [hcl]; rfl
      clear h0 h1 g0 g1 hv' hv2
      (with_reducible apply WS.assignC); rfl; exact hcO; rfl
      (with_reducible apply Rv.call); walk_at "es"; rfl; exact law_octets_ct (k + 1 + 1) Hd Sc ns _ hU hS (by omega) hl; rfl; assumption; rfl
      rintro v l2 ⟨⟨x, hx, hv⟩, k2, hk2, rfl⟩
      refine ⟨isB x, _, hv, .tail .head, ?_⟩
      (with_reducible apply WS.assignC); rfl; exact hcT; rfl
      (with_reducible apply Rv.call); walk_at "es"; rfl; exact packed_ct which n x _ hw hx n0 n1; rfl; assumption; rfl
      rintro v l2 ⟨r1, rfl, rfl⟩
      refine ⟨isV (.ref r1), _, rfl, .tail .head, ?_⟩
      (with_reducible apply WS.ifV); (with_reducible apply Tsv.neT); exact r'.le (by decide)
      · (with_reducible apply Rv.ev); walk_at "e"; intro v hv
        refine ⟨r1, isI (dueW which x n : Nat), isB (dueL which x n), hv, eqsI, eqsB, ?_⟩
        (with_reducible apply Rv.call); walk_at "es"; rfl; exact law_due_ct which n x _ hw hx n0 n1; rfl; assumption; rfl
        rintro v l2 ⟨r2, rfl, rfl⟩
        refine ⟨r2, rfl, .tail _ (.head _), .head _, ?_⟩
        refine WS.weak (Sub.refl _) (.drop (Le.refl _)) ?_
        have hd3 := due_w (n := n) (l := x) hw
        have hdl := due_len (which := which) n0 n1 hx
        obtain ⟨pad, hpad⟩ := due_pad which x n
        generalize dueW which x n = W at *
        generalize dueL which x n = X at *
        clear hU hS
        (with_reducible apply WS.ifV); (with_reducible apply Tsv.or); (with_reducible apply Tsv.neB)
        · (with_reducible apply Rv.call); walk_at "es"; rfl; exact unpacked_ct W x pad X _ hd3 (by omega) hpad (by omega); rfl; assumption; rfl
          rintro v l2 ⟨hv, rfl⟩
          refine ⟨hv, by walk_at "e", ?_⟩
          (with_reducible apply Tsv.neB)
          · (with_reducible apply Rv.call); walk_at "es"; rfl; exact unpacked_ct W x (pad ++ [5]) (X ++ [5]) _ hd3 (by omega) (by rw [hpad, List.append_assoc]) (by rw [List.length_append]; simp only [List.length_cons, List.length_nil]; omega); rfl; assumption; rfl
            rintro v l2 ⟨hv, rfl⟩
            refine ⟨hv, by walk_at "e", ?_⟩
            clear hpad hv
            walk_at "s"
            · obtain ⟨hW, hne⟩ := hp'
              have hpos := List.length_pos_iff.mpr hne
              (with_reducible refine WS.ret ?_)
              (with_reducible apply Rv.eqT); exact r'.le (by decide)
              · (with_reducible apply Rv.callS (f := 296)); exact ht; exact ⟨by k_is, by k_is, rfl⟩; rfl; exact r'; rfl
                (with_reducible apply Evd.rv)
                · refine Rv.led_eq (blk_eq Hd Sc ns [(r1, isTup [isI W, isB X]), (c1, isCl (isV (.ref r1))), (c2, isCl (isB x))] pre post k2 ps cds) ?_
                  refine Rv.lam (c0 := 302) (qual := "_law_block_right.<locals>.<lambda>") (clos := [("octets", c2)]) (by show C'.cn ++ _ ++ _ = _; rw [hcn]; kernel_rfl) hccd (by kernel_rfl) rfl (by show closureFor _ (envX _ _ _ _ _ C'.cl) = _; rw [hcl]; rfl) TS ?_
                  intro f c' mn ctv ps' cds' oc vsc tc TS' hoc hd hv
                  refine ⟨isV (.ref f), rfl, Evd.nil ⟨5, _, heard_ct (msg := "too short") (.inl ⟨rfl, rfl⟩) (.head _) isO_fn (lam_cx (.head _) (.tail _ (List.mem_append_right _ (tabL_mem hoc))) hd hv rfl rfl ?_), rfl, ?_⟩⟩
                  · intro D' htn hcl2 hr s Q E S q
                    have hcF : D'.cl.lookup ("octets" : Str) = some c2 := by rw [hcl2]; rfl
                    refine callX_run htn ?ha0 rfl (unp0_cx (x.length : Nat) (x.drop (1 : Int).toNat) _ ?h1 ?h2) rfl hr rfl (Le.refl _) s E S q
                    case ha0 => walk_at "es"
                    case h1 => rw [List.length_drop]; show ((x.length - 1 : Nat) : Int) < x.length; omega
                    case h2 => rw [List.length_drop]; omega
                  · rintro v l2 ⟨r, rfl, rfl⟩
                    refine ⟨r, isS "corrupt", isS "too short", rfl, eqsS, eqsS, ?_⟩
                    (with_reducible apply Rv.tup); walk_at "es"; rfl; intro r3
                    refine ⟨r3, rfl, .tail _ (.head _), .head _, ?_⟩
                    exact ⟨_, .drop (.drop (.drop (blk_le Hd Sc ns _ pre post k2 ps' cds'))), rfl, k2, ps', cds', hk2, TS', rfl⟩
                · rfl
              · rfl
            · (with_reducible refine WS.ret ?_)
              refine Rv.or (Ev.beq (y := x) (z := []) ?b1 .bytes rfl) ?b2 ?b3
              case b1 => walk_at "e"
              case b2 => exact fun _ => ⟨_, .drop (.drop (.drop (Le.refl _))), rfl, k2, ps, cds, hk2, TS, rfl⟩
              case b3 =>
                intro hne
                have hpos := List.length_pos_iff.mpr hne
                have hW : W = 1 ∨ W = 2 ∨ W = 3 := by
                  have : W ≠ 0 := fun e => hn' ⟨congrArg Int.ofNat e, hne⟩
                  omega
                (with_reducible apply Rv.eqStr)
                · (with_reducible apply Rv.sub0)
                  · (with_reducible apply Rv.callS (f := 296)); exact ht; exact ⟨by k_is, by k_is, rfl⟩; rfl; exact r'; rfl
                    (with_reducible apply Evd.rv)
                    · refine Rv.led_eq (blk_eq Hd Sc ns [(r1, isTup [isI W, isB X]), (c1, isCl (isV (.ref r1))), (c2, isCl (isB x))] pre post k2 ps cds) ?_
                      refine Rv.lam (c0 := 302) (qual := "_law_block_right.<locals>.<lambda>") (clos := [("told", c1), ("octets", c2)]) (by show C'.cn ++ _ ++ _ = _; rw [hcn]; kernel_rfl) hccd (by kernel_rfl) rfl (by show closureFor _ (envX _ _ _ _ _ C'.cl) = _; rw [hcl]; rfl) TS ?_
                      intro f c' mn ctv ps' cds' oc vsc tc TS' hoc hd hv
                      refine ⟨isV (.ref f), rfl, Evd.nil ⟨6, _, heard_ct (msg := "too short") (.inl ⟨rfl, rfl⟩) (.head _) isO_fn (lam_cx (.head _) (.tail _ (List.mem_append_right _ (tabL_mem hoc))) hd hv rfl rfl ?_), rfl, ?_⟩⟩
                      · intro D' htn hcl2 hr s Q E S q
                        have hcF : D'.cl.lookup ("octets" : Str) = some c2 := by rw [hcl2]; rfl
                        have hcG : D'.cl.lookup ("told" : Str) = some c1 := by rw [hcl2]; rfl
                        refine callX_run htn ?ha0 rfl (unpe_cx W (x.length : Nat) _ hW (by omega)) rfl hr rfl (Le.refl _) s E S q
                        case ha0 => walk_at "es"
                      · rintro v l2 ⟨r, rfl, rfl⟩
                        refine ⟨r, isS "corrupt", isS "too short", rfl, .head _, fun u hu => ⟨hu, Ev.str, ?_⟩⟩
                        exact ⟨_, .drop (.drop (blk_le Hd Sc ns _ pre post k2 ps' cds')), rfl, k2, ps', cds', hk2, TS', rfl⟩
                    · rfl
                  · exact fun _ _ => rfl
                · rfl
          · rfl
        · rfl
      · rfl
    · rfl
  · rfl
end
section
theorem packing_of_o {w} (j : Nat) (nm : Str) (hj : decide (j < 100 ∧ names4[j]? = some nm ∧ ∀ i, i < j → names4[i]? ≠ some nm) = true) (ha : names4.any (· == nm) = true) : CtO 2 w 261 [isS nm] (isI j) := by
  refine ctO_enter (by k_is) (by k_is) (by ((repeat intro _); rfl)) (by rfl) ?_
  intro led C' r' σ' P'
  (with_reducible apply WS.assignG); rfl; rfl
  (with_reducible apply rv_call0 (f := 254)); rfl; k_is; exact packing_names_ct _; assumption; rfl
  rintro v l ⟨r, rfl, rfl⟩
  refine ⟨isV (.ref r), rfl, ?_⟩
  intro σ'
  (with_reducible refine WS.ret ?_)
  (with_reducible apply Rv.ev)
  · exact Ev.iteT (Tst.inS (.loc rfl rfl rfl) (.loc rfl rfl rfl) (.head _) rfl) ha (Ev.index j (.loc rfl rfl rfl) (.loc rfl rfl rfl) (.head _) rfl hj)
  · exact fun v hv => ⟨led, .drop (Le.refl _), And.intro hv rfl⟩
theorem packing_of0_o {w} (nm : Str) (ha : ¬ names4.any (· == nm) = true) : CtO 2 w 261 [isS nm] (isV .none) := by
  refine ctO_enter (by k_is) (by k_is) (by ((repeat intro _); rfl)) (by rfl) ?_
  intro led C' r' σ' P'
  (with_reducible apply WS.assignG); rfl; rfl
  (with_reducible apply rv_call0 (f := 254)); rfl; k_is; exact packing_names_ct _; assumption; rfl
  rintro v l ⟨r, rfl, rfl⟩
  refine ⟨isV (.ref r), rfl, ?_⟩
  intro σ'
  (with_reducible refine WS.ret ?_)
  (with_reducible apply Rv.ev)
  · exact Ev.iteF (Tst.inS (.loc rfl rfl rfl) (.loc rfl rfl rfl) (.head _) rfl) ha Ev.none
  · exact fun v hv => ⟨led, .drop (Le.refl _), And.intro hv rfl⟩
end
section
theorem law_post (xs : List Int) : PySem.Challenge.rw_np0200_01.row.claim.post [ofPy (PyData.list (List.map PyData.int xs))] (WData.bool true) [ofPy (PyData.list (List.map PyData.int xs))] = true := by
  exact postW_of (by wrow_shape) (by wtm_val) (by exact beq_self_eq_true _)
def lawL (c : Addr) (sv : Int) (ps : Array Value) (l : Led) (ps2 : Array Value) (cds2 : List (Addr × Obj)) : Led := (l ++ [(298, isO (tabObj ps)), (c, isCl (isI sv))]) ++ (TabL 305 ps2 cds2 ++ [])
theorem law_le0 {Hd Sc c : Addr} {a b : Obj → Prop} {sv : Int} {ps : Array Value} {cds : List (Addr × Obj)} : Le ((Hd, a) :: (Sc, b) :: (TabL 298 ps cds ++ [(c, isCl (isI sv)), (305, isO (tabObj #[]))])) (lawL c sv ps [] #[] []) := .drop (.drop (.keep (fun _ h => h) (le_app _)))
theorem law_goal : PySem.Challenge.rw_np0200_01.Holds := by
  refine Hz.hd ?_
  intro w s₀ s₁ mg mb G Y fa o pm cd doc dV kV ho hd hcd hD hmg hg args vals as hpre hlay hrd hwl hlo
  have KX := km_in_of Y
  have hT8 := km_tabs_of Y
  refine Ground.open G ?_
  intro T B D TE TW
  have X := KX
  km_lay T hmg ho hd cd
  clear hmg
  wrow_args hpre hlay hrd hwl hlo
  have he := Dflts.none hD rfl
  subst he
  have he := Dflts.noKw hD
  subst he
  dsimp only at hd hcd
  refine law_enter (binds := [(_, _)]) hT9 (by kernel_rfl) KX T ho (fd_plain hd) hcd rfl rfl (by decide) (fun g L h₁ tk cells F N Y0 B X T C l0 hgg => ?_) rfl rfl rfl
  clear hd ho hD
  k_cells Y0
  simp only [tabNews, List.map_cons, List.map_nil, List.nil_append, List.cons_append] at N l0
  obtain ⟨C1, C2, _⟩ := C
  replace T : Top topProg looseN _ mg mb g := T
  k_lt l0
  rename Heap.IsList _ _ _ => hLs
  have hLg := ghost_list hT9 hLs
  rw [← hgg] at hLg
  rename IntsAre _ _ => hI
  rename ¬ _ => h63
  have hz : ∀ {xs : List Value} {ns : List Int}, IntsAre xs ns → ns.length ≤ 63 → xs.toArray.size ≤ sizeLine := fun hi h => kmk_sz hi (Nat.le_trans h (by decide))
  rename List Int => ns
  rename List Value => vs
  rename _ = Data.cell _ => hd1
  refine law_run (led := [(L + 1, isCl0), (298, isO (tabObj #[])), (305, isO (tabObj #[]))]) (fun fl _ led' => retOf fl = .bool true ∧ ∃ ps ps', (298, isO (tabObj ps)) ∈ led' ∧ (305, isO (tabObj ps')) ∈ led') rfl F N B X T hLg ?G ?R ?D ?W ?q
  case G =>
    intro x av e
    rw [List.lookup_cons] at e
    cases hx : x == "script" with
    | false => rw [hx] at e; cases e
    | true => rw [hx] at e; cases e; obtain rfl := beq_iff_eq.mp hx; exact ⟨_, rfl, rfl⟩
  case R => exact And.intro ⟨rfl, hd1⟩ (And.intro ⟨rfl, rfl⟩ (And.intro ⟨rfl, rfl⟩ trivial))
  case D =>
    have a1 : L + 1 ≠ 298 := Nat.ne_of_gt (Nat.lt_succ_of_lt l0.1)
    have a2 : L + 1 ≠ 305 := Nat.ne_of_gt (Nat.lt_succ_of_lt l0.2)
    simp [a1, a2]
  case q =>
    rintro fl σ' led' s' g' m' nw' ⟨hv, ps, ps', hm1, hm2⟩ his T' F' N' R'
    obtain ⟨_, q1, rfl⟩ := ledR_mem R' hm1
    obtain ⟨_, q2, rfl⟩ := ledR_mem R' hm2
    obtain rfl : fl = .ret (.bool true) := by cases fl <;> first | exact congrArg Flow.ret hv | cases hv
    exact law_fin hT9 (fun a o e => F'.keep a o (T'.other a o (by rw [hgg]; exact e) (fun q => nomatch q))) (List.forall_mem_cons.mpr ⟨⟨ps, (N' _ q1).1⟩, List.forall_mem_cons.mpr ⟨⟨ps', (N' _ q2).1⟩, fun _ h => nomatch h⟩⟩) (raisesW_false (by wrow_none_raised)) (law_post _) (by rw [his]) (by rw [his]; exact hg)
  case W =>
    intro C' ht hcl hcn hccd r' hT
    have l63 : ns.length ≤ 63 := by omega
    (with_reducible apply WS.assignG); rfl; rfl
    refine Rv.sliceUp (.loc rfl rfl rfl) (fun g' V => by obtain ⟨n, e, e2⟩ := hLg; exact ⟨n, (hT g' V).other _ _ e (fun q => nomatch q), e2⟩) hI (hz hI l63) fun Sc => ?_
    refine ⟨isV (.ref Sc), rfl, ?_⟩
    intro σ'
    have l63' : (ns.take 63).length ≤ 63 := List.length_take_le _ _
    generalize ns.take 63 = ms at *
    (with_reducible apply WS.assignG); rfl; rfl
    (with_reducible apply Rv.list); walk_at "es"; rfl; intro Hd
    refine ⟨isV (.ref Hd), rfl, ?_⟩
    intro σ'
    refine WS.perm (led' := blkL Hd Sc ms [] [(L + 1, isCl0), (305, isO (tabObj #[]))] 0 #[] []) (.cons _ (.cons _ (.swap _ _ _))) ?_
    refine WS.for (n := 5) (fun _ : Int × Array Value × List (Addr × Obj) => [("script", isV (.ref Sc)), ("hand", isV (.ref Hd))]) (fun c => blkL Hd Sc ms [] [(L + 1, isCl0), (305, isO (tabObj #[]))] c.1 c.2.1 c.2.2) (fun _ c => 0 ≤ c.1 ∧ TabSt "_law_block_right.<locals>.<lambda>" c.2.1 c.2.2) (0, #[], []) rfl rfl rfl (Ev.weak Ev.int fun v h => h) (by decide) ⟨Int.le_refl 0, TabSt.nil _⟩ (by walk_at "sub") (Le.refl _) ?_ ?_
    · rintro It i ⟨k, ps, cds⟩ hi ⟨p1, p2⟩
      dsimp -zeta only at p1 p2 ⊢
      intro σ' l' P'
      (with_reducible apply WS.ifV); (with_reducible apply Tsv.not); (with_reducible apply Tsv.call)
      (with_reducible apply Rv.callS (f := 303)); exact ht; exact ⟨by k_is, by k_is, rfl⟩; rfl; exact r'; rfl
      (with_reducible apply Evd.ev); walk_at "e"; rfl
      (with_reducible apply Evd.ev); walk_at "e"; rfl
      refine Evd.nil ⟨9, _, block_ct k Hd Sc ms [(It, isIt (i + 1) 5)] [(L + 1, isCl0), (305, isO (tabObj #[]))] ps cds p1 l63' p2, rfl, ?_⟩
      rintro v l2 ⟨rfl, k', ps', cds', q1, q2, rfl⟩
      refine ⟨rfl, ?_⟩
      walk_at "s"
      exact ForP.end (k', ps', cds') ⟨q1, q2⟩ (by walk_at "sub") (Le.refl _)
    · rintro ⟨k, ps, cds⟩ ⟨p1, p2⟩
      dsimp only at p1 p2 ⊢
      have hcS : C'.cl.lookup ("stray" : Str) = some (L + 1) := by rw [hcl]; rfl
      (with_reducible apply WS.assignC); rfl; exact hcS; rfl
      refine Rv.idx (avs := [isI 4, isI 5, isI (-1), isI 17]) (.cons .int (.cons .int (.cons (.neg .int) (.cons .int .nil rfl) rfl) rfl) rfl) rfl (fun _ _ => rfl) fun r => ?_
      (with_reducible apply Rv.call); walk_at "es"; rfl
      exact law_draw_ct k 4 Hd Sc ms _ _ (.tail .head) (.tail _ (.tail _ (.head _))) p1 (by decide) l63'
      rfl; assumption; rfl
      rintro v l2 ⟨⟨j, j0, j1, hv⟩, rfl⟩
      have hst : ∃ sv : Int, [isI 4, isI 5, isI (-1), isI 17][j.toNat]? = some (isI sv) ∧ (sv ≠ 0 ∧ sv ≠ 1 ∧ sv ≠ 2 ∧ sv ≠ 3) := by
        have hx4 : j = 0 ∨ j = 1 ∨ j = 2 ∨ j = 3 := by omega
        rcases hx4 with rfl | rfl | rfl | rfl <;> exact ⟨_, rfl, by decide⟩
      obtain ⟨sv, hsv, hst⟩ := hst
      refine ⟨j, isI sv, _, hv, j0, by omega, hsv, .head _, .drop (Le.refl _), fun u hu => ⟨isI sv, _, hu, .tail (.tail (LUpd.app .head (TabL 298 ps cds))), ?_⟩⟩
      clear hv hu hsv j0 j1
      refine WS.weak (Sub.refl _) (law_le0 (ps := ps) (cds := cds)) ?_
      (with_reducible apply WS.ifV); (with_reducible apply Tsv.neT); exact r'.le (by decide)
      · (with_reducible apply Rv.callS (f := 296)); exact ht; exact ⟨by k_is, by k_is, rfl⟩; rfl; exact r'; rfl
        (with_reducible apply Evd.rv)
        · refine Rv.lam (c0 := 307) (T0 := 305) (qual := "law.<locals>.<lambda>") (clos := [("stray", L + 1)]) (by show C'.cn ++ _ ++ _ = _; rw [hcn]; kernel_rfl) hccd (by kernel_rfl) rfl (by show closureFor _ (envX _ _ _ _ _ C'.cl) = _; rw [hcl]; rfl) (TabSt.nil _) ?_
          intro f c' mn ctv ps2 cds2 oc vsc tc TS hoc hd hv
          refine ⟨isV (.ref f), rfl, Evd.nil ⟨6, _, heard_ct (msg := "no such packing") (.inr ⟨rfl, rfl⟩) (.head _) isO_fn (lam_cx (.head _) (.tail _ (List.mem_append_right _ (tabL_mem hoc))) hd hv rfl rfl ?_), rfl, ?_⟩⟩
          · intro D' htn hcl2 hr s Q E S q
            have hcF : D'.cl.lookup ("stray" : Str) = some (L + 1) := by rw [hcl2]; rfl
            exact callX_run htn (.cons (by walk_at "e") (.cons .bytes (.cons (Ev.weak Ev.int fun v h => h) .nil rfl) rfl) rfl) rfl (packed4_cx sv 2 [97, 98, 99, 100] _ hst (by decide) (by decide) (by decide)) rfl hr rfl (Le.refl _) s E S q
          · rintro v l2 ⟨r, rfl, rfl⟩
            refine ⟨r, isS "misused", isS "no such packing", rfl, eqsS, eqsS, ?_⟩
            (with_reducible apply Rv.tup); walk_at "es"; rfl; intro r3
            refine ⟨r3, rfl, .tail _ (.head _), .head _, ?_⟩
            refine WS.weak (Sub.refl _) (.drop (.drop (.drop (Le.refl _)))) ?_
            clear hoc hd hv
            (with_reducible apply WS.ifV); (with_reducible apply Tsv.neT); exact r'.le (by decide)
            · (with_reducible apply Rv.callS (f := 296)); exact ht; exact ⟨by k_is, by k_is, rfl⟩; rfl; exact r'; rfl
              (with_reducible apply Evd.rv)
              · refine Rv.lam (c0 := 307) (T0 := 305) (qual := "law.<locals>.<lambda>") (clos := [("stray", L + 1)]) (by show C'.cn ++ _ ++ _ = _; rw [hcn]; kernel_rfl) hccd (by kernel_rfl) rfl (by show closureFor _ (envX _ _ _ _ _ C'.cl) = _; rw [hcl]; rfl) TS ?_
                intro f c' mn ctv ps2 cds2 oc vsc tc TS hoc hd hv
                refine ⟨isV (.ref f), rfl, Evd.nil ⟨5, _, heard_ct (msg := "no such packing") (.inl ⟨rfl, rfl⟩) (.head _) isO_fn (lam_cx (.head _) (.tail _ (List.mem_append_right _ (tabL_mem hoc))) hd hv rfl rfl ?_), rfl, ?_⟩⟩
                · intro D' htn hcl2 hr s Q E S q
                  have hcF : D'.cl.lookup ("stray" : Str) = some (L + 1) := by rw [hcl2]; rfl
                  exact callX_run htn (.cons (by walk_at "e") (.cons .bytes (.cons Ev.int .nil rfl) rfl) rfl) rfl (unp4_cx sv 2 [97, 98, 99, 100] _ hst) rfl hr rfl (Le.refl _) s E S q
                · rintro v l2 ⟨r, rfl, rfl⟩
                  refine ⟨r, isS "corrupt", isS "no such packing", rfl, eqsS, eqsS, ?_⟩
                  (with_reducible apply Rv.tup); walk_at "es"; rfl; intro r3
                  refine ⟨r3, rfl, .tail _ (.head _), .head _, ?_⟩
                  refine WS.weak (Sub.refl _) (.drop (.drop (.drop (Le.refl _)))) ?_
                  clear hoc hd hv
                  (with_reducible apply WS.assignG); rfl; rfl
                  (with_reducible apply rv_call0 (f := 254)); rfl; k_is; exact packing_names_ct _; exact r'; rfl
                  rintro v l ⟨r, rfl, rfl⟩
                  refine ⟨isV (.ref r), rfl, ?_⟩
                  intro σ'
                  (with_reducible refine WS.ret ?_)
                  refine Rv.of (Rv.and (Rv.eqL (ns := [0, 1, 2, 3]) (r'.le (by decide)) (Rv.comp (f := 261) (xs := names4) (ys := [0, 1, 2, 3]) ⟨by k_is, by k_is, rfl⟩ rfl rfl rfl (.head _) (r'.le (by decide)) rfl (by decide) rfl (by decide) rfl (fun _ => rfl) (fun _ => rfl) rfl rfl (by decide) ?c1 ?c2) rfl))
                  case c1 =>
                    intro i a b ha hb
                    match i, ha, hb with
                    | 0, ha, hb => cases ha; cases hb; exact @packing_of_o w 0 "plain" (by decide) (by decide)
                    | 1, ha, hb => cases ha; cases hb; exact @packing_of_o w 1 "zle" (by decide) (by decide)
                    | 2, ha, hb => cases ha; cases hb; exact @packing_of_o w 2 "lzjb" (by decide) (by decide)
                    | 3, ha, hb => cases ha; cases hb; exact @packing_of_o w 3 "lz4" (by decide) (by decide)
                    | i + 4, ha, hb => cases hb
                  case c2 =>
                    intro r1
                    refine ⟨r1, rfl, ?_⟩
                    (with_reducible apply Rv.list); walk_at "es"; rfl; intro r2
                    refine ⟨r2, rfl, .tail _ (.head _), .head _, rfl, ?_⟩
                    refine Rv.and (Rv.eqI (y := 4) ?d1 .int rfl ⟨rfl, ?_⟩)
                    case d1 => exact Ev.weak (Ev.lstLen (avs := names4.map isS) rfl (.loc rfl rfl rfl) (.tail _ (.tail _ (.head _))) (by decide) rfl) fun v h => h
                    refine Rv.and1 (Rv.isNone (Rv.callO (f := 261) (fnm := "packing_of") (av := isS "lz5") ⟨by k_is, by k_is, rfl⟩ rfl (r'.le (by decide)) .str rfl (@packing_of0_o w "lz5" (by decide)) fun v hv => ⟨hv, ?_⟩) rfl)
                    exact ⟨_, Le.refl _, rfl, ps, ps2, .tail _ (.tail _ (.tail _ (.head _))), .tail _ (.tail _ (.tail _ (.tail _ (.tail _ (.head _)))))⟩
              · rfl
            · rfl
        · rfl
      · rfl
end
end Np
end

open PySem PySem.W PyProof.Rows
theorem PySem.Challenge.cw_np0200_01_holds : PySem.Challenge.rw_np0200_01.Holds :=
  Np.law_goal
