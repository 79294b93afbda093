import PyProof.Rows.All
import Wide.All
import OpenK.AllK
import Wide.FinOn
import KE.KBytesWalk
import KE.BitLaws
import KE.KBytesCut
import KE.KTurns
import KE.KTryMore
import KE.KLcTest
import KE.KLcPair
import PyProof.Rows.GenSrcEnum
import PyProof.NeKinds
import Wide.BytesRules
import Lean
import PySem.Challenge.RW_pb0522_01
set_option Elab.async false
set_option compiler.extract_closed false
namespace Mine
section
open PySem PySem.W PyProof.Rows PySem.Spec PySem.Calls
set_option maxRecDepth 100000
set_option maxHeartbeats 8000000
set_option linter.unusedVariables false
theorem fresh_W1 : True := by
  w_top off
  trivial
open PySem PySem.W PyProof.Rows PySem.Spec PySem.Calls
set_option maxRecDepth 100000
set_option maxHeartbeats 8000000
set_option linter.unusedVariables false
/-- the goal named by a letter while a hypothesis is taken apart -/
theorem hide {P : Prop} (h : ∀ G : Prop, (P → G) → G) : P := h P id
/-- the built-ins whose frames lend out a bytearray -/
def lenders : List String := ["bytearray.__contains__", "bytearray.__mod__", "bytearray.__rmod__", "_struct.pack_into.held", "bytearray.find.held"] ++ PySem.Builtin.Bytes.decodersThatHold
def clean : Code → Bool
  | .builtin id _ => !lenders.contains id
  | _ => true
def ClB (Γ : PySem.Ctx) : Prop := ∀ x ∈ Γ.below, clean x.1 = true
def Cl (Γ : PySem.Ctx) : Prop := clean Γ.code = true ∧ ClB Γ
def wpC {α : Type} (M : Model) (A : Around) (t : Sem α) (Q : α → Shared → Prop) (E : Value → Shared → Prop) (s : Shared) : Prop :=
  ∀ Γ p, Γ.In A → Cl Γ → Sem.wp M Γ t (fun a _ s' => Q a s') (fun e _ s' => E e s') p s
def codeC (M : Model) (A : Around) (c : Code) (R : Result → Shared → Prop) (s : Shared) : Prop :=
  ∀ Γ p, Γ.code = c → Γ.Below A → ClB Γ → wpCode M Γ R p s
section
variable {α β : Type} {M : Model} {A : Around} {E : Value → Shared → Prop} {s : Shared}
theorem wpC_any {t : Sem α} {Q : α → Shared → Prop} (h : wpAny M A t Q E s) : wpC M A t Q E s := fun Γ p hΓ _ => h Γ p hΓ
theorem wpC_mono {t : Sem α} {Q Q' : α → Shared → Prop} {E' : Value → Shared → Prop} (h : wpC M A t Q E s) (hQ : ∀ a s, Q a s → Q' a s) (hE : ∀ e s, E e s → E' e s) : wpC M A t Q' E' s :=
  fun Γ p hΓ hC => Sem.wp_mono M Γ t (fun a _ s => hQ a s) (fun e _ s => hE e s) p s (h Γ p hΓ hC)
theorem wpC_bind {m : Sem α} {f : α → Sem β} {Q : β → Shared → Prop} (h : wpC M A m (fun a s' => wpC M A (f a) Q E s') E s) : wpC M A (m >>= f) Q E s := fun Γ p hΓ hC => by
  rw [Sem.wp_bind']
  exact Sem.wp_mono M Γ m (fun a p' s' k => k Γ p' hΓ hC) (fun _ _ _ k => k) p s (h Γ p hΓ hC)
theorem wpC_bindA {m : Sem α} {f : α → Sem β} {Q : β → Shared → Prop} (h : wpAny M A m (fun a s' => wpC M A (f a) Q E s') E s) : wpC M A (m >>= f) Q E s := wpC_bind (wpC_any h)
theorem wpC_pure {a : α} {Q : α → Shared → Prop} (h : Q a s) : wpC M A (pure a) Q E s := fun _ _ _ _ => h
theorem wpC_onRaise {m : Sem α} {k : Value → Sem Unit} {Q : α → Shared → Prop} (h : wpC M A m Q (fun e s' => wpAny M A (k e) (fun _ s'' => E e s'') E s') s) : wpC M A (m.onRaise k) Q E s := fun Γ p hΓ hC => by
  rw [Sem.wp_onRaise]
  exact Sem.wp_mono M Γ m (fun _ _ _ k => k) (fun e p' s' k => k Γ p' hΓ) p s (h Γ p hΓ hC)
theorem wpC_holding {vs : List Value} {m : Sem α} {Q : α → Shared → Prop} (h : wpC M A m Q E s) : wpC M A (holding vs m) Q E s := fun Γ p hΓ hC => by rw [Sem.wp_holding]; exact h Γ p hΓ hC
theorem wpC_keep {vs : List Value} {m : Sem α} {Q : α → Shared → Prop} (h : wpC M A m Q E s) : wpC M A (m.keep vs) Q E s := fun Γ p hΓ hC => by rw [Sem.wp_keep]; exact h Γ p hΓ hC
theorem codeC_mono {c : Code} {R R' : Result → Shared → Prop} (h : codeC M A c R s) (hR : ∀ r s, R r s → R' r s) : codeC M A c R' s := fun Γ p hc hΓ hC => wpCode_mono hR (h Γ p hc hΓ hC)
theorem clB_enter {Γ : PySem.Ctx} {c : Code} {h : Option Value} {p : Pos} (hC : Cl Γ) : ClB (Γ.enter c h p) := fun x hx => by
  rcases List.mem_cons.mp hx with e | hx
  · rw [e]; exact hC.1
  · exact hC.2 x hx
theorem wpC_run {c : Code} {Q : Flow → Shared → Prop} (hc : codeC M A c (fun r s' => match r with | .ok f => Q f s' | .error e => E e s') s) : wpC M A (run c) Q E s :=
  fun Γ p hΓ hC => by rw [Sem.wp_run]; exact hc _ p rfl (hΓ.enter c none p (by intro x; cases x)) (clB_enter hC)
theorem wpC_runValue {c : Code} {Q : Value → Shared → Prop} (hc : codeC M A c (fun r s' => match r with | .ok (.ret v) => Q v s' | .ok _ => False | .error e => E e s') s) : wpC M A (runValue c) Q E s :=
  fun Γ p hΓ hC => by rw [Sem.wp_runValue]; exact hc _ p rfl (hΓ.enter c none p (by intro x; cases x)) (clB_enter hC)
theorem wpC_call {f : Value} {pos : List Value} {kw : List (Str × Value)} {Q : Value → Shared → Prop} (hc : codeC M A (.call f ⟨pos, kw⟩) (fun r s' => match r with | .ok (.ret v) => Q v s' | .ok _ => False | .error e => E e s') s) : wpC M A (call f pos kw) Q E s := wpC_runValue hc
/-- what a turn of a code hands on -/
def finC (M : Model) (A : Around) (R : Result → Shared → Prop) : Fin → Shared → Prop
  | .done f, s' => R (.ok f) s'
  | .again c, s' => c.quiet = true ∧ codeC M A c R s'
theorem codeC_tree {c : Code} {R : Result → Shared → Prop} (hcl : clean c = true) (h : wpC M (A.under c) (M.den c) (finC M A R) (fun e s' => R (.error e) s') s) : codeC M A c R s := fun Γ p hc hΓ hC => by
  rw [wpCode_iff_wp, hc]
  refine Sem.wp_mono M Γ _ (fun fin p' s' k => ?_) (fun _ _ _ k => k) p s (h Γ p (hc ▸ hΓ.in) ⟨by rw [hc]; exact hcl, hC⟩)
  cases fin with
  | done f => exact k
  | again c' => exact ⟨k.1, k.2 (Γ.goto c') p' rfl (hΓ.goto c') hC⟩
/-- the stack, known clean -/
theorem wpC_stack {Q : List (Code × Pos) → Shared → Prop} (h : ∀ st : List (Code × Pos), (∀ x ∈ st, clean x.1 = true) → Q st s) : wpC M A stack Q E s := fun Γ p _ hC =>
  h _ fun x hx => by
    rcases List.mem_cons.mp hx with e | hx
    · rw [e]; exact hC.1
    · exact hC.2 x hx
end
section
variable {prog : Program} {w : World} {A : Around} {E : Value → Shared → Prop} {s : Shared} {R : Result → Shared → Prop}
theorem codeC_func {body : List Stmt} {env : Env}
    (h : wpC (model prog w) (A.deeper env) (execs body env) (fun f s' => R (.ok (.ret (match f with | .ret v => v | _ => .none))) s')
      (fun e s' => wpAny (model prog w) (A.deeper env) (leaving env e) (fun _ s'' => R (.error e) s'') (fun e' s'' => R (.error e') s'') s') s) :
    codeC (model prog w) A (.func body env) R s := by
  refine codeC_tree rfl ?_
  show wpC _ (A.deeper env) (do point; match ← (execs body env).onRaise (leaving env) with | .ret v => ret v | _ => ret .none) _ _ s
  refine wpC_bindA (wpAny_point (wpC_bind (wpC_onRaise (wpC_mono h (fun f s' k => ?_) fun _ _ k => k))))
  cases f <;> exact wpC_pure k
/-- a def is entered -/
theorem codeC_def {a : Addr} {o : Obj} {fd : FuncData} {body : List Stmt} {args : Args} {binds : List (Str × Value)}
    (hroom : A.depth < recursionLimit) (ho : s.heap.get? a = some o) (hdata : o.data = .func fd) (hlim : s.heap.NoLimit) (hcd : s.heap.CodeRec fd.code fd.qualname)
    (hbody : fd.body = .stmts body) (hbind : BindsTo s fd args binds)
    (hcell : ∀ x ∈ fd.scope.names, x.2 ≠ .cell) (hloc : ∀ x ∈ binds, fd.scope.names.lookup x.1 = some .local)
    (h : ∀ h₀, h₀.Ns s.heap.objs.size (fun x => binds.reverse.lookup x) → (∀ b o, s.heap.get? b = some o → h₀.get? b = some o) →
      wpC (model prog w) (A.deeper (callEnv fd s.heap.objs.size a)) (execs body (callEnv fd s.heap.objs.size a)) (fun f s' => R (.ok (.ret (match f with | .ret v => v | _ => .none))) s')
        (fun e s' => wpAny (model prog w) (A.deeper (callEnv fd s.heap.objs.size a)) (leaving (callEnv fd s.heap.objs.size a) e) (fun _ s'' => R (.error e) s'') (fun e' s'' => R (.error e') s'') s')
        { s with heap := h₀, toks := s.toks + binds.length })
    (hco : fd.scope.isCoroutine = false := by rfl) (hgen : fd.scope.isGenerator = false := by rfl) (hk : fd.scope.kind = .function := by rfl) :
    codeC (model prog w) A (.call (.ref a) args) R s := by
  refine codeC_tree rfl (wpC_any ?_)
  show wpAny _ A.in1 (callAny (.ref a) args) _ _ s
  simp only [callAny]
  refine wpAny_bind (wpAny_load ho ?_)
  obtain ⟨c, oc, vs, tq, hc, hoc, hdc, hq⟩ := hcd
  simp only [hdata, callFunction, hco, hgen, hbody, hc]
  refine wpAny_bind (m := field (.ref c) 1) (wpAny_field hoc hdc hq (wpAny_bind (wpAny_pure ?_)))
  refine wpAny_bind (hbind _ _ _ _ (wpAny_bind (wpAny_newFunctionEnv hcell hloc (fun h₀ hn hsb => ?_) hk)))
  refine wpAny_bind (wpAny_enterFrame (hlim.fresh _ hsb) hroom (wpAny_pure ⟨rfl, codeC_func ?_⟩))
  have := h h₀ hn fun b o e => hsb.extBut b o (Nat.ne_of_lt (Heap.lt_size e)) (Heap.get?_push_of_some _ e)
  unfold callEnv at this
  rw [hc] at this
  exact this
end
end
section
open PySem PySem.W PyProof.Rows PySem.Spec PySem.Calls
set_option maxRecDepth 100000
set_option maxHeartbeats 8000000
set_option linter.unusedVariables false
theorem fresh_W2 : True := by
  w_top off
  trivial
open PySem PySem.W PyProof.Rows PySem.Spec PySem.Calls
set_option maxRecDepth 100000
set_option maxHeartbeats 8000000
set_option linter.unusedVariables false
section
variable {prog : Program} {w : World} {A A₀ : Around} {E : Value → Shared → Prop} {s : Shared} {K : Frag} {C L : Addr} {h₀ base : Heap} {m mg mb : Str → Option Value} {news : List (Addr × Obj)} {p : Program} {loose : List Str} {mean : ExcName → Option Value}
/-- a def of the top is entered from a def's frame -/
theorem codeC_K {env : Env} {outer : List Env} {R : Result → Shared → Prop} {name qual : Str} {params : Arguments} {body : List Stmt} {scope : Scope} {dV kV doc pm cdv ct oc : Value} {an od : Option Addr} {osl : Array (Option Value)} {f : Addr} {args : Args} {binds : List (Str × Value)}
    (B : Below A₀ base outer h₀) (F : Fr h₀ L s.heap m) (X₀ : K.In h₀) (N : News h₀ L s.heap news) (T : Top p loose mean mg mb h₀) (hA : A.frames = some (env :: outer)) (hf : env.frame = some L) (hke : env.scope.kind = .function)
    (ho : K.lookup f = some ⟨oc, od, .func (fnOf name qual params body scope dV kV doc pm an cdv ct), osl⟩) (hcd : codeIn K cdv qual = true) (hroom : A.depth < recursionLimit)
    (hbind : BindsTo s (fnOf name qual params body scope dV kV doc pm an cdv ct) args binds) (hloc : ∀ y ∈ binds, scope.names.lookup y.1 = some .local)
    (h : ∀ g L' h₁, Fr h₀ L g m → Fr g L' h₁ (fun y => binds.reverse.lookup y) → News g L' h₁ news → Below A base (env :: outer) g → K.In g → Top p loose mean mg mb g →
      wpC (model prog w) (A.deeper (envOf qual scope L' f cdv)) (execs body (envOf qual scope L' f cdv))
        (fun fl s' => LeaveK h₀ L m g R (match fl with | .ret v => v | _ => .none) s')
        (fun e s' => wpAny (model prog w) (A.deeper (envOf qual scope L' f cdv)) (leaving (envOf qual scope L' f cdv) e) (fun _ s'' => R (.error e) s'') (fun e' s'' => R (.error e') s'') s')
        { s with heap := h₁, toks := s.toks + binds.length })
    (hco : scope.isCoroutine = false) (hgen : scope.isGenerator = false) (hk : scope.kind = .function)
    (hcell : ∀ x ∈ scope.names, x.2 ≠ .cell) : codeC (model prog w) A (.call (.ref f) args) R s := by
  obtain ⟨FG, BG, st, lv⟩ := groundX (R := R) B F N hA hf hke
  have X := X₀.keeps F.keep
  refine codeC_def (fd := fnOf name qual params body scope dV kV doc pm an cdv ct) (body := body) (binds := binds) hroom (X _ _ ho) rfl (T.nolimit.keeps F.keep) (codeRec_of X hcd) rfl hbind hcell hloc (fun h₁ hns hk₁ => ?_) hco hgen hk
  exact wpC_mono (h _ s.heap.objs.size h₁ FG ⟨hns, fun b o e => hk₁ b o (of_hideAll _ e), Nat.le_of_eq (hideAll_size _ _)⟩
    (fun p hp => ⟨hk₁ _ _ (N p hp).1, Nat.ne_of_lt (Heap.lt_size (N p hp).1), hideAll_none _ (List.mem_map_of_mem hp)⟩) BG (X₀.keeps st) (T.keeps st)) (fun fl s' hl => lv _ _ hl) fun _ _ y => y
end
section
variable {M : Model} {A : Around} {E : Value → Shared → Prop} {s : Shared} {env : Env}
theorem wpC_execs_cons {st : Stmt} {rest : List Stmt} {Q : Flow → Shared → Prop} (h : wpC M A (exec st env) (fun f s' => match f with | .next => wpC M A (execs rest env) Q E s' | f => Q f s') E s) : wpC M A (execs (st :: rest) env) Q E s := by
  rw [execs_cons]
  refine wpC_bind (wpC_mono h (fun f s' k => ?_) fun _ _ k => k)
  cases f <;> first | exact k | exact wpC_pure k
/-- a statement that is safe -/
theorem wpC_execs_safe {st : Stmt} {rest : List Stmt} {Q : Flow → Shared → Prop} (h : wpAny M A (exec st env) (fun f s' => match f with | .next => wpC M A (execs rest env) Q E s' | f => Q f s') E s) : wpC M A (execs (st :: rest) env) Q E s := wpC_execs_cons (wpC_any h)
theorem wpC_Return {e : Expr} {pos : Pos} {Q : Flow → Shared → Prop} (h : wpC M A (eval e env) (fun v => Q (.ret v)) E s) : wpC M A (exec (.Return (some e) pos) env) Q E s := by
  rw [exec_Return_some]
  exact wpC_bindA (wpAny_standAt (wpC_bind (wpC_mono h (fun v s' k => wpC_pure k) fun _ _ k => k)))
theorem wpC_Assign {x : Str} {pos' pos : Pos} {value : Expr} {Q : Flow → Shared → Prop} (h : wpC M A (eval value env) (fun v s₁ => wpAny M A (storeName env x v) (fun _ s' => Q .next s') E s₁) E s)
    (hs : swapsWith value (some (.Name x pos')) pos.line env = pure false := by rfl) : wpC M A (exec (.Assign [.Name x pos'] value pos) env) Q E s := by
  rw [exec_Assign_Name env x pos' value pos hs]
  exact wpC_bindA (wpAny_standAt (wpC_bind (wpC_mono h (fun v s₁ k => wpC_any (wpAny_bind (wpAny_standAt (wpAny_bind (wpAny_bindName (wpAny_mono k (fun _ _ y => wpAny_pure y) fun _ _ y => y)))))) fun _ _ k => k)))
theorem wpC_If {test : Expr} {body orelse : List Stmt} {pos : Pos} {Q : Flow → Shared → Prop} (h : wpAny M A (isTrue test env (eval test env)) (fun b s₂ => if b then wpC M A (execs body env) Q E s₂ else wpC M A (execs orelse env) Q E s₂) E s) : wpC M A (exec (.If test body orelse pos) env) Q E s := by
  rw [exec_If]
  refine wpC_bindA (wpAny_standAt (wpC_bindA (wpAny_mono h (fun b s₂ k => ?_) fun _ _ k => k)))
  cases b <;> exact k
theorem wpC_Call {id : Str} {p pos : Pos} {args : List Expr} {Q : Value → Shared → Prop} (h : wpAny M A (eval (.Name id p) env) (fun f s₁ => wpC M A (callWith pos f [] (backTo pos (starEach args env)) []) Q E s₁) E s) : wpC M A (eval (.Call (.Name id p) args [] pos) env) Q E s := by
  rw [arm_eval_Call_Name']
  exact wpC_bindA h
theorem spliced_safe {x : Sem Value} {rest : List (Bool × Sem Value)} {Q : List Value → Shared → Prop} (h : wpAny M A x (fun v s₁ => wpC M A (spliced rest) (fun vs s₂ => Q (v :: vs) s₂) E s₁) E s) : wpC M A (spliced ((false, x) :: rest)) Q E s := by
  rw [spliced]
  refine wpC_bindA (wpAny_mono h (fun v s₁ k => ?_) fun _ _ y => y)
  simp only [Bool.false_eq_true, if_false]
  exact wpC_bindA (wpAny_pure (wpC_bind (wpC_holding (wpC_mono k (fun vs s₂ y => wpC_pure y) fun _ _ y => y))))
theorem spliced_last {x : Sem Value} {Q : List Value → Shared → Prop} (h : wpC M A x (fun v s₁ => Q [v] s₁) E s) : wpC M A (spliced [(false, x)]) Q E s := by
  rw [spliced]
  refine wpC_bind (wpC_mono h (fun v s₁ k => ?_) fun _ _ y => y)
  simp only [Bool.false_eq_true, if_false]
  exact wpC_bindA (wpAny_pure (wpC_bind (wpC_holding (wpC_any (Calls.spliced_nil (wpC_pure (a := [v]) k))))))
/-- a pair whose second part is risky -/
theorem wpC_Pair {a b : Expr} {k : Nat} {pos : Pos} {Q : Value → Shared → Prop} (h : wpAny M A (eval a env) (fun v s₁ => wpC M A (eval b env) (fun u s₂ => wpAny M A (newTuple [v, u]) Q E s₂) E s₁) E s)
    (hs : backTo pos (starEach [a, b] env) = [(false, eval a env), (false, eval b env)] := by rfl) : wpC M A (eval (.Tuple [a, b] k pos) env) Q E s := by
  show wpC M A (do standAt pos; newTuple (← spliced (backTo pos (starEach [a, b] env)))) Q E s
  rw [hs]
  refine wpC_bindA (wpAny_standAt (wpC_bind (spliced_safe (wpAny_mono h (fun v s₁ y => spliced_last (wpC_mono y (fun u s₂ z => wpC_any z) fun _ _ z => z)) fun _ _ y => y))))
theorem wpC_BinOp {l r : Expr} {op : Operator} {pos : Pos} {Q : Value → Shared → Prop} (h : wpC M A (eval l env) (fun a s₁ => wpC M A (eval r env) (fun b s₂ => wpAny M A (binaryOp op a b) Q E s₂) E s₁) E s) : wpC M A (eval (.BinOp l op r pos) env) Q E s := fun Γ p hΓ hC => by
  simp only [eval_BinOp, Sem.wp_bind', Sem.wp_holding, Sem.wp_cmd_standAt, Sem.wp_operate]
  exact Sem.wp_mono M Γ _ (fun a p₁ s₁ h₁ => Sem.wp_mono M Γ _ (fun b _ s₂ h₂ => h₂ Γ _ hΓ) (fun _ _ _ y => y) _ _ (h₁ Γ p₁ hΓ hC)) (fun _ _ _ y => y) _ _ (h Γ p hΓ hC)
/-- x and y, both risky -/
theorem wpC_And {e₁ e₂ : Expr} {pos : Pos} {Q : Value → Shared → Prop} (h : wpC M A (eval e₁ env) (fun v s₁ => wpAny M A (truthy v) (fun c s₂ => if c then wpC M A (eval e₂ env) Q E s₂ else Q v s₂) E s₁) E s) : wpC M A (eval (.BoolOp .And [e₁, e₂] pos) env) Q E s := by
  show wpC M A (do
    let v ← eval e₁ env
    standAt pos
    let c ← holding [v] (truthy v)
    match BoolOp.And, c with
    | .And, false | .Or, true => pure v
    | _, _ => boolOp pos .And (evalEach [e₂] env)) Q E s
  refine wpC_bind (wpC_mono h (fun v s₁ k => wpC_bindA (wpAny_standAt (wpC_bindA (wpAny_holding (wpAny_mono k (fun c s₂ k₂ => ?_) fun _ _ y => y))))) fun _ _ y => y)
  cases c with
  | false => exact wpC_pure k₂
  | true => exact k₂
/-- a call whose callee is kept by the machine or by its frame -/
theorem callWithC_of {f : Value} {first : List Value} {pos : Pos} {P : Heap → Prop} {args : List (Bool × Sem Value)} {Q : Value → Shared → Prop} (hplain : args.any (·.1) = false)
    (hk : ∀ h, P h → ∃ k, (k = Keeper.frame ∨ k = Keeper.machine ∨ k = Keeper.boundFrame) ∧ Looks M h (keeperOf f) k)
    (h : wpAny M A (evalArgs f true args []) (fun a s₁ => P s₁.heap ∧ wpC M A (call f (first ++ a.pos) a.kw) Q E s₁) E s) : wpC M A (callWith pos f first args []) Q E s := by
  unfold callWith
  refine wpC_bindA (wpAny_holding (wpAny_mono h (fun a s₁ h₁ => wpC_bindA (wpAny_standAt ?_)) fun _ _ x => x))
  obtain ⟨k, hk', LK⟩ := hk _ h₁.1
  simp only [hplain, List.any_nil, Bool.or_false]
  refine wpC_bindA (LK.here ?_)
  have tail : ∀ {t : Sem Value}, wpC M A t Q E s₁ → wpC M A (t >>= fun r => holding [r] point >>= fun _ => pure r) Q E s₁ :=
    fun ht => wpC_bind (wpC_mono ht (fun r s₂ hr => wpC_any (wpAny_bind (wpAny_holding (wpAny_point (wpAny_pure hr))))) fun _ _ x => x)
  have marked (mk : Value) : wpC M A (callMarked mk f (first ++ a.pos) a.kw) Q E s₁ := by unfold callMarked; exact wpC_keep h₁.2
  rcases hk' with rfl | rfl | rfl <;> dsimp only <;> first | exact tail h₁.2 | (split <;> first | exact tail h₁.2 | exact tail (marked _))
theorem callWithC_K {K : Frag} {f : Value} {pos : Pos} {e : Expr} {rest : List Expr} {Q : Value → Shared → Prop} (hk : keepIn K f = true) (h : wpAny M A (spliced (backTo pos (starEach (e :: rest) env))) (fun vs s₁ => K.In s₁.heap ∧ wpC M A (call f vs) Q E s₁) E s)
    (he : starEach (e :: rest) env = (false, eval e env) :: starEach rest env := by rfl) (hplain : (backTo pos (starEach rest env)).any (·.1) = false := by rfl) :
    wpC M A (callWith pos f [] (backTo pos (starEach (e :: rest) env)) []) Q E s := by
  rw [he] at h ⊢
  exact callWithC_of (by show (false || (backTo pos (starEach rest env)).any (·.1)) = false; rw [hplain]; rfl) (keeps_K hk) (evalArgs_plain h)
/-- the call of a built-in type -/
theorem callWithC_type {n : String} {pos : Pos} {e : Expr} {rest : List Expr} {Q : Value → Shared → Prop} (hk : ∀ h, ∃ k, (k = Keeper.frame ∨ k = Keeper.machine ∨ k = Keeper.boundFrame) ∧ Looks M h (keeperOf (.type n)) k) (h : wpAny M A (spliced (backTo pos (starEach (e :: rest) env))) (fun vs s₁ => wpC M A (call (.type n) vs) Q E s₁) E s)
    (he : starEach (e :: rest) env = (false, eval e env) :: starEach rest env := by rfl) (hplain : (backTo pos (starEach rest env)).any (·.1) = false := by rfl) :
    wpC M A (callWith pos (.type n) [] (backTo pos (starEach (e :: rest) env)) []) Q E s := by
  rw [he] at h ⊢
  exact callWithC_of (P := fun _ => True) (by show (false || (backTo pos (starEach rest env)).any (·.1)) = false; rw [hplain]; rfl) (fun hh _ => hk hh) (evalArgs_plain (wpAny_mono h (fun vs s₁ k => ⟨trivial, k⟩) fun _ _ y => y))
end
end
section
open PySem PySem.W PyProof.Rows PySem.Spec PySem.Calls
set_option maxRecDepth 100000
set_option maxHeartbeats 8000000
set_option linter.unusedVariables false
theorem fresh_W3 : True := by
  w_top off
  trivial
open PySem PySem.W PyProof.Rows PySem.Spec PySem.Calls
set_option maxRecDepth 100000
set_option maxHeartbeats 8000000
set_option linter.unusedVariables false
theorem ba_mro : mroOf (.type "bytearray") = pure [.type "bytearray", .type "object"] := by rw [mroOf_type]; kernel_rfl
theorem ba_lookup_new : typeLookup (.type "bytearray") "__new__" = pure (some (.builtin "bytearray.__new__")) := by rw [typeLookup_type, builtinLookup_eq_fast]; kernel_rfl
theorem ba_slot_init : Slot "bytearray" "__init__" "bytearray.__init__" :=
  .of (owner := "bytearray") (n := "__init__") (by rw [typeLookup_type, builtinLookup_eq_fast]; kernel_rfl) (by decide +kernel) (by decide +kernel) (by decide +kernel)
    (by first | exact .inl (by decide +kernel) | exact .inr (by decide +kernel)) (by rw [isSubtype_type]; kernel_rfl)
theorem ba_slot_set : Slot "bytearray" "__setitem__" "bytearray.__setitem__" :=
  .of (owner := "bytearray") (n := "__setitem__") (by rw [typeLookup_type, builtinLookup_eq_fast]; kernel_rfl) (by decide +kernel) (by decide +kernel) (by decide +kernel)
    (by first | exact .inl (by decide +kernel) | exact .inr (by decide +kernel)) (by rw [isSubtype_type]; kernel_rfl)
theorem ba_called : TypeCalled "bytearray" "bytearray.__new__" "bytearray.__init__" :=
  ⟨by decide +kernel, by decide +kernel, ⟨_, _, ba_mro⟩, madeBy_type ba_mro ba_lookup_new (by decide +kernel), by decide +kernel, by rw [isSubtype_type]; kernel_rfl, ba_slot_init⟩
theorem ba_typeCall (a : Value) : checkTypeCall "bytearray" ⟨[a], []⟩ = pure () := by kernel_rfl
theorem ba_newCall (a : Value) : checkBuiltinCall "bytearray.__new__" ⟨[.type "bytearray", a], []⟩ = pure () := by kernel_rfl
theorem ba_entry_new : entryFor table "bytearray.__new__" = some Builtin.«list.__new__» := entryFor_alias (id' := "list.__new__") (by kernel_rfl) (by decide +kernel) (by decide +kernel) (by kernel_rfl)
theorem ba_entry_init : entryFor table "bytearray.__init__" = some Builtin.«bytearray.__init__» := by first | exact entryFor_of_fast (by kernel_rfl) | exact entryFor_of_tree (by kernel_rfl)
theorem ba_entry_set : entryFor table "bytearray.__setitem__" = some Builtin.«bytearray.__setitem__» := by first | exact entryFor_of_fast (by kernel_rfl) | exact entryFor_of_tree (by kernel_rfl)
theorem ba_plain_new : plainId "bytearray.__new__" = true := by decide +kernel
theorem ba_owner : ("bytearray.__new__".splitOn ".__new__").headD "" = "bytearray" := by simp +decide [String.splitOn, String.splitOnAux]
theorem ba_sub : isSubtype (.type "bytearray") (.type "bytearray") = pure true := by rw [isSubtype_type]; kernel_rfl
section
variable {prog : Program} {w : World} {A : Around} {E : Value → Shared → Prop} {s : Shared}
theorem ba_code_new (a : Value) {Q₁ : Value → Shared → Prop}
    (h : Q₁ (.ref s.heap.objs.size) { s with heap := s.heap.push { cls := .type "bytearray", data := .bytearray #[] } }) :
    codeAny (model prog w) A (.call (.builtin "bytearray.__new__") ⟨[.type "bytearray", a], []⟩) (wants Q₁ E) s := by
  refine codeAny_of_tree ?_
  show wpAny _ A.in1 (do checkBuiltinCall "bytearray.__new__" ⟨[.type "bytearray", a], []⟩; again (.builtin "bytearray.__new__" ⟨[.type "bytearray", a], []⟩)) _ _ s
  refine wpAny_bind (wpAny_of_eq (ba_newCall a) (wpAny_pure ⟨plainId_quiet ba_plain_new _, codeAny_builtin_stack ba_entry_new rfl fun p st => ?_⟩))
  rw [Around.under_plainId ba_plain_new _]
  have hsub := ba_sub
  have hown := ba_owner
  obtain ⟨hp, g, d, tk, os⟩ := s
  simp only [hown]
  wp_walk
  exact h
theorem codeC_builtin {id : String} {args : Args} {b : Builtin} {R : Result → Shared → Prop} (hcl : lenders.contains id = false) (hb : entryFor table id = some b)
    (h : wpC (model prog w) (A.under (.builtin id args)) (b args) (finC (model prog w) A R) (fun e s' => R (.error e) s') s) : codeC (model prog w) A (.builtin id args) R s := by
  refine codeC_tree (by show (!lenders.contains id) = true; rw [hcl]; rfl) ?_
  show wpC _ _ (match entryFor table id with | some b => b args | none => unsupported ((withoutEnding? id "#data").getD id)) _ _ s
  rw [hb]; exact h
theorem callSpecialC {self : Value} {T : String} {name : Str} {id : String} {args : List Value} {kw : List (Str × Value)} {Q : Option Value → Shared → Prop} (hT : s.TypeIs self T) (h : Slot T name id)
    (hc : wpC (model prog w) A (call (.builtin id) (self :: args) kw) (fun v => Q (some v)) E s) : wpC (model prog w) A (callSpecial? self name args kw) Q E s := by
  simp only [callSpecial?]
  refine wpC_bindA (wpAny_specialOf hT h.lookup ?_)
  simp only [h.bind]
  exact wpC_holding (wpC_bindA (wpAny_pure (wpC_bind (wpC_mono hc (fun v s' k => wpC_pure k) fun _ _ k => k))))
theorem callBuiltinC {id : String} {args : List Value} {b : Builtin} {Q : Value → Shared → Prop} (hq : plainId id = true) (hcl : lenders.contains id = false) (hb : entryFor table id = some b)
    (hk : ∀ (P : Unit → Shared → Prop), P () s → wpAny (model prog w) A.in1 (checkBuiltinCall id ⟨args, []⟩) P E s)
    (h : wpC (model prog w) A.in1 (b ⟨args, []⟩) (finC (model prog w) A fun r s' => match r with | .ok (.ret v) => Q v s' | .ok _ => False | .error e => E e s') E s) : wpC (model prog w) A (call (.builtin id) args) Q E s := by
  refine wpC_call (codeC_tree rfl (wpC_any ?_))
  show wpAny _ A.in1 (do checkBuiltinCall id ⟨args, []⟩; again (.builtin id ⟨args, []⟩)) _ _ s
  refine wpAny_bind (hk _ (wpAny_pure ⟨plainId_quiet hq _, codeC_builtin hcl hb ?_⟩))
  rw [Around.under_plainId hq]
  exact h
theorem ba_release : typeLookup (.type "bytearray") "__release_buffer__" = pure (some (.builtin "bytearray.__release_buffer__")) := by rw [typeLookup_type, builtinLookup_eq_fast]; kernel_rfl
theorem ba_drop : ("bytearray.__release_buffer__".dropRight ("__release_buffer__".length + 1)) = "bytearray" := by decide +kernel
theorem ba_own {S : Addr} {M : Model} {Q : Bool → Shared → Prop} (hT : s.TypeIs (.ref S) "bytearray") (h : Q false s) : wpAny M A (Builtin.Bytes.ownRelease (.ref S)) Q E s := by
  unfold Builtin.Bytes.ownRelease Builtin.Bytes.slotIsOwn
  refine wpAny_bind (wpAny_bind (wpAny_specialOf hT ba_release ?_))
  dsimp only
  refine bm_if_false (by decide +kernel) ?_
  rw [ba_drop]
  exact wpAny_isInstance hT ba_sub (wpAny_pure h)
theorem ba_bind (v : Value) : Builtin.Bytes.bindOptional "bytearray.__init__" "bytearray" ["source", "encoding", "errors"] [v] [] = pure [some v, none, none] := by kernel_rfl
theorem ba_write {S : Addr} {b : Array UInt8} {f : Array UInt8 → Array UInt8} {M : Model} {Q : Unit → Shared → Prop} (hS : s.heap.get? S = some { cls := .type "bytearray", data := .bytearray b }) (hz : (f b).size ≤ sizeLine)
    (h : Q () { s with heap := s.heap.update S (Obj.mapBytearray f) }) : wpAny M A (Builtin.Bytes.write (.ref S) f) Q E s := by
  show wpAny _ _ (updateBytearray S f) _ _ _
  unfold updateBytearray
  refine wpAny_bind (wpAny_load hS ?_)
  show wpAny _ _ (update S (Obj.mapBytearray f) >>= fun _ => lookBehind S) _ _ _
  refine wpAny_bind (wpAny_update hS ?_)
  have hS₂ : (s.heap.update S (Obj.mapBytearray f)).get? S = some { cls := .type "bytearray", data := .bytearray (f b) } := Heap.get?_update_self (Obj.mapBytearray f) hS rfl
  refine wpAny_lookBehind hS₂ ?_ h
  show (if (f b).size > sizeLine then some "bytearray:memory" else none) = none
  rw [if_neg (by omega)]
theorem wpC_if_false {α : Type} {M : Model} {c : Bool} {a b : Sem α} {Q : α → Shared → Prop} (hc : c = false) (h : wpC M A b Q E s) : wpC M A (if c = true then a else b) Q E s := by
  subst hc
  exact h
theorem wpC_exported {S : Addr} {M : Model} {Q : Bool → Shared → Prop} (h : Q false s) : wpC M A (Builtin.Bytes.exported (.ref S)) Q E s := by
  unfold Builtin.Bytes.exported
  refine wpC_bind (wpC_stack fun st hst => wpC_pure ?_)
  refine (fun b (hb : b = false) => (hb ▸ h : Q b s)) _ ?_
  rw [List.any_eq_false]
  intro x hx
  have hc := hst x hx
  obtain ⟨c, p⟩ := x
  have key : ∀ id args, c = .builtin id args → id ∉ lenders := fun id args e => by
    subst e
    intro hm
    have : lenders.contains id = true := List.contains_iff_mem.mpr hm
    simp only [clean, this] at hc
    cases hc
  cases c with
  | builtin id args =>
    have kk := key id args rfl
    have n1 : id ≠ "bytearray.__contains__" := fun e => kk (by rw [e]; decide +kernel)
    have n2 : id ≠ "bytearray.__mod__" := fun e => kk (by rw [e]; decide +kernel)
    have n3 : id ≠ "bytearray.__rmod__" := fun e => kk (by rw [e]; decide +kernel)
    have n4 : id ≠ "_struct.pack_into.held" := fun e => kk (by rw [e]; decide +kernel)
    have n5 : id ≠ "bytearray.find.held" := fun e => kk (by rw [e]; decide +kernel)
    have n6 : Builtin.Bytes.decodersThatHold.contains id = false := by
      cases q : Builtin.Bytes.decodersThatHold.contains id with
      | false => rfl
      | true => exact absurd (List.mem_append_right _ (List.contains_iff_mem.mp q)) kk
    delta Builtin.Bytes.exported.match_1 Builtin.Bytes.exported._sparseCasesOn_1
    dsimp only
    rw [dif_neg n1, dif_neg n2, dif_neg n3, dif_neg n4, dif_neg n5]
    obtain ⟨pos, kw⟩ := args
    cases pos with
    | nil => exact Bool.false_ne_true
    | cons v vs =>
      show ¬ (Builtin.Bytes.sameRef v (Value.ref S) && Builtin.Bytes.decodersThatHold.contains id) = true
      rw [n6, Bool.and_false]
      exact Bool.false_ne_true
  | _ => exact Bool.false_ne_true
theorem ba_int_index : typeLookup (.type "int") "__index__" = pure (some (.builtin "int.__index__")) := by rw [typeLookup_type, builtinLookup_eq_fast]; kernel_rfl
theorem ba_no_str (n : Int) (t : Tok) : asStr? (.int n t) = pure none := rfl
theorem ba_index (n : Int) (t : Tok) : asIndex (.int n t) = pure n := rfl
theorem ba_ifP {α : Type} {p : Prop} {ip : Decidable p} {M : Model} {a b : Sem α} {Q : α → Shared → Prop} (c : p) (h : wpAny M A a Q E s) : wpAny M A (@ite _ p ip a b) Q E s := by rw [if_pos c]; exact h
theorem ba_ifN {α : Type} {p : Prop} {ip : Decidable p} {M : Model} {a b : Sem α} {Q : α → Shared → Prop} (c : ¬ p) (h : wpAny M A b Q E s) : wpAny M A (@ite _ p ip a b) Q E s := by rw [if_neg c]; exact h
theorem ba_init (n : Int) (t : Tok) (S : Addr) (h0 : 0 ≤ n) (h1 : n ≤ 64) {R : Result → Shared → Prop} (hS : s.heap.get? S = some { cls := .type "bytearray", data := .bytearray #[] })
    (hR : ∀ h', Heap.SameBut S s.heap h' → h'.get? S = some { cls := .type "bytearray", data := .bytearray (Array.replicate n.toNat 0) } → R (.ok (.ret .none)) { s with heap := h' }) :
    wpC (model prog w) A.in1 (Builtin.«bytearray.__init__» ⟨[.ref S, .int n t], []⟩) (finC (model prog w) A R) E s := by
  have hT : s.TypeIs (.ref S) "bytearray" := ⟨_, hS, rfl⟩
  unfold Builtin.«bytearray.__init__»
  refine wpC_bindA (ba_own hT ?_)
  refine wpC_if_false rfl ?_
  refine wpC_bindA (wpAny_of_eq (ba_bind _) ?_)
  refine wpC_bindA (wpAny_of_eq (a := ()) rfl ?_)
  refine wpC_bindA (wpAny_of_eq (a := ()) rfl ?_)
  refine wpC_bind (wpC_bind (wpC_exported ?_))
  refine wpC_any (wpAny_bind (wpAny_bind (wpAny_load hS (wpAny_pure (wpAny_pure ?_)))))
  refine wpC_any (bm_if_false (by decide) ?_)
  refine wpAny_bind (ba_write hS (Nat.zero_le _) ?_)
  have hS₂ : (s.heap.update S (Obj.mapBytearray fun _ => #[])).get? S = some { cls := .type "bytearray", data := .bytearray #[] } := Heap.get?_update_self (Obj.mapBytearray fun _ => #[]) hS rfl
  refine wpAny_bind (wpAny_of_eq (ba_no_str _ _) ?_)
  refine bm_if_false rfl ?_
  refine wpAny_bind (bm_if_false rfl (bm_if_false rfl (wpAny_pure ?_)))
  refine wpAny_bind (wpAny_specialOf (typeIs_int _ _ _) ba_int_index ?_)
  refine bm_if_true rfl ?_
  refine wpAny_bind (wpAny_attempt (wpAny_of_eq (ba_index _ _) ?_))
  have e1 : (!Builtin.Bytes.fitsIndex n) = false := by
    have : Builtin.Bytes.fitsIndex n = true := by unfold Builtin.Bytes.fitsIndex; simp only [Bool.and_eq_true, decide_eq_true_eq]; omega
    rw [this]; rfl
  refine bm_if_false e1 ?_
  have e2 : ¬ n < 0 := by omega
  refine ba_ifN e2 ?_
  have e3 : (n == 2 ^ 63 - 1) = false := by rw [beq_eq_false_iff_ne]; omega
  refine bm_if_false e3 ?_
  have e4 : Builtin.Bytes.tooLong n.toNat = false := by unfold Builtin.Bytes.tooLong; rw [sizeLine_eq]; exact decide_eq_false (by omega)
  refine bm_if_false e4 ?_
  refine wpAny_bind (wpAny_rule ?_)
  have hsb := Heap.SameBut.update s.heap S (Obj.mapBytearray fun _ => #[])
  by_cases hn : n > 0
  · refine ba_ifP hn ?_
    refine wpAny_bind (ba_write hS₂ (by rw [Array.size_replicate, sizeLine_eq]; omega) (wpAny_pure ?_))
    exact hR _ (hsb.trans (Heap.SameBut.update ..)) (Heap.get?_update_self (Obj.mapBytearray fun _ => Array.replicate n.toNat 0) hS₂ rfl)
  · refine ba_ifN hn ?_
    have : n = 0 := by omega
    subst this
    exact wpAny_pure (hR _ hsb hS₂)
theorem ba_type_call (n : Int) (t : Tok) (h0 : 0 ≤ n) (h1 : n ≤ 64) {Q : Value → Shared → Prop}
    (hQ : ∀ h', (∀ b o, s.heap.get? b = some o → h'.get? b = some o) → h'.get? s.heap.objs.size = some { cls := .type "bytearray", data := .bytearray (Array.replicate n.toNat 0) } → Q (.ref s.heap.objs.size) { s with heap := h' }) :
    wpC (model prog w) A (call (.type "bytearray") [.int n t]) Q E s := by
  refine wpC_call (codeC_tree rfl (wpC_any ?_))
  show wpAny _ _ (callAny (.type "bytearray") ⟨[.int n t], []⟩) _ _ _
  refine wpAny_pure ⟨Code.quiet_builtin _ (by decide +kernel), codeC_builtin (by decide +kernel) F.entry_type_call ?_⟩
  rw [Around.under_plain (weight_type_call_type _ _ _) (units_type_call_type _ _ _)]
  have k1 := ba_called.notType
  have k2 := ba_called.canCreate
  have hct := ba_typeCall (.int n t)
  have hmro := ba_mro
  have hmade := ba_called.made
  unfold Builtin.«type.__call__»
  dsimp only
  simp only [k1, k2, hct, hmro, hmade, pure_bind, Bool.false_eq_true, if_false, List.isEmpty_cons]
  refine wpC_bindA (wpAny_holding (wpAny_call (codeAny_mono (ba_code_new _ (Q₁ := fun obj s₁ => obj = .ref s.heap.objs.size ∧ s₁ = { s with heap := s.heap.push { cls := .type "bytearray", data := .bytearray #[] } }) (E := fun _ _ => False) ⟨rfl, rfl⟩) fun r s₁ hr => ?_)))
  cases r with
  | error e => exact hr.elim
  | ok fl =>
    cases fl with
    | ret obj =>
      obtain ⟨rfl, rfl⟩ := hr
      have hS : (s.heap.push { cls := .type "bytearray", data := .bytearray #[] }).get? s.heap.objs.size = some { cls := .type "bytearray", data := .bytearray #[] } := Heap.get?_push_size _ rfl
      have hT : ({ s with heap := s.heap.push { cls := .type "bytearray", data := .bytearray #[] } } : Shared).TypeIs (.ref s.heap.objs.size) "bytearray" := ⟨_, hS, rfl⟩
      refine wpC_bindA (wpAny_isInstance hT ba_sub ?_)
      refine wpC_if_false rfl ?_
      refine wpC_bind (wpC_holding (callSpecialC hT ba_slot_init (callBuiltinC ba_slot_init.plain (by decide +kernel) ba_entry_init (fun P hP => ba_slot_init.check _ _ _ _ _ _ _ _ hT (rfl) hP) ?_)))
      refine ba_init n t _ h0 h1 hS fun h' hsb hg => ?_
      dsimp only
      refine wpC_if_false rfl (wpC_any (wpAny_pure ?_))
      refine hQ h' (fun b o e => ?_) hg
      exact (hsb.2 b (Nat.ne_of_lt (Heap.lt_size e))).trans (Heap.get?_push_of_some _ e)
    | _ => exact hr.elim
end
end
section
open PySem PySem.W PyProof.Rows PySem.Spec PySem.Calls
set_option maxRecDepth 100000
set_option maxHeartbeats 8000000
set_option linter.unusedVariables false
set_option linter.deprecated false
theorem fresh_W4 : True := by
  w_top off
  trivial
open PySem PySem.W PyProof.Rows PySem.Spec PySem.Calls
set_option maxRecDepth 100000
set_option maxHeartbeats 8000000
set_option linter.unusedVariables false
set_option linter.deprecated false
abbrev baOf (b : Array UInt8) : Obj := { cls := .type "bytearray", data := .bytearray b }
theorem ba_no_bytes : typeLookup (.type "bytearray") "__bytes__" = pure none := by rw [typeLookup_type, builtinLookup_eq_fast]; kernel_rfl
theorem ba_no_index : typeLookup (.type "bytearray") "__index__" = pure none := by rw [typeLookup_type, builtinLookup_eq_fast]; kernel_rfl
theorem ba_buffer : typeLookup (.type "bytearray") "__buffer__" = pure (some (.builtin "bytearray.__buffer__")) := by rw [typeLookup_type, builtinLookup_eq_fast]; kernel_rfl
theorem ba_dropB : ("bytearray.__buffer__".dropRight ("__buffer__".length + 1)) = "bytearray" := by decide +kernel
section
variable {prog : Program} {w : World} {A : Around} {E : Value → Shared → Prop} {s : Shared} {h₀ : Heap} {L : Addr} {m : Str → Option Value} {news news' : List (Addr × Obj)}
theorem ba_setAt {D : Addr} {b : Array UInt8} {k x : Int} {t u : Tok} {Q : Unit → Shared → Prop} (ho : s.heap.get? D = some (baOf b)) (h0 : 0 ≤ k) (h1 : k < b.size) (hb : b.size ≤ 64) (x0 : 0 ≤ x) (x1 : x < 256)
    (hQ : Q () { s with heap := s.heap.update D (Obj.mapBytearray (·.setIfInBounds k.toNat x.toNat.toUInt8)) }) : wpAny (model prog w) A (setItem (.ref D) (.int k t) (.int x u)) Q E s := by
  have hT : s.TypeIs (.ref D) "bytearray" := ⟨_, ho, rfl⟩
  unfold setItem
  refine wpAny_holding ?_
  refine wpAny_bind (wpAny_sequenceKey hT (by decide) ?_)
  refine wpAny_bind (wpAny_callSpecial?_slot (name := Str.ofString "__setitem__") hT ba_slot_set (wpAny_call_entry ba_slot_set hT ba_entry_set ?_ rfl))
  unfold Builtin.«bytearray.__setitem__»
  refine bm_if_false rfl ?_
  dsimp only
  refine wpAny_bind ?_
  unfold Builtin.Bytes.subscript?
  refine wpAny_bind (wpAny_specialOf (typeIs_int _ _ _) ba_int_index ?_)
  refine bm_if_false rfl ?_
  rw [ba_index]
  refine wpAny_bind (wpAny_pure ?_)
  have e1 : (!Builtin.Bytes.fitsIndex k) = false := by
    have : Builtin.Bytes.fitsIndex k = true := by unfold Builtin.Bytes.fitsIndex; simp only [Bool.and_eq_true, decide_eq_true_eq]; omega
    rw [this]; rfl
  refine bm_if_false e1 (wpAny_pure ?_)
  dsimp only
  unfold Builtin.Bytes.byteValue
  rw [ba_index]
  refine wpAny_bind (wpAny_bind (wpAny_pure ?_))
  refine bm_if_false (by simp only [Bool.or_eq_false_iff, decide_eq_false_iff_not]; omega) (wpAny_pure ?_)
  unfold Builtin.Bytes.payload Builtin.Bytes.payload?
  refine wpAny_bind (wpAny_bind (wpAny_bind (wpAny_load ho (wpAny_pure (wpAny_pure ?_)))))
  have e2 : seqIndex? k b.size = some k.toNat := by
    unfold seqIndex?
    have c : ¬ k < 0 := by omega
    simp only [if_neg c]
    rw [if_pos (by rw [decide_eq_true h0, decide_eq_true h1]; rfl)]
  rw [e2]
  dsimp only
  exact wpAny_bind (ba_write ho (by rw [Array.size_setIfInBounds, sizeLine_eq]; omega) (wpAny_pure ⟨.none, rfl, wpAny_pure hQ⟩))
theorem ba_bytes {D : Addr} {b : Array UInt8} {Q : Value → Shared → Prop} (ho : s.heap.get? D = some (baOf b)) (hb : b.size ≤ 64)
    (hQ : ∀ t k, Q (.bytes b t) { s with toks := k }) : wpAny (model prog w) A (call (.type "bytes") [.ref D]) Q E s := by
  have hT : s.TypeIs (.ref D) "bytearray" := ⟨_, ho, rfl⟩
  refine callType_codes (Q₁ := fun obj s₁ => s₁.TypeIs obj "bytes" ∧ Q obj s₁) F.bm_called (F.bm_typeCall _) F.entry_object_init
    ?_ fun obj s₁ h₁ => ⟨h₁.1, F.args_object_init_2 obj _, object_init_meets F.bm_called.init.lookup F.bm_called.made (by decide) prog w A.in1 _ s₁ ⟨h₁.1, rfl, h₁.2⟩⟩
  refine codeAny_of_tree ?_
  show wpAny _ A.in1.in1 (do checkBuiltinCall "bytes.__new__" ⟨[.type "bytes", .ref D], []⟩; again (.builtin "bytes.__new__" ⟨[.type "bytes", .ref D], []⟩)) _ _ s
  refine wpAny_bind (wpAny_of_eq (F.bm_newCall _) (wpAny_pure ⟨plainId_quiet F.bm_plain _, codeAny_builtin F.bm_entry ?_⟩))
  rw [Around.under_plainId F.bm_plain _]
  unfold Builtin.«bytes.__new__»
  refine wpAny_bind (wpAny_of_eq (a := true) rfl ?_)
  refine bm_if_false rfl ?_
  refine wpAny_bind (wpAny_of_eq F.bm_sub ?_)
  refine bm_if_false rfl ?_
  refine wpAny_bind (wpAny_of_eq (F.bm_bind _) ?_)
  refine wpAny_bind (wpAny_of_eq (a := ()) rfl ?_)
  refine wpAny_bind (wpAny_of_eq (a := ()) rfl ?_)
  refine bm_if_false rfl ?_
  refine wpAny_bind (wpAny_specialOf hT ba_no_bytes ?_)
  refine wpAny_bind (wpAny_bind ?_)
  show wpAny _ _ (load D >>= _) _ _ _
  refine wpAny_bind (wpAny_load ho ?_)
  refine wpAny_pure (wpAny_pure ?_)
  refine bm_if_false rfl ?_
  refine wpAny_bind (wpAny_specialOf hT ba_no_index ?_)
  refine bm_if_true rfl ?_
  show wpAny _ _ (Builtin.Bytes.buffer? "bytes.__new__" (.ref D) true >>= _) _ _ _
  refine wpAny_bind ?_
  unfold Builtin.Bytes.buffer?
  refine wpAny_bind (wpAny_specialOf hT ba_buffer ?_)
  dsimp only
  refine wpAny_bind ?_
  unfold Builtin.Bytes.slotIsOwn
  refine wpAny_bind (wpAny_specialOf hT ba_buffer ?_)
  dsimp only
  refine bm_if_false (by decide +kernel) ?_
  rw [ba_dropB]
  refine wpAny_isInstance hT ba_sub ?_
  refine bm_if_false rfl ?_
  refine wpAny_bind (wpAny_specialOf hT ba_buffer ?_)
  refine wpAny_bind (ba_own hT ?_)
  refine bm_if_false rfl ?_
  unfold Builtin.Bytes.payload Builtin.Bytes.payload?
  refine wpAny_bind (wpAny_bind (wpAny_bind (wpAny_load ho (wpAny_pure (wpAny_pure (wpAny_pure ?_))))))
  refine wpAny_bind (wpAny_rule ?_)
  refine wpAny_bind (wpAny_mkBytes ?_ (by rw [sizeLine_eq]; omega))
  show wpAny _ _ (if (Value.type "bytes" == Value.type "bytes") = true then _ else _) _ _ _
  refine bm_if_true (by decide) ?_
  first
    | exact wpAny_pure ⟨PySem.W.typeIs_bytes _ _ _, hQ _ _⟩
    | exact wpAny_bind (wpAny_pure (wpAny_pure ⟨PySem.W.typeIs_bytes _ _ _, hQ _ _⟩))
theorem baK_new {n : Int} {t : Tok} {Q : Value → Shared → Prop} (F : Fr h₀ L s.heap m) (N : News h₀ L s.heap news) (h0 : 0 ≤ n) (h1 : n ≤ 64)
    (h : ∀ a h', Fr h₀ L h' m → News h₀ L h' ((a, baOf (Array.replicate n.toNat 0)) :: news) → (∀ p ∈ news, p.1 < a) → Q (.ref a) { s with heap := h' }) :
    wpC (model prog w) A (call (.type "bytearray") [.int n t]) Q E s := by
  refine ba_type_call n t h0 h1 fun h' hk hg => h _ h' (F.grownK hk) (fun p hp => ?_) fun p hp => Heap.lt_size (N p hp).1
  rcases List.mem_cons.mp hp with rfl | hp
  · obtain ⟨oL, _, _, hL, _⟩ := F.ns
    refine ⟨hg, Nat.ne_of_gt (Heap.lt_size hL), ?_⟩
    cases q : h₀.get? s.heap.objs.size with
    | none => rfl
    | some o => exact absurd (Heap.lt_size (F.keep _ _ q)) (Nat.lt_irrefl _)
  · exact ⟨hk _ _ (N p hp).1, (N p hp).2⟩
theorem baK_set {D : Addr} {b : Array UInt8} {k x : Int} {t u : Tok} {Q : Unit → Shared → Prop} (F : Fr h₀ L s.heap m) (N : News h₀ L s.heap news) (U : Upd D (baOf b) (baOf (b.setIfInBounds k.toNat x.toNat.toUInt8)) news news')
    (h0 : 0 ≤ k) (h1 : k < b.size) (hb : b.size ≤ 64) (x0 : 0 ≤ x) (x1 : x < 256) (h : ∀ h', Fr h₀ L h' m → News h₀ L h' news' → Q () { s with heap := h' }) :
    wpAny (model prog w) A (setItem (.ref D) (.int k t) (.int x u)) Q E s := by
  obtain ⟨pre, post, rfl, rfl, h1', h2'⟩ := U.split
  have z := news_upd (f := Obj.mapBytearray (·.setIfInBounds k.toNat x.toNat.toUInt8)) F N h1' h2' rfl rfl
  exact ba_setAt (N (D, baOf b) (by simp)).1 h0 h1 hb x0 x1 (h _ z.1 z.2)
theorem baK_bytes {D : Addr} {b : Array UInt8} {Q : Value → Shared → Prop} (N : News h₀ L s.heap news) (hm : (D, baOf b) ∈ news) (hb : b.size ≤ 64) (h : ∀ t k, Q (.bytes b t) { s with toks := k }) :
    wpAny (model prog w) A (call (.type "bytes") [.ref D]) Q E s := ba_bytes (N _ hm).1 hb h
end
/-- the octets of n, the greatest first -/
def beL : Nat → Int → List UInt8
  | 0, _ => []
  | k + 1, n => beL k (Int.fdiv n 256) ++ [(Int.fmod n 256).toNat.toUInt8]
end
section
open PySem PySem.W PyProof.Rows PySem.Spec PySem.Calls
set_option maxRecDepth 100000
set_option maxHeartbeats 8000000
set_option linter.unusedVariables false
theorem fresh_W5 : True := by
  w_top off
  trivial
open PySem PySem.W PyProof.Rows PySem.Spec PySem.Calls
set_option maxRecDepth 100000
set_option maxHeartbeats 8000000
set_option linter.unusedVariables false
section
variable {prog : Program} {w : World} {A : Around} {E : Value → Shared → Prop} {s : Shared} {env : Env} {h₀ : Heap} {x : Str} {body : List Stmt} {Q : Flow → Shared → Prop}
theorem UnrEnd.turn {L I : Addr} {it : Obj} {r r' : (Str → Option Value) → List (Addr × Obj) → Prop} {s₁ s₂ : Shared} (h : UnrEnd h₀ L s₁ I it r s₂) (k : ∀ m n, (∀ p ∈ n, p.1 ≠ I) → r m n → r' m n) : UnrEnd h₀ L s₁ I it r' s₂ := by
  obtain ⟨h', tk, m', news', e, F, N, off, hr⟩ := h
  exact ⟨h', tk, m', news', e, F, N, off, k _ _ off hr⟩
theorem UnrPost.turn {L I : Addr} {it : Obj} {r r' : (Str → Option Value) → List (Addr × Obj) → Prop} {s₁ s₂ : Shared} {f : Flow} (h : UnrPost h₀ L s₁ I it r Q f s₂) (k : ∀ m n, (∀ p ∈ n, p.1 ≠ I) → r m n → r' m n) : UnrPost h₀ L s₁ I it r' Q f s₂ := by
  cases f with
  | ret v => exact h
  | brk => exact h
  | next => exact UnrEnd.turn h k
  | cont => exact UnrEnd.turn h k
/-- a loop over a range with a step, by an invariant -/
theorem range_inv {r : Addr} {a₀ b₀ c : Int} {t₀ u₀ v₀ : Tok} {n : Nat} {m₀ : Str → Option Value} {news : List (Addr × Obj)} (J : Nat → (Str → Option Value) → List (Addr × Obj) → Prop)
    (hh : A.handled = none) (hr : IsRange s.heap r a₀ b₀ c t₀ u₀ v₀) (hsmall : Builtin.Range.small a₀ b₀ c = true) (hn : Builtin.Range.rangeSize a₀ b₀ c = (n : Int)) (F : Fr h₀ env.locals s.heap m₀) (N : News h₀ env.locals s.heap news) (hj : J 0 m₀ news)
    (turn : ∀ (i : Nat) (t : Tok) m₁ news₁ I it h tk, i < n → (∀ p ∈ news₁, p.1 ≠ I) → J i m₁ news₁ → Fr h₀ env.locals h (fun y => if y = x then some (.int (a₀ + (i : Int) * c) t) else m₁ y) → News h₀ env.locals h ((I, it) :: news₁) →
      wpAny (model prog w) A (execs body env) (UnrPost h₀ env.locals { s with heap := h, toks := tk } I it (J (i + 1)) Q) E { s with heap := h, toks := tk })
    (done : ∀ m₁ news₁ h tk, J n m₁ news₁ → Fr h₀ env.locals h m₁ → News h₀ env.locals h news₁ → Q .next { s with heap := h, toks := tk }) :
    wpAny (model prog w) A (pyIter (.ref r)) (fun it s₂ => LoopAtV prog w A h₀ env x body Q E it s₂) E s := by
  refine krs_iter hh hr hsmall hn F N fun I hI => ?_
  have all : ∀ k i m₁ news₁, i + k = n → (∀ p ∈ news₁, p.1 ≠ I) → J i m₁ news₁ → KrsRest prog w A E h₀ env x body Q s I a₀ c n k i m₁ news₁ := by
    intro k
    induction k with
    | zero =>
      intro i m₁ news₁ e off hJ
      obtain rfl : i = n := by omega
      exact KrsRest.zero fun h tk F' N' => done _ _ h tk hJ F' N'
    | succ k ih =>
      intro i m₁ news₁ e off hJ
      refine KrsRest.succ rfl fun t h tk F' N' => ?_
      exact wpAny_mono (turn i t m₁ news₁ I _ h tk (by omega) off hJ F' N') (fun f s₂ p => UnrPost.turn p fun m' n' o' q => ih (i + 1) m' n' (by omega) o' q) fun _ _ y => y
  exact all n 0 _ _ (by omega) (fun p hp => Nat.ne_of_lt (hI p hp)) hj
theorem map_again {m₀ : Str → Option Value} {x : Str} {u v : Option Value} : (fun y => if y = x then v else (fun y => if y = x then u else m₀ y) y) = fun y => if y = x then v else m₀ y := by
  funext y
  by_cases e : y = x
  · simp only [if_pos e]
  · simp only [if_neg e]
/-- the same, where a turn stores no name but the loop's own -/
theorem range_inv0 {r : Addr} {a₀ b₀ c : Int} {t₀ u₀ v₀ : Tok} {n : Nat} {m₀ : Str → Option Value} {news : List (Addr × Obj)} (J : Nat → List (Addr × Obj) → Prop)
    (hh : A.handled = none) (hr : IsRange s.heap r a₀ b₀ c t₀ u₀ v₀) (hsmall : Builtin.Range.small a₀ b₀ c = true) (hn : Builtin.Range.rangeSize a₀ b₀ c = (n : Int)) (F : Fr h₀ env.locals s.heap m₀) (N : News h₀ env.locals s.heap news) (hj : J 0 news)
    (turn : ∀ (i : Nat) (t : Tok) news₁ I it h tk, i < n → (∀ p ∈ news₁, p.1 ≠ I) → J i news₁ → Fr h₀ env.locals h (fun y => if y = x then some (.int (a₀ + (i : Int) * c) t) else m₀ y) → News h₀ env.locals h ((I, it) :: news₁) →
      wpAny (model prog w) A (execs body env) (UnrPost h₀ env.locals { s with heap := h, toks := tk } I it (fun m' n' => (∃ u, m' = fun y => if y = x then u else m₀ y) ∧ J (i + 1) n') Q) E { s with heap := h, toks := tk })
    (done : ∀ u news₁ h tk, J n news₁ → Fr h₀ env.locals h (fun y => if y = x then u else m₀ y) → News h₀ env.locals h news₁ → Q .next { s with heap := h, toks := tk }) :
    wpAny (model prog w) A (pyIter (.ref r)) (fun it s₂ => LoopAtV prog w A h₀ env x body Q E it s₂) E s := by
  refine range_inv (fun i m' n' => (∃ u, m' = fun y => if y = x then u else m₀ y) ∧ J i n') hh hr hsmall hn F N ⟨⟨m₀ x, ?_⟩, hj⟩ ?_ ?_
  · funext y
    by_cases e : y = x
    · rw [if_pos e, e]
    · rw [if_neg e]
  · rintro i t m₁ news₁ I it h tk hi off ⟨⟨u, rfl⟩, hJ⟩ F₁ N₁
    rw [map_again] at F₁
    exact turn i t news₁ I it h tk hi off hJ F₁ N₁
  · rintro m₁ news₁ h tk ⟨⟨u, rfl⟩, hJ⟩ F₁ N₁
    exact done u news₁ h tk hJ F₁ N₁
end
/-- a mark at which the walk halts -/
def Halt (P : Prop) : Prop := P
theorem wpAny_halt {α : Type} {M : Model} {A : Around} {t : Sem α} {Q : α → Shared → Prop} {E : Value → Shared → Prop} {s : Shared} (h : wpAny M A t (fun a s' => Halt (Q a s')) E s) : wpAny M A t Q E s := wpAny_mono h (fun _ _ y => y) fun _ _ y => y
/-- n after i turns of n // 256 -/
def divN (n : Int) : Nat → Int
  | 0 => n
  | i + 1 => Int.fdiv (divN n i) 256
theorem divN_head (n : Int) : ∀ i, divN (Int.fdiv n 256) i = divN n (i + 1)
  | 0 => rfl
  | i + 1 => by show Int.fdiv (divN (Int.fdiv n 256) i) 256 = _; rw [divN_head n i]; rfl
theorem beL_head : ∀ (i : Nat) (n : Int), beL (i + 1) n = (Int.fmod (divN n i) 256).toNat.toUInt8 :: beL i n
  | 0, n => rfl
  | i + 1, n => by
    show beL (i + 1) (Int.fdiv n 256) ++ _ = _
    rw [beL_head i, divN_head]
    rfl
theorem beL_length : ∀ (k : Nat) (n : Int), (beL k n).length = k
  | 0, _ => rfl
  | k + 1, n => by show (beL k _ ++ [_]).length = _; rw [List.length_append, beL_length k]; rfl
/-- the octets as they stand after i turns -/
def baAt (k i : Nat) (n : Int) : Array UInt8 := (List.replicate (k - i) 0 ++ beL i n).toArray
theorem baAt_zero (k : Nat) (n : Int) : Array.replicate k 0 = baAt k 0 n := by
  unfold baAt beL
  apply Array.toList_inj.mp
  simp
theorem baAt_size {k i : Nat} (h : i ≤ k) (n : Int) : (baAt k i n).size = k := by
  unfold baAt
  simp only [List.size_toArray, List.length_append, List.length_replicate, beL_length]
  omega
theorem baAt_last (k : Nat) (n : Int) : baAt k k n = (beL k n).toArray := by unfold baAt; simp
theorem baAt_set {k i : Nat} (h : i < k) (n : Int) (j : Nat) (hj : j = k - 1 - i) : (baAt k i n).setIfInBounds j (Int.fmod (divN n i) 256).toNat.toUInt8 = baAt k (i + 1) n := by
  subst hj
  unfold baAt
  rw [beL_head]
  apply Array.toList_inj.mp
  have e : k - i = (k - (i + 1)) + 1 := by omega
  simp only [Array.toList_setIfInBounds, List.toList_toArray]
  rw [e, List.replicate_succ', List.append_assoc, List.set_append_right _ _ (by simp; omega)]
  have e2 : k - 1 - i - (List.replicate (k - (i + 1)) (0 : UInt8)).length = 0 := by simp; omega
  rw [e2]
  rfl
end
section
open PySem PySem.W PyProof.Rows PySem.Spec PySem.Calls
set_option maxRecDepth 100000
set_option maxHeartbeats 8000000
set_option linter.unusedVariables false
theorem fresh_W6 : True := by
  w_top off
  trivial
open PySem PySem.W PyProof.Rows PySem.Spec PySem.Calls
set_option maxRecDepth 100000
set_option maxHeartbeats 8000000
set_option linter.unusedVariables false
section
variable {prog : Program} {w : World} {A : Around} {E : Value → Shared → Prop} {s : Shared} {env : Env} {h₀ : Heap} {x : Str} {body : List Stmt} {Q : Flow → Shared → Prop}
/-- a loop by an invariant, over whatever walks: its source stands in the old heap, in the ledger, or is no object -/
theorem loopAt_inv {I : Addr} {o : Obj} {fp : List Addr} {n : Nat} {P : Nat → Value → Prop} {St : Nat → Heap → Prop} {m₀ : Str → Option Value} {news keep : List (Addr × Obj)} (J : Nat → (Str → Option Value) → List (Addr × Obj) → Prop)
    (hI : I = s.heap.objs.size) (W : Walks prog w A I fp [I] n P St) (hfp : ∀ b ∈ fp, b = I ∨ (∃ o, h₀.get? b = some o) ∨ ∃ o, (b, o) ∈ keep) (hlive : ∀ i h, St i h → ∃ it, h.get? I = some it) (hst : St 0 (s.heap.push o))
    (F : Fr h₀ env.locals s.heap m₀) (N : News h₀ env.locals s.heap news) (hk : ∀ p ∈ keep, p ∈ news) (hj : J 0 m₀ news)
    (turn : ∀ (i : Nat) (v : Value) m₁ news₁ it h tk, i < n → P i v → (∀ p ∈ news₁, p.1 ≠ I) → (∀ p ∈ keep, p ∈ news₁) → J i m₁ news₁ → Fr h₀ env.locals h (fun y => if y = x then some v else m₁ y) → News h₀ env.locals h ((I, it) :: news₁) →
      wpAny (model prog w) A (execs body env) (UnrPost h₀ env.locals { s with heap := h, toks := tk } I it (fun m' n' => (∀ p ∈ keep, p ∈ n') ∧ J (i + 1) m' n') Q) E { s with heap := h, toks := tk })
    (done : ∀ m₁ news₁ h tk, J n m₁ news₁ → Fr h₀ env.locals h m₁ → News h₀ env.locals h news₁ → Q .next { s with heap := h, toks := tk }) :
    LoopAtV prog w A h₀ env x body Q E (.ref I) { s with heap := s.heap.push o } := by
  have hnew : h₀.get? I = none := by
    cases q : h₀.get? I with
    | none => rfl
    | some o' => exact absurd (Heap.lt_size (F.keep _ _ q)) (by rw [hI]; exact Nat.lt_irrefl _)
  have hLI : env.locals ≠ I := by rw [hI]; exact Nat.ne_of_lt F.ns.lt
  refine ⟨I, fp, [I], n, P, St, m₀, news, fun i m₁ news₁ => (∀ p ∈ keep, p ∈ news₁) ∧ J i m₁ news₁, rfl, W, ?_, ?_, ?_, hst, F.push _, (fun p hp => ⟨Heap.get?_push_of_some _ (N p hp).1, (N p hp).2⟩), ⟨hk, hj⟩, ?_, ?_⟩
  · intro hm
    rcases hfp _ hm with e | ⟨o', e⟩ | ⟨o', e⟩
    · exact hLI e
    · exact absurd (Nat.lt_of_lt_of_le (Heap.lt_size e) F.above) (Nat.lt_irrefl _)
    · exact (N _ (hk _ e)).2.1 rfl
  · intro b hb
    rw [List.mem_singleton.mp hb]
    exact hnew
  · intro p hp hq
    exact absurd (Heap.lt_size (N p hp).1) (by rw [List.mem_singleton.mp hq, hI]; exact Nat.lt_irrefl _)
  · rintro i v m₁ news₁ s₁ own ⟨hh', tk', rfl⟩ hin hP ⟨hkp, hJ⟩ hoff hown hget hall hst F₁ N₁
    obtain ⟨it, hit⟩ := hlive _ _ hst
    have hmem := hall I (W.sub _ (List.mem_singleton.mpr rfl)) hnew _ hit
    have off : ∀ p ∈ news₁, p.1 ≠ I := fun p hp e => hoff p hp (e ▸ List.mem_singleton.mpr rfl)
    have N₂ : News h₀ env.locals hh' ((I, it) :: news₁) := fun p hp => by
      rcases List.mem_cons.mp hp with rfl | hp
      · exact N₁ _ (List.mem_append_left _ hmem)
      · exact N₁ _ (List.mem_append_right _ hp)
    refine wpAny_mono (turn i v m₁ news₁ it hh' tk' hin hP off hkp hJ F₁ N₂) (fun f s₂ p => ?_) fun _ _ y => y
    have fin : UnrEnd h₀ env.locals { s with heap := hh', toks := tk' } I it (fun m' n' => (∀ p ∈ keep, p ∈ n') ∧ J (i + 1) m' n') s₂ →
        LoopStepU h₀ env.locals [I] own (fun m' n' => (∀ p ∈ keep, p ∈ n') ∧ J (i + 1) m' n') { s with heap := hh', toks := tk' } .next s₂ := by
      rintro ⟨h', tk, m', news', e, F', N', ho, hk', r⟩
      refine ⟨rfl, h', tk, m', news', e, F', fun p hp => ?_, fun p hp hq => ho p hp (List.mem_singleton.mp hq), hk', r⟩
      rcases List.mem_append.mp hp with hp | hp
      · have h2 : hh'.get? p.1 = some p.2 := hget p hp
        rcases hfp _ (hown p hp) with h1 | ⟨o', h1⟩ | ⟨o', h1⟩
        · have h3 : p = (I, it) := by
            rw [h1, hit] at h2
            exact Prod.ext h1 (Option.some.inj h2).symm
          rw [h3]; exact N' _ (List.mem_cons_self ..)
        · have h4 := (N₁ p (List.mem_append_left _ hp)).2.2
          rw [h1] at h4; cases h4
        · have h5 := (N₁ _ (List.mem_append_right _ (hkp _ h1))).1
          rw [h5] at h2
          have h3 : p = (p.1, o') := Prod.ext rfl (Option.some.inj h2).symm
          exact N' _ (List.mem_cons_of_mem _ (h3 ▸ hk' _ h1))
      · exact N' _ (List.mem_cons_of_mem _ hp)
    cases f with
    | ret v => exact .ret p
    | brk => exact .brk p
    | next => exact .next (fin p)
    | cont => exact .cont (fin p)
  · rintro h' tk m' news' F' N' _ ⟨_, hJ⟩
    exact done _ _ h' tk hJ F' N'
/-- a loop over a tuple of the top -/
theorem tuple_inv {t : Addr} {items : Array Value} {ot : Obj} {m₀ : Str → Option Value} {news : List (Addr × Obj)} (J : Nat → (Str → Option Value) → List (Addr × Obj) → Prop)
    (hh : A.handled = none) (ht : h₀.get? t = some ot) (hc : ot.cls = .type "tuple") (hd : ∃ n, ot.data = .seq items n) (F : Fr h₀ env.locals s.heap m₀) (N : News h₀ env.locals s.heap news) (hj : J 0 m₀ news)
    (turn : ∀ (i : Nat) (v : Value) m₁ news₁ I it h tk, items[i]? = some v → (∀ p ∈ news₁, p.1 ≠ I) → J i m₁ news₁ → Fr h₀ env.locals h (fun y => if y = x then some v else m₁ y) → News h₀ env.locals h ((I, it) :: news₁) →
      wpAny (model prog w) A (execs body env) (UnrPost h₀ env.locals { s with heap := h, toks := tk } I it (fun m' n' => J (i + 1) m' n') Q) E { s with heap := h, toks := tk })
    (done : ∀ m₁ news₁ h tk, J items.size m₁ news₁ → Fr h₀ env.locals h m₁ → News h₀ env.locals h news₁ → Q .next { s with heap := h, toks := tk }) :
    wpAny (model prog w) A (pyIter (.ref t)) (fun it s₂ => LoopAtV prog w A h₀ env x body Q E it s₂) E s := by
  have hT : s.heap.IsTuple t items := ⟨_, F.keep _ _ ht, hc, hd⟩
  refine wpAny_pyIter_tuple hT ?_
  have hlt : t < s.heap.objs.size := Heap.lt_size (F.keep _ _ ht)
  refine loopAt_inv (keep := []) J rfl (Walks.tuple hh _ t (Nat.ne_of_lt hlt) items) (fun b hb => ?_) (fun i h hs => ?_) ⟨⟨_, Heap.get?_push_size _ rfl, rfl, rfl⟩, _, Heap.get?_push_of_some _ (F.keep _ _ ht), hc, hd⟩ F N (fun _ hp => nomatch hp) hj
    (fun i v m₁ news₁ it h tk hi hP off _ hJ F₁ N₁ => wpAny_mono (turn i v m₁ news₁ _ it h tk hP off hJ F₁ N₁) (fun f s₂ p => UnrPost.turn p fun m' n' _ q => ⟨(fun _ hp => nomatch hp), q⟩) fun _ _ y => y) done
  · rcases List.mem_cons.mp hb with e | hb
    · exact .inl e
    · exact .inr (.inl ⟨_, (List.mem_singleton.mp hb) ▸ ht⟩)
  · obtain ⟨⟨o, e, _⟩, _⟩ := hs
    exact ⟨o, e⟩
end
end
section
open PySem PySem.W PyProof.Rows PySem.Spec PySem.Calls
set_option maxRecDepth 100000
set_option maxHeartbeats 8000000
set_option linter.unusedVariables false
theorem fresh_W7 : True := by
  w_top off
  trivial
open PySem PySem.W PyProof.Rows PySem.Spec PySem.Calls
set_option maxRecDepth 100000
set_option maxHeartbeats 8000000
set_option linter.unusedVariables false
/-- the place of a size -/
def idxI (size : Int) : Int := if size = 1 then 0 else if size = 2 then 1 else if size = 4 then 2 else 3
/-- the tuple of the sizes -/
abbrev sizesO (a b c d : Tok) : Obj := { cls := .type "tuple", data := .seq #[.int 1 a, .int 2 b, .int 4 c, .int 8 d] }
section
variable {prog : Program} {w : World} {A : Around} {E : Value → Shared → Prop} {s : Shared} {h₀ : Heap} {L T : Addr} {m : Str → Option Value} {news : List (Addr × Obj)} {a b c d : Tok} {x : Int} {t : Tok}
theorem sizes_isTuple (F : Fr h₀ L s.heap m) (ht : h₀.get? T = some (sizesO a b c d)) : s.heap.IsTuple T #[.int 1 a, .int 2 b, .int 4 c, .int 8 d] := ⟨_, F.keep _ _ ht, rfl, _, rfl⟩
theorem sizes_eq {A : Around} (y : Value) (hy : y ∈ (#[.int 1 a, .int 2 b, .int 4 c, .int 8 d] : Array Value)) : SeqAt.EqAt A s y (.int x t) (isInt x y) :=
  (kf_eq (k := x) (t := t) (l := [.int 1 a, .int 2 b, .int 4 c, .int 8 d]) rfl y (by simpa using hy)).at _ _
theorem sizes_notin {Q : Value → Shared → Prop} (F : Fr h₀ L s.heap m) (ht : h₀.get? T = some (sizesO a b c d)) (hx : x = 1 ∨ x = 2 ∨ x = 4 ∨ x = 8) (h : Q (.bool false) s) : wpAny (model prog w) A (compareOp .NotIn (.int x t) (.ref T)) Q E s := by
  refine SeqAt.notIn_tupleAt (isInt x) (sizes_isTuple F ht) sizes_eq ?_
  rcases hx with rfl | rfl | rfl | rfl <;> (simp [isInt]; exact h)
theorem sizes_method {pl : Sem Bool} {Q : Value × List Value → Shared → Prop} (F : Fr h₀ L s.heap m) (ht : h₀.get? T = some (sizesO a b c d)) (h : Q (.builtin "tuple.index", [.ref T]) s) : wpAny (model prog w) A (getMethod (.ref T) "index" pl) Q E s :=
  getMethod_builtin ⟨_, F.keep _ _ ht, rfl⟩ PySem.F.plainAttrs_tuple PySem.F.slot_tuple_index PySem.F.type_tuple_index (fun a e => by cases e; exact ⟨_, F.keep _ _ ht, rfl⟩) h
theorem sizes_index {Q : Value → Shared → Prop} (F : Fr h₀ L s.heap m) (ht : h₀.get? T = some (sizesO a b c d)) (hx : x = 1 ∨ x = 2 ∨ x = 4 ∨ x = 8) (h : Q (.int (idxI x) s.toks) { s with toks := s.toks + 1 }) :
    wpAny (model prog w) A (call (.builtin "tuple.index") [.ref T, .int x t]) Q E s := by
  have ho := F.keep _ _ ht
  have hT : s.TypeIs (.ref T) "tuple" := ⟨_, ho, rfl⟩
  refine wpAny_call_entry PySem.F.slot_tuple_index hT PySem.F.entry_tuple_index ?_ (PySem.F.args_tuple_index_2 _ _)
  have he : ∀ (y : Value), y ∈ (#[.int 1 a, .int 2 b, .int 4 c, .int 8 d] : Array Value) → SeqAt.EqAt A.in1 s y (.int x t) (isInt x y) := fun y hy => sizes_eq y hy
  have e1 := he (.int 1 a) (by simp)
  have e2 := he (.int 2 b) (by simp)
  have e3 := he (.int 4 c) (by simp)
  have e4 := he (.int 8 d) (by simp)
  unfold Builtin.«tuple.index» Builtin.Tuple.tupleItemsOf
  refine wpAny_bind (wpAny_of_eq (a := (.ref T, [.int x t])) rfl ?_)
  refine wpAny_bind (wpAny_bind (wpAny_seqItems ho rfl (wpAny_pure ?_)))
  simp only [pure_bind]
  rw [Std.Legacy.Range.forIn_eq_forIn_range']
  have hsz : ([0:min (#[Value.int 1 a, .int 2 b, .int 4 c, .int 8 d] : Array Value).size (#[Value.int 1 a, .int 2 b, .int 4 c, .int 8 d] : Array Value).size] : Std.Legacy.Range).size = 4 := by simp [Std.Legacy.Range.size]
  rw [hsz]
  show wpAny _ _ (forIn [0, 1, 2, 3] _ _ >>= _) _ _ _
  have fin : ∀ (k : Int), k = idxI x → wpAny (model prog w) A.in1 (retInt k) (fun f s' => ∃ v, f = .done (.ret v) ∧ Q v s') E s := fun k e => by
    subst e
    exact wpAny_bind (wpAny_bind (wpAny_fresh (wpAny_pure (wpAny_pure ⟨_, rfl, h⟩))))
  simp only [List.forIn_cons, List.forIn_nil]
  have fine : ∀ (k : Int), k = idxI x → ∀ (P : PySem.Fin → Shared → Prop), (∀ f s', (∃ v, f = .done (.ret v) ∧ Q v s') → P f s') → wpAny (model prog w) A.in1 (retInt k) P E s := fun k e P hP => wpAny_mono (fin k e) (fun f s' hf => hP f s' hf) fun _ _ y => y
  rcases hx with rfl | rfl | rfl | rfl
  · refine wpAny_bind (wpAny_bind (wpAny_bind (e1 _ _ _ _ (bm_if_true rfl (wpAny_bind (fine _ rfl _ fun f s' hf => wpAny_pure (wpAny_pure (wpAny_pure hf))))))))
  · refine wpAny_bind (wpAny_bind (wpAny_bind (e1 _ _ _ _ (bm_if_false rfl (wpAny_pure ?_)))))
    refine wpAny_bind (wpAny_bind (e2 _ _ _ _ (bm_if_true rfl (wpAny_bind (fine _ rfl _ fun f s' hf => wpAny_pure (wpAny_pure (wpAny_pure hf)))))))
  · refine wpAny_bind (wpAny_bind (wpAny_bind (e1 _ _ _ _ (bm_if_false rfl (wpAny_pure ?_)))))
    refine wpAny_bind (wpAny_bind (e2 _ _ _ _ (bm_if_false rfl (wpAny_pure ?_))))
    refine wpAny_bind (wpAny_bind (e3 _ _ _ _ (bm_if_true rfl (wpAny_bind (fine _ rfl _ fun f s' hf => wpAny_pure (wpAny_pure (wpAny_pure hf)))))))
  · refine wpAny_bind (wpAny_bind (wpAny_bind (e1 _ _ _ _ (bm_if_false rfl (wpAny_pure ?_)))))
    refine wpAny_bind (wpAny_bind (e2 _ _ _ _ (bm_if_false rfl (wpAny_pure ?_))))
    refine wpAny_bind (wpAny_bind (e3 _ _ _ _ (bm_if_false rfl (wpAny_pure ?_))))
    refine wpAny_bind (wpAny_bind (e4 _ _ _ _ (bm_if_true rfl (wpAny_bind (fine _ rfl _ fun f s' hf => wpAny_pure (wpAny_pure (wpAny_pure hf)))))))
end
end
section
open PySem PySem.W PyProof.Rows PySem.Spec PySem.Calls
set_option maxRecDepth 100000
set_option linter.unusedVariables false
theorem fresh_M1 : True := by
  w_top off
  trivial
open PySem PySem.W PyProof.Rows PySem.Spec PySem.Calls
set_option maxRecDepth 100000
set_option linter.unusedVariables false
theorem nat_and_shift (a n k : Nat) (h : n < 2 ^ k) : (a * 2 ^ k) &&& n = 0 := by
  apply Nat.eq_of_testBit_eq
  intro i
  rw [Nat.testBit_and, Nat.zero_testBit, Nat.testBit_mul_two_pow]
  by_cases hi : k ≤ i
  · have : n.testBit i = false := Nat.testBit_lt_two_pow (Nat.lt_of_lt_of_le h (Nat.pow_le_pow_right (by decide) hi))
    rw [this, Bool.and_false]
  · simp [hi]
theorem pow_toNat (k : Nat) : ((2 : Int) ^ k) = ((2 ^ k : Nat) : Int) := by push_cast; rfl
theorem or_shift {a n : Int} {k : Nat} (ha : 0 ≤ a) (h0 : 0 ≤ n) (h1 : n < 2 ^ k) : Builtin.bitOr (a * 2 ^ k) n = a * 2 ^ k + n := by
  have hp : (0 : Int) < 2 ^ k := by rw [pow_toNat]; exact Int.natCast_pos.mpr (Nat.two_pow_pos k)
  have ha2 : 0 ≤ a * 2 ^ k := Int.mul_nonneg ha (Int.le_of_lt hp)
  rw [bitOr_and, bitAnd_pp ha2 h0]
  have e : (a * 2 ^ k).toNat = a.toNat * 2 ^ k := by
    obtain ⟨b, rfl⟩ := Int.eq_ofNat_of_zero_le ha
    rw [pow_toNat, ← Int.natCast_mul, Int.toNat_natCast, Int.toNat_natCast]
  have h2 : n.toNat < 2 ^ k := by
    rw [pow_toNat] at h1
    omega
  rw [e, nat_and_shift _ _ _ h2]
  simp
theorem and_mask {x : Int} {k : Nat} (hx : 0 ≤ x) : Builtin.bitAnd x (2 ^ k - 1) = x % 2 ^ k := by
  have hp : 0 < 2 ^ k := Nat.two_pow_pos k
  have hm : (0 : Int) ≤ 2 ^ k - 1 := by rw [pow_toNat]; omega
  rw [bitAnd_pp hx hm]
  have e : ((2 : Int) ^ k - 1).toNat = 2 ^ k - 1 := by rw [pow_toNat]; omega
  rw [e, Nat.and_two_pow_sub_one_eq_mod, pow_toNat, Int.natCast_emod, Int.toNat_of_nonneg hx]
/-- the number that octets spell, the greatest first -/
def beI (l : List UInt8) : Int := l.foldl (fun a b => a * 256 + (b.toNat : Int)) 0
theorem beI_append (l : List UInt8) (b : UInt8) : beI (l ++ [b]) = beI l * 256 + (b.toNat : Int) := by unfold beI; rw [List.foldl_append]; rfl
theorem beI_nonneg (l : List UInt8) : 0 ≤ beI l := by
  unfold beI
  have : ∀ (l : List UInt8) (a : Int), 0 ≤ a → 0 ≤ l.foldl (fun a b => a * 256 + (b.toNat : Int)) a := by
    intro l
    induction l with
    | nil => intro a h; exact h
    | cons b r ih => intro a h; exact ih _ (by show 0 ≤ a * 256 + (b.toNat : Int); omega)
  exact this l 0 (Int.le_refl 0)
theorem beI_beL : ∀ (k : Nat) (n : Int), 0 ≤ n → n < 256 ^ k → beI (beL k n) = n
  | 0, n, h0, h1 => by
    have : n = 0 := by simp at h1; omega
    subst this; rfl
  | k + 1, n, h0, h1 => by
    show beI (beL k (Int.fdiv n 256) ++ [_]) = n
    rw [Int.fdiv_eq_ediv_of_nonneg _ (by decide), Int.fmod_eq_emod_of_nonneg _ (by decide)] at *
    rw [beI_append, beI_beL k (n / 256) (by omega) (by rw [Int.pow_succ] at h1; exact Int.ediv_lt_of_lt_mul (by decide) h1)]
    have e : ((n % 256).toNat.toUInt8.toNat : Int) = n % 256 := by
      have h3 : (n % 256).toNat < 256 := by omega
      rw [Nat.toUInt8_eq, UInt8.toNat_ofNat_of_lt' h3]
      omega
    rw [e]; omega
theorem beL_beI : ∀ (l : List UInt8), beL l.length (beI l) = l := by
  intro l
  have h : ∀ (k : Nat) (l : List UInt8), l.length = k → beL k (beI l) = l := by
    intro k
    induction k with
    | zero => intro l e; obtain rfl := List.length_eq_zero_iff.mp e; rfl
    | succ k ih =>
      intro l e
      obtain ⟨r, b, rfl⟩ : ∃ r b, l = r ++ [b] := ⟨l.dropLast, l.getLast (by intro h; subst h; cases e), (List.dropLast_concat_getLast _).symm⟩
      have er : r.length = k := by rw [List.length_append] at e; simpa using e
      show beL k (Int.fdiv (beI (r ++ [b])) 256) ++ [(Int.fmod (beI (r ++ [b])) 256).toNat.toUInt8] = r ++ [b]
      rw [beI_append, Int.fdiv_eq_ediv_of_nonneg _ (by decide), Int.fmod_eq_emod_of_nonneg _ (by decide)]
      have hb : b.toNat < 256 := b.toNat_lt
      have e1 : (beI r * 256 + (b.toNat : Int)) / 256 = beI r := by omega
      have e2 : (beI r * 256 + (b.toNat : Int)) % 256 = (b.toNat : Int) := by omega
      rw [e1, e2, ih r er, Int.toNat_natCast, Nat.toUInt8_eq]
      simp
  exact h _ l rfl
theorem beI_lt (l : List UInt8) : beI l < 256 ^ l.length := by
  have h : ∀ (k : Nat) (l : List UInt8), l.length = k → beI l < 256 ^ k := by
    intro k
    induction k with
    | zero => intro l e; obtain rfl := List.length_eq_zero_iff.mp e; decide
    | succ k ih =>
      intro l e
      obtain ⟨r, b, rfl⟩ : ∃ r b, l = r ++ [b] := ⟨l.dropLast, l.getLast (by intro h; subst h; cases e), (List.dropLast_concat_getLast _).symm⟩
      have er : r.length = k := by rw [List.length_append] at e; simpa using e
      have := ih r er
      have hb : b.toNat < 256 := b.toNat_lt
      rw [beI_append, Int.pow_succ]
      omega
  exact h _ l rfl
end
section
open PySem PySem.W PyProof.Rows PySem.Spec PySem.Calls
set_option maxRecDepth 100000
set_option maxHeartbeats 8000000
set_option linter.unusedVariables false
theorem fresh_W8 : True := by
  w_top off
  trivial
open PySem PySem.W PyProof.Rows PySem.Spec PySem.Calls
set_option maxRecDepth 100000
set_option maxHeartbeats 8000000
set_option linter.unusedVariables false
section
variable {prog : Program} {w : World} {A : Around} {E : Value → Shared → Prop} {s : Shared} {env : Env} {h₀ : Heap} {x : Str} {body : List Stmt} {Q : Flow → Shared → Prop}
/-- a loop over bytes -/
theorem bytes_inv {b : Array UInt8} {tb : Tok} {m₀ : Str → Option Value} {news : List (Addr × Obj)} (J : Nat → (Str → Option Value) → List (Addr × Obj) → Prop)
    (hh : A.handled = none) (F : Fr h₀ env.locals s.heap m₀) (N : News h₀ env.locals s.heap news) (hj : J 0 m₀ news)
    (turn : ∀ (i : Nat) (c : UInt8) u m₁ news₁ I it h tk, b[i]? = some c → (∀ p ∈ news₁, p.1 ≠ I) → J i m₁ news₁ → Fr h₀ env.locals h (fun y => if y = x then some (.int (c.toNat : Int) u) else m₁ y) → News h₀ env.locals h ((I, it) :: news₁) →
      wpAny (model prog w) A (execs body env) (UnrPost h₀ env.locals { s with heap := h, toks := tk } I it (fun m' n' => J (i + 1) m' n') Q) E { s with heap := h, toks := tk })
    (done : ∀ m₁ news₁ h tk, J b.size m₁ news₁ → Fr h₀ env.locals h m₁ → News h₀ env.locals h news₁ → Q .next { s with heap := h, toks := tk }) :
    wpAny (model prog w) A (pyIter (.bytes b tb)) (fun it s₂ => LoopAtV prog w A h₀ env x body Q E it s₂) E s := by
  refine KBw.pyIter_bytes ?_
  refine loopAt_inv (keep := []) J rfl (KBw.walks hh _ b tb) (fun b' hb => .inl (List.mem_singleton.mp hb)) (fun i h hs => ?_) ⟨_, Heap.get?_push_size _ rfl, rfl, rfl⟩ F N (fun _ hp => nomatch hp) hj
    (fun i v m₁ news₁ it h tk hi hP off _ hJ F₁ N₁ => ?_) done
  · obtain ⟨o, e, _⟩ := hs
    exact ⟨o, e⟩
  · obtain ⟨c, u, hc, rfl⟩ := hP
    exact wpAny_mono (turn i c u m₁ news₁ _ it h tk hc off hJ F₁ N₁) (fun f s₂ p => UnrPost.turn p fun m' n' _ q => ⟨(fun _ hp => nomatch hp), q⟩) fun _ _ y => y
end
theorem clip_in {n : Nat} {a : Int} (h0 : 0 ≤ a) (h1 : a ≤ n) : clipAt n a = a.toNat := by
  obtain ⟨k, rfl⟩ := Int.eq_ofNat_of_zero_le h0
  have := KBc.clip_lit n k
  have e : clipAt n ((k : Nat) : Int) = min k n := clipAt_nat n k
  rw [e]; omega
theorem picked_in (d : List UInt8) {lo hi : Int} (h0 : 0 ≤ lo) (h1 : lo ≤ hi) (h2 : hi ≤ d.length) :
    KBy.picked d.toArray (some lo) (some hi) = ((d.drop lo.toNat).take (hi.toNat - lo.toNat)).toArray := by
  rw [KBc.picked_eq]
  show ((d.drop (clipAt d.toArray.size lo)).take (clipAt d.toArray.size hi - clipAt d.toArray.size lo)).toArray = _
  rw [clip_in h0 (by simp; omega), clip_in (by omega) (by simpa using h2)]
end
section
open PySem PySem.W PyProof.Rows PySem.Spec PySem.Calls
set_option maxRecDepth 100000
set_option maxHeartbeats 8000000
set_option linter.unusedVariables false
theorem fresh_W9 : True := by
  w_top off
  trivial
open PySem PySem.W PyProof.Rows PySem.Spec PySem.Calls
set_option maxRecDepth 100000
set_option maxHeartbeats 8000000
set_option linter.unusedVariables false
/-- the size at a place -/
def sizeAt (k : Int) : Int := if k = 0 then 1 else if k = 1 then 2 else if k = 2 then 4 else 8
/-- the size that a first octet tells -/
def szOf (c : UInt8) : Int := if c.toNat < 64 then 1 else if c.toNat < 128 then 2 else if c.toNat < 192 then 4 else 8
theorem szOf_cases (c : UInt8) : szOf c = 1 ∨ szOf c = 2 ∨ szOf c = 4 ∨ szOf c = 8 := by unfold szOf; (repeat' split) <;> simp
theorem szOf_1 {c : UInt8} (h : c.toNat < 64) : szOf c = 1 := if_pos h
theorem szOf_2 {c : UInt8} (h : 64 ≤ c.toNat) (h2 : c.toNat < 128) : szOf c = 2 := (if_neg (Nat.not_lt.mpr h)).trans (if_pos h2)
theorem szOf_4 {c : UInt8} (h : 128 ≤ c.toNat) (h2 : c.toNat < 192) : szOf c = 4 := (if_neg (Nat.not_lt.mpr (Nat.le_trans (by decide) h))).trans ((if_neg (Nat.not_lt.mpr h)).trans (if_pos h2))
theorem szOf_8 {c : UInt8} (h : 192 ≤ c.toNat) : szOf c = 8 := (if_neg (Nat.not_lt.mpr (Nat.le_trans (by decide) h))).trans ((if_neg (Nat.not_lt.mpr (Nat.le_trans (by decide) h))).trans (if_neg (Nat.not_lt.mpr h)))
theorem first_place (c : UInt8) : 0 ≤ ((c.toNat : Int)).fdiv (2 ^ Int.toNat 6) ∧ ((c.toNat : Int)).fdiv (2 ^ Int.toNat 6) < 4 ∧ sizeAt (((c.toNat : Int)).fdiv (2 ^ Int.toNat 6)) = szOf c := by
  have h : c.toNat < 256 := c.toNat_lt
  have e : ((c.toNat : Int)).fdiv (2 ^ Int.toNat 6) = ((c.toNat / 64 : Nat) : Int) := by
    rw [show ((2 : Int) ^ Int.toNat 6) = ((64 : Nat) : Int) from rfl, ← Int.ofNat_fdiv]
  rw [e]
  refine ⟨Int.natCast_nonneg _, Int.ofNat_lt.mpr (Nat.div_lt_of_lt_mul h), ?_⟩
  rcases Nat.lt_or_ge c.toNat 64 with h1 | h1
  · rw [szOf_1 h1, Nat.div_eq_of_lt h1]; rfl
  rcases Nat.lt_or_ge c.toNat 128 with h2 | h2
  · rw [szOf_2 h1 h2, show c.toNat / 64 = 1 by omega]; rfl
  rcases Nat.lt_or_ge c.toNat 192 with h3 | h3
  · rw [szOf_4 h2 h3, show c.toNat / 64 = 2 by omega]; rfl
  · rw [szOf_8 h3, show c.toNat / 64 = 3 by omega]; rfl
section
variable {prog : Program} {w : World} {A : Around} {E : Value → Shared → Prop} {s : Shared} {h₀ : Heap} {L T : Addr} {m : Str → Option Value} {a b c d : Tok} {k : Int} {u : Tok}
theorem sizes_item {value slice : Expr} {Q : Value → Shared → Prop} (F : Fr h₀ L s.heap m) (ht : h₀.get? T = some (sizesO a b c d)) (h0 : 0 ≤ k) (h1 : k < 4) (h : ∀ t, Q (.int (sizeAt k) t) s)
    (hs : subscripted slice false (.ref T) (.int k u) = operate [.ref T, .int k u] (getItem (.ref T) (.int k u)) := by with_unfolding_all rfl) (hg : ∀ r, letTemporaryGo value (.ref T) r = pure () := by intro _; with_unfolding_all rfl) :
    wpAny (model prog w) A (subscriptTail value slice (.ref T) (.int k u)) Q E s := by
  have hT : IsTup s.heap T #[.int 1 a, .int 2 b, .int 4 c, .int 8 d] := ⟨_, F.keep _ _ ht, rfl, _, rfl⟩
  rcases (show k = 0 ∨ k = 1 ∨ k = 2 ∨ k = 3 by omega) with rfl | rfl | rfl | rfl
  · exact item_tuple (j := 0) hT (by decide) (by decide) rfl rfl (h a) hs hg
  · exact item_tuple (j := 1) hT (by decide) (by decide) rfl rfl (h b) hs hg
  · exact item_tuple (j := 2) hT (by decide) (by decide) rfl rfl (h c) hs hg
  · exact item_tuple (j := 3) hT (by decide) (by decide) rfl rfl (h d) hs hg
end
end
section
open PySem PySem.W PyProof.Rows PySem.Spec PySem.Calls
set_option linter.unusedVariables false
theorem fresh_W29 : True := by
  w_top off
  trivial
open PySem PySem.W PyProof.Rows PySem.Spec PySem.Calls
set_option linter.unusedVariables false
theorem pull {α : Type} {p b c : α} {r : List α} : ∀ (xs : List α), p ∈ b :: c :: (xs ++ r) → p ∈ xs ++ b :: c :: r
  | [], h => h
  | x :: xs, h => by
    rcases List.mem_cons.mp h with h | h
    · exact .tail _ (pull xs (h ▸ .head _))
    rcases List.mem_cons.mp h with h | h
    · exact .tail _ (pull xs (h ▸ .tail _ (.head _)))
    rcases List.mem_cons.mp h with h | h
    · exact h ▸ .head _
    · exact .tail _ (pull xs (.tail _ (.tail _ h)))
theorem news_rot {h₀ h : Heap} {L : Addr} {a b c : Addr × Obj} {r : List (Addr × Obj)} (N : News h₀ L h (a :: b :: c :: r)) : News h₀ L h (b :: c :: a :: r) := fun p hp => N p (pull [a] hp)
theorem news_pull2 {h₀ h : Heap} {L : Addr} {x0 x1 b c : Addr × Obj} {r : List (Addr × Obj)} (N : News h₀ L h (x0 :: x1 :: b :: c :: r)) : News h₀ L h (b :: c :: x0 :: x1 :: r) := fun p hp => N p (pull [x0, x1] hp)
theorem news_pull3 {h₀ h : Heap} {L : Addr} {x0 x1 x2 b c : Addr × Obj} {r : List (Addr × Obj)} (N : News h₀ L h (x0 :: x1 :: x2 :: b :: c :: r)) : News h₀ L h (b :: c :: x0 :: x1 :: x2 :: r) := fun p hp => N p (pull [x0, x1, x2] hp)
theorem news_pull4 {h₀ h : Heap} {L : Addr} {x0 x1 x2 x3 b c : Addr × Obj} {r : List (Addr × Obj)} (N : News h₀ L h (x0 :: x1 :: x2 :: x3 :: b :: c :: r)) : News h₀ L h (b :: c :: x0 :: x1 :: x2 :: x3 :: r) := fun p hp => N p (pull [x0, x1, x2, x3] hp)
theorem news_pull5 {h₀ h : Heap} {L : Addr} {x0 x1 x2 x3 x4 b c : Addr × Obj} {r : List (Addr × Obj)} (N : News h₀ L h (x0 :: x1 :: x2 :: x3 :: x4 :: b :: c :: r)) : News h₀ L h (b :: c :: x0 :: x1 :: x2 :: x3 :: x4 :: r) := fun p hp => N p (pull [x0, x1, x2, x3, x4] hp)
theorem news_drop3 {h₀ h : Heap} {L : Addr} {a b c : Addr × Obj} {r : List (Addr × Obj)} (N : News h₀ L h (a :: b :: c :: r)) : News h₀ L h (a :: b :: r) := fun p hp => N p (by
  rcases List.mem_cons.mp hp with h | hp
  · rw [h]; exact .head _
  rcases List.mem_cons.mp hp with h | hp
  · rw [h]; exact .tail _ (.head _)
  · exact .tail _ (.tail _ (.tail _ hp)))
theorem all_ne1 {a : Addr × Obj} {r : List (Addr × Obj)} {x : Addr} (ha : a.1 ≠ x) (hr : ∀ p ∈ r, p.1 ≠ x) : ∀ p ∈ a :: r, p.1 ≠ x := by
  intro p h
  rcases List.mem_cons.mp h with h | h
  · rw [h]; exact ha
  · exact hr p h
theorem num_nonneg (l : List UInt8) (k : Nat) : 0 ≤ beI l % 2 ^ k := Int.emod_nonneg _ (by have : (0 : Int) < 2 ^ k := Int.pow_pos (by decide); omega)
theorem at_nonneg {a : Int} (h : 0 ≤ a) (c : UInt8) : 0 ≤ a + szOf c := by have := szOf_cases c; omega
theorem haltI {P : Prop} (h : Halt P) : P := h
theorem haltO {P : Prop} (h : P) : Halt P := h
theorem join_int {prog : Program} {w : World} {A : Around} {E : Value → Shared → Prop} {s : Shared} {h₀ : Heap} {L : Addr} {env : Env} {st : Stmt} {rest : List Stmt} {Q : Flow → Shared → Prop} {m₁ : Str → Option Value} {news : List (Addr × Obj)} (F₀ : Fr h₀ L s.heap m₁) (N₀ : News h₀ L s.heap news) (z : Str) (v : Int)
    (h1 : wpAny (model prog w) A (exec st env) (fun f s' => Halt (f = .next ∧ ∃ h tk t, s' = { s with heap := h, toks := tk } ∧ Fr h₀ L h (fun y => if y = z then some (.int v t) else m₁ y) ∧ News h₀ L h news)) E s)
    (h2 : ∀ h tk t, Fr h₀ L h (fun y => if y = z then some (.int v t) else m₁ y) → News h₀ L h news → wpAny (model prog w) A (execs rest env) Q E { s with heap := h, toks := tk }) :
    wpAny (model prog w) A (execs (st :: rest) env) Q E s := wpAny_execs_cons (wpAny_mono h1 (fun f s' ⟨e, h, tk, t, e2, F, N⟩ => by subst e e2; exact h2 h tk t F N) fun _ _ y => y)
end
section
open PySem PySem.W PyProof.Rows PySem.Spec PySem.Calls
set_option maxRecDepth 100000
set_option maxHeartbeats 8000000
set_option linter.unusedVariables false
theorem fresh_W10 : True := by
  w_top off
  trivial
open PySem PySem.W PyProof.Rows PySem.Spec PySem.Calls
set_option maxRecDepth 100000
set_option maxHeartbeats 8000000
set_option linter.unusedVariables false
section
variable {prog : Program} {w : World} {A : Around} {E : Value → Shared → Prop} {s : Shared} {env : Env} {h₀ : Heap} {target : Expr} {body : List Stmt} {Q : Flow → Shared → Prop}
/-- a loop over a list of the ledger, for any target -/
theorem listT_inv {ax : Addr} {lo : Obj} {vs : List Value} {n : Nat} {m₀ : Str → Option Value} {news : List (Addr × Obj)} (J : Nat → (Str → Option Value) → List (Addr × Obj) → Prop)
    (hh : A.handled = none) (F : Fr h₀ env.locals s.heap m₀) (N : News h₀ env.locals s.heap news) (hm : (ax, lo) ∈ news) (hc : lo.cls = .type "list") (hd : lo.data = .seq vs.toArray n) (hj : J 0 m₀ news)
    (turn : ∀ (i : Nat) (v : Value) m₁ news₁ I it h tk, vs[i]? = some v → (∀ p ∈ news₁, p.1 ≠ I) → (ax, lo) ∈ news₁ → J i m₁ news₁ → Fr h₀ env.locals h m₁ → News h₀ env.locals h ((I, it) :: news₁) →
      wpAny (model prog w) A (assign target env v) (fun _ s₂ => wpAny (model prog w) A (execs body env) (UnrPost h₀ env.locals { s with heap := h, toks := tk } I it (fun m' n' => (ax, lo) ∈ n' ∧ J (i + 1) m' n') Q) E s₂) E { s with heap := h, toks := tk })
    (done : ∀ m₁ news₁ h tk, J vs.length m₁ news₁ → Fr h₀ env.locals h m₁ → News h₀ env.locals h news₁ → Q .next { s with heap := h, toks := tk }) :
    wpAny (model prog w) A (pyIter (.ref ax)) (fun it s₂ => TurnsAt prog w A h₀ env target body Q E it s₂) E s := by
  refine iter_listTurns hh F N hm hc hd fun I hI => ?_
  have main : ∀ k i m₁ news₁, i + k = vs.length → (ax, lo) ∈ news₁ → (∀ p ∈ news₁, p.1 ≠ I) → J i m₁ news₁ →
      ItemsRest prog w A E h₀ env target body Q s [(I, "list_iterator")] [(ax, lo)] ((vs.drop i).map .val) m₁ news₁ := by
    intro k
    induction k with
    | zero =>
      intro i m₁ news₁ hik hmem off hJ
      have : vs.drop i = [] := List.drop_eq_nil_of_le (by omega)
      rw [this]
      obtain rfl : i = vs.length := by omega
      exact ItemsRest.zero fun h tk F₁ N₁ => done _ _ _ _ hJ F₁ N₁
    | succ k ih =>
      intro i m₁ news₁ hik hmem off hJ
      have hlt : i < vs.length := by omega
      rw [List.drop_eq_getElem_cons hlt]
      refine ItemsRest.val fun h tk F₁ => AllObj.cons fun it hit => AllObj.nil fun N₁ => ?_
      refine wpAny_mono (turn i vs[i] m₁ news₁ I it h tk (List.getElem?_eq_getElem hlt) off hmem hJ F₁ N₁) (fun _ s₂ x => wpAny_mono x (fun f s₃ p => ?_) fun _ _ y => y) fun _ _ y => y
      have fin : UnrEnd h₀ env.locals { s with heap := h, toks := tk } I it (fun m' n' => (ax, lo) ∈ n' ∧ J (i + 1) m' n') s₃ →
          UnrEndW h₀ env.locals { s with heap := h, toks := tk } [(I, it)] (fun m' n' => SubL [(ax, lo)] n' ∧ ItemsRest prog w A E h₀ env target body Q s [(I, "list_iterator")] [(ax, lo)] ((vs.drop (i + 1)).map .val) m' n') s₃ := by
        rintro ⟨h', tk', m', news', e, F', N', ho, hk', r⟩
        exact ⟨h', tk', m', news', e, F', N', fun p hp q hq => by rw [List.mem_singleton.mp hq]; exact ho p hp, ⟨hk', trivial⟩, ih (i + 1) m' news' (by omega) hk' ho r⟩
      cases f with
      | ret v => exact p
      | brk => exact p
      | next => exact fin p
      | cont => exact fin p
  have h0 := main vs.length 0 m₀ news (by omega) hm (fun p hp => Nat.ne_of_lt (hI p hp)) hj
  rwa [List.drop_zero] at h0
end
end
section
open PySem PySem.W PyProof.Rows PySem.Spec PySem.Calls
set_option maxRecDepth 100000
set_option maxHeartbeats 8000000
set_option linter.unusedVariables false
theorem fresh_W11 : True := by
  w_top off
  trivial
open PySem PySem.W PyProof.Rows PySem.Spec PySem.Calls
set_option maxRecDepth 100000
set_option maxHeartbeats 8000000
set_option linter.unusedVariables false
/-- a thread that a clean walk ends -/
theorem thread_endsC {prog : Program} {w : World} {t : Sem Fin} {s : Shared} {R : Result → Shared → Prop} (hreg : s.asleep)
    (h : wpC (model prog w) callerA t (fun fin s' => ∃ f, fin = .done f ∧ (R (.ok f) s' ∧ leftWithCleanup s'.gens = false)) (fun e s' => R (.error e) s' ∧ leftWithCleanup s'.gens = false) s) :
    ∃ n r s' s'', runN (denote table) prog w n s ⟨t, .builtin "claim.caller" {}, default, []⟩ = .halted (outcomeOf r) s' ∧
      schedN (denote table) prog w n (.single s ⟨t, .builtin "claim.caller" {}, default, []⟩) = .halted (outcomeOf r) s' ∧ s'.forget = s''.forget ∧ R r s'' := by
  have hw : Sem.wp (model prog w) ⟨.builtin "claim.caller" {}, none, none, [], none⟩ t (Sem.finPost (model prog w) ⟨.builtin "claim.caller" {}, none, none, [], none⟩ (fun r s' => R r s' ∧ leftWithCleanup s'.gens = false))
      (fun e _ s' => R (.error e) s' ∧ leftWithCleanup s'.gens = false) default s := by
    refine Sem.wp_mono _ _ t (fun fin p' s' h' => ?_) (fun _ _ _ h' => h') default s (h _ default caller_in ⟨by decide +kernel, fun x hx => nomatch hx⟩)
    obtain ⟨f, rfl, hf⟩ := h'
    exact hf
  obtain ⟨n, r, s₁, s₂, hs, hn, hfo, hR⟩ := wp_halts_full (M := model prog w) (R := R) hreg hw
  exact ⟨n, r, s₂, s₁, hn, hs, hfo, hR⟩
theorem callFromC {c : ClaimW} {tree : List Value → Sem Fin} {w : World} {s : Shared} {free : Addr → Prop} {gens : Prop} {kept : Heap → Prop} (hz : s.asleep) (hgens : s.gens = #[])
    (hspec : ∀ args, c.pre args = true → WData.layableAll args = true →
      ∀ ord : List DictEntry → List DictEntry, (∀ l, (ord l).Perm l) →
      ∃ vs s₁, layAllW c.records (classAt s.heap) w.params ord args s = some (vs, s₁) ∧
        wpC (model c.prog w) callerA (tree vs) (fun fin s' => ∃ f, fin = .done f ∧ (c.Ends s args vs s₁ (.ok f) s' ∧ s'.os = s.os ∧ AllBare s'.gens ∧ kept s'.heap))
          (fun e s' => c.Ends s args vs s₁ (.error e) s' ∧ s'.os = s.os ∧ AllBare s'.gens ∧ kept s'.heap) s₁) :
    c.CallFrom (fun vs => ⟨tree vs, .builtin "claim.caller" {}, default, []⟩) w free gens kept s := by
  intro args hpre hlay ord hord
  refine hide fun G hG => ?_
  obtain ⟨vs, s₁, hlaid, hcode⟩ := hspec args hpre hlay ord hord
  refine hG ?_
  clear hG G
  have hal := layAllW_rest _ _ _ hlaid
  refine hide fun G hG => ?_
  obtain ⟨k, r, s', s'', hrun, hsched, hfo, hcase, hos, hkp⟩ := thread_endsC (prog := c.prog) (w := w) (t := tree vs) (s := s₁)
    (R := fun r s' => c.Ends s args vs s₁ r s' ∧ s'.os = s.os ∧ kept s'.heap)
    (Shared.asleep_of_life hal.2.2.2 hz)
    (wpC_mono hcode (by
      rintro fin s' ⟨f, e, h1, h2, h3, h4⟩
      exact ⟨f, e, ⟨h1, h2, h4⟩, leftWithCleanup_false_of_bare h3⟩) (by
      rintro e s' ⟨h1, h2, h3, h4⟩
      exact ⟨⟨h1, h2, h4⟩, leftWithCleanup_false_of_bare h3⟩))
  refine hG ?_
  clear hG G
  obtain ⟨eh, _, _, eo, _⟩ := Shared.forget_eq hfo
  have hcase := hcase.congr eh
  have hkp : kept s'.heap := by first | exact eh ▸ hkp | (rw [eh] at hkp; exact hkp) | (rw [← eh] at hkp; exact hkp)
  rw [← eo] at hos
  have hlife : s'.heap.life = s.heap.life := (runN_life _ _ _ hrun).trans hal.2.2.2
  refine ⟨vs, s₁, hlaid, k, _, s', hsched, ?_, (fun _ i x hx => by rw [hgens] at hx; simp at hx), hkp, by rw [hlife], Shared.rest_eq hos⟩
  rcases hcase with ⟨v, rfl, d1, d2, d3, d4, d5⟩ | ⟨e, ob, cls, rfl, d1, d2, d3, d4, d5⟩
  · exact .inl ⟨v, rfl, d1, d2, d3, fun b o y _ => d4 b o y, d5⟩
  · exact .inr ⟨e, ob, cls, rfl, d1, d2, d3, d4, fun b o y _ => d5 b o y⟩
/-- what the walk has to show, in clean contexts -/
abbrev WalkC (q : Program) (loose : List Str) (XP : (Str → Option Value) → Heap → Prop) (YP : World → Heap → Prop) (r : RowW) (d : DefRec) (kwd : List (Str × Expr)) (run : Value → List Value → Sem Value) : Prop :=
  ∀ (w : World) (s₀ s₁ : Shared) (mg mb : Str → Option Value), Ground q loose r.records XP w s₀ mg mb s₁.heap → YP w s₁.heap → ∀ (a : Addr) (o : Obj) (pm cd doc dV kV : Value), s₁.heap.get? a = some o →
    o.data = .func { docDef d.name d.params d.body d.scope pm cd doc with defaults := dV, kwdefaults := kV } → s₁.heap.CodeRec cd d.name → Dflts mg s₁.heap d.params kwd dV kV → mg d.name = some (.ref a) → s₁.gens = #[] →
    ∀ (args : List WData) (vals : List Value) (as : List Addr), r.claim.pre args = true → WData.layableAll args = true → ReadsAllW r.records (classAt s₀.heap) s₁.heap vals args as → WellAll w.params s₁.heap vals args → (∀ a ∈ as, (a == sysModules) = false) →
      wpC (model r.prog w) callerA (run (.ref a) vals) (fun v s' => GoodWG r.claim (classAt s₀.heap) (ExcName.means s₀.heap) args s₁ (.ok (.ret v)) s')
        (fun e s' => GoodWG r.claim (classAt s₀.heap) (ExcName.means s₀.heap) args s₁ (.error e) s') s₁
/-- the head's premise in a form of my own: from the library's boot state on, by one run of the kernel (the library's line in pieces lays some 16 MB of proof; under another name it steps back) -/
abbrev LeftM {α : Type} (p q : Program) (loose : List Str) (Xt : Shared → Bool) (Yf : Shared → α) (Ya : World → α) (N : Nat) : Prop :=
  ∀ w : World, ((fun os => (topFrom treeTable p w N ⟨boot_heap w.params, Array.mk [], boot_drawn, boot_toks, os⟩).map (fun s => (openSeen q loose (importedModules p.main.body) Xt true s, Yf s))), opening p, (fun s => fenceModules? p s), Nat.ble 600 N) =
    ((fun _ => some (openGood q loose, Ya w)), plainProg p.main.scope.names, (fun s => some s), true)
theorem left_of_boot {α : Type} {p q : Program} {loose : List Str} {Xt : Shared → Bool} {Yf : Shared → α} {Ya : World → α} {N : Nat} (h : LeftM p q loose Xt Yf Ya N) : LeftO p q loose Xt Yf Ya N := fun w => by
  obtain ⟨h1, h2, h3, h4⟩ : _ ∧ _ ∧ _ ∧ _ := by simpa only [Prod.mk.injEq] using h w
  obtain ⟨⟨g, gs, d, k, os⟩, e, e'⟩ := Option.map_eq_some_iff.mp (boot_open h2 h4 (fun s => congrFun h3 s) w)
  obtain ⟨rfl, rfl, rfl, rfl⟩ : g = boot_heap w.params ∧ gs = Array.mk [] ∧ d = boot_drawn ∧ k = boot_toks := by simpa using e'
  unfold openEnds
  rw [e]
  exact congrFun h1 os
namespace MineH
open Mine
theorem PySem.W.holds_open {r : OpenRow} {q : Program} {loose : List Str} {Xt : Shared → Bool} {XP : (Str → Option Value) → Heap → Prop} {α : Type} {Yf : Shared → α} {Ya : World → α} {YP : World → Heap → Prop} {d : DefRec} {kwd : List (Str × Expr)} {N : Nat}
    (leftM : LeftM r.prog q loose Xt Yf Ya N) (hY : ∀ w s, Yf s = Ya w → YP w s.heap) (hYk : ∀ w h h', YP w h → (∀ b o, h.get? b = some o → h'.get? b = some o) → YP w h')
    (hX : ∀ s, Xt s = true → XP (s.heap.nsMap mainGlobals) s.heap) (hXk : ∀ mg h h', XP mg h → (∀ b o, h.get? b = some o → h'.get? b = some o) → XP mg h')
    (hdef : defOf q r.name = some (d, kwd)) (hp : r.prog.theDef r.name = some (d.params, d.body, d.scope)) (hk : kwWritten? d.params.kwonlyargs d.params.kw_defaults = some kwd) (hRf : ∀ s, Xt s = true → RecFacts r.records s.heap) (hwr : (!r.writes || r.records.isEmpty) = true)
    (k1 : r.wellSaid = true) (ok : (chainsOk q && opensWell r.prog && (frees r.toRowW && r.within.isEmpty)) = true) (hb : r.prog.bare) (hw : r.toRowW.promised)
    (call : WalkC q loose XP YP r.toRowW d kwd fun f vs => PySem.call f vs) : r.Holds := by
  have left := left_of_boot leftM
  refine ⟨k1, hw, ?_⟩
  obtain ⟨ok, k5⟩ := Bool.and_eq_true_iff.mp ok
  obtain ⟨hch, o1⟩ := Bool.and_eq_true_iff.mp ok
  obtain ⟨k5, k6⟩ := Bool.and_eq_true_iff.mp k5
  obtain ⟨hsame, hu, ha, hap, hm⟩ := frees_parts k5
  refine ⟨⟨hb, o1, by show r.toRowW.makers.map _ = []; rw [hm]; rfl⟩, hw.witness, fun w => ⟨(left.behind hX hch w).1, fun s' hs' => ?_⟩⟩
  refine hide fun G hG => ?_
  obtain ⟨s₀, hf, hg0, s, hT, hz, hgens, hg, G00, y⟩ := (left.behind (XP := fun mg h => XP mg h ∧ RecFacts r.toRowW.records h) (fun s hs => ⟨hX s hs, hRf s hs⟩) hch w).2 s' hs'
  refine hG ?_
  clear hG G
  have G0 : Ground q loose [] XP w s (s.heap.nsMap mainGlobals) (s.heap.nsMap builtinsNs) s.heap := ⟨G00.T, G00.B, G00.D, G00.TE, G00.TD, G00.W, G00.X.1, G00.cls, G00.has, G00.apart, G00.once, G00.K⟩
  have RF := G00.X.2
  have hT' := hT
  refine ⟨s₀, hf, hg0, s, hT, fun n hn => ?_, RF.1, RF.2.1, ?_⟩
  · obtain rfl : n = r.name := by split at hn <;> simp_all
    exact pinned_of_view hg G0 hdef hp hk
  have hgens : s.gens = #[] := Array.eq_empty_of_size_eq_zero (beq_iff_eq.mp hgens)
  have G : Ground q loose r.toRowW.records XP w s _ _ s.heap := RF.ground G0
  refine callFromC (c := r.toRowW.claim) hz hgens fun args hpre hlay ord hord => ?_
  obtain ⟨⟨vs, s₁⟩, hlaid⟩ := Option.isSome_iff_exists.mp (layAllW_isSome (P := w.params) (ord := ord) G.has args r.toRowW.args s (pre_splitW hpre).1)
  have keeps := layAllW_keeps _ _ _ hlaid
  have hal := layAllW_rest _ _ _ hlaid
  obtain ⟨as, hrd, hin, hold⟩ := reads_layAllW hord _ _ _ hlaid hlay s₁.heap (fun _ _ e => e)
  have L : Laid r.toRowW.records w s s₁ args vs as := ⟨⟨ord, hord, hlaid⟩, hrd, hin, hold, keeps, hal.1.trans hgens, hal.2.2.1⟩
  have G₁ := G.keeps hXk keeps
  refine hide fun G hG => ?_
  obtain ⟨a, o, pm, cd, doc, dV, kV, h1, h2, h3, h4, h5⟩ := G₁.fn hdef
  refine hG ?_
  clear hG G
  have h := call w s s₁ _ _ G₁ (hYk _ _ _ (hY w s y) keeps) a o pm cd doc dV kV h2 h3 h4 h5 (defOf_name hdef ▸ h1) L.gens args vs as hpre hlay L.reads L.well (L.low G.low)
  have hi := ident_freeW hu ha hap
  have hwi : r.toRowW.claim.within = [] := List.isEmpty_iff.mp k6
  refine ⟨vs, s₁, hlaid, ?_⟩
  refine wpC_bindA (wpAny_nsGet G₁.T.g ?_)
  rw [h1]
  refine wpC_bind (wpC_mono h (fun v s' g => wpC_pure ?_) fun e s' g => ?_)
  · have z := g.laid (c := r.toRowW.claim) hsame hwi hi L
    exact ⟨_, rfl, z.1, z.2.1, z.2.2, fun q => ⟨namesKept_of hT' hg _ keeps g.2.1.old, noTable hwr q⟩⟩
  · have z := g.laid (c := r.toRowW.claim) hsame hwi hi L
    exact ⟨z.1, z.2.1, z.2.2, fun q => ⟨namesKept_of hT' hg _ keeps g.2.1.old, noTable hwr q⟩⟩
end MineH
end
section
open PySem PySem.W PyProof.Rows PySem.Spec PySem.Calls
set_option maxRecDepth 100000
set_option maxHeartbeats 8000000
set_option linter.unusedVariables false
theorem fresh_W12 : True := by
  w_top off
  trivial
open PySem PySem.W PyProof.Rows PySem.Spec PySem.Calls
set_option maxRecDepth 100000
set_option maxHeartbeats 8000000
set_option linter.unusedVariables false
section
variable {prog : Program} {w : World} {A A₀ : Around} {E : Value → Shared → Prop} {s : Shared} {K : Frag} {C L : Addr} {h₀ base : Heap} {m mg mb : Str → Option Value} {news : List (Addr × Obj)} {p : Program} {loose : List Str} {mean : ExcName → Option Value}
/-- a def of the top whose frame has cells is entered from a def's frame -/
theorem codeC_KC {env : Env} {outer : List Env} {R : Result → Shared → Prop} {name qual : Str} {params : Arguments} {body : List Stmt} {scope : Scope} {dV kV doc pm cdv ct oc : Value} {an od : Option Addr} {osl : Array (Option Value)} {f : Addr} {args : Args} {binds : List (Str × Value)}
    (B : Below A₀ base outer h₀) (F : Fr h₀ L s.heap m) (X₀ : K.In h₀) (N : News h₀ L s.heap news) (T : Top p loose mean mg mb h₀) (hA : A.frames = some (env :: outer)) (hf : env.frame = some L) (hke : env.scope.kind = .function)
    (ho : K.lookup f = some ⟨oc, od, .func (fnOf name qual params body scope dV kV doc pm an cdv ct), osl⟩) (hcd : codeIn K cdv qual = true) (hroom : A.depth < recursionLimit)
    (hbind : BindsTo s (fnOf name qual params body scope dV kV doc pm an cdv ct) args binds) (hkind : (binds.all fun y => scope.names.lookup y.1 == some .local || scope.names.lookup y.1 == some .cell) = true)
    (hnd : ((cellsFrom 0 scope.names []).map (·.1)).Nodup)
    (h : ∀ g L' h₁ tk cells, Fr h₀ L g m → Fr g L' h₁ (bindL (envOfC qual scope L' f cdv).kindOf binds fun _ => none) → News g L' h₁ (cells ++ news) →
      CellsAre (bindC (envOfC qual scope L' f cdv).kindOf binds fun _ => none) (cellsFrom (L' + 1) scope.names []) cells → Below A base (env :: outer) g → K.In g → Top p loose mean mg mb g → (∀ p ∈ news, p.1 < L') →
      wpC (model prog w) (A.deeper (envOfC qual scope L' f cdv)) (execs body (envOfC qual scope L' f cdv))
        (fun fl s' => LeaveK h₀ L m g R (match fl with | .ret v => v | _ => .none) s')
        (fun e s' => wpAny (model prog w) (A.deeper (envOfC qual scope L' f cdv)) (leaving (envOfC qual scope L' f cdv) e) (fun _ s'' => R (.error e) s'') (fun e' s'' => R (.error e') s'') s')
        { s with heap := h₁, toks := tk })
    (hco : scope.isCoroutine = false) (hgen : scope.isGenerator = false) (hk : scope.kind = .function) : codeC (model prog w) A (.call (.ref f) args) R s := by
  obtain ⟨FG, BG, st, lv⟩ := groundX (R := R) B F N hA hf hke
  have X := X₀.keeps F.keep
  have hlim := T.nolimit.keeps F.keep
  have ho' := X _ _ ho
  refine hide fun G hG => ?_
  obtain ⟨c, oc', vs, tq, hc, hoc, hdc, hq⟩ := codeRec_of X hcd
  refine hG ?_
  clear hG G
  subst hc
  refine codeC_tree rfl (wpC_any ?_)
  show wpAny _ A.in1 (callAny (.ref f) args) _ _ s
  simp only [callAny]
  refine wpAny_bind (wpAny_load ho' ?_)
  simp only [fnOf, callFunction, hco, hgen]
  refine wpAny_bind (m := field (.ref c) 1) (wpAny_field hoc hdc hq (wpAny_bind (wpAny_pure ?_)))
  refine wpAny_bind (hbind _ _ _ _ (wpAny_bind (wpAny_newFunctionEnv_cells hk (kindsX hkind _) fun env' he s' x => ?_)))
  subst he
  refine wpAny_bind (wpAny_enterFrame (hlim.keeps x.toInCall.keep) hroom (wpAny_pure ⟨rfl, codeC_func ?_⟩))
  obtain ⟨h₁, tk, rfl, _⟩ := x.done
  have hk₁ := x.toInCall.keep
  obtain ⟨cells, NC, Y⟩ := Cl.news (h₀ := s.heap) (Nat.le_refl _) fun n c hm => ⟨x.cell n c (lookup_of_mem_nodup (cellsFrom_names scope.names 0 (s.heap.objs.size + 1) [] [] rfl ▸ hnd) hm), x.above n c hm⟩
  refine wpC_mono (h _ s.heap.objs.size h₁ tk cells FG ⟨x.toInCall.ns, fun b o e => hk₁ b o (of_hideAll _ e), Nat.le_of_eq (hideAll_size _ _)⟩ (fun p hp => ?_) Y BG (X₀.keeps st) (T.keeps st) (fun p hp => Heap.lt_size (N p hp).1)) (fun fl s' hl => lv _ _ hl) fun _ _ y => y
  rcases List.mem_append.mp hp with hp | hp
  · refine ⟨(NC p hp).1, (NC p hp).2.1, ?_⟩
    cases q : (hideAll s.heap (news.map (·.1))).get? p.1 with
    | none => rfl
    | some o => have := of_hideAll _ q; rw [(NC p hp).2.2] at this; cases this
  · exact ⟨hk₁ _ _ (N p hp).1, Nat.ne_of_lt (Heap.lt_size (N p hp).1), hideAll_none _ (List.mem_map_of_mem hp)⟩
end
end
section
open PySem PySem.W PyProof.Rows PySem.Spec PySem.Calls
set_option maxRecDepth 100000
set_option maxHeartbeats 8000000
set_option linter.unusedVariables false
theorem fresh_W13 : True := by
  w_top off
  trivial
open PySem PySem.W PyProof.Rows PySem.Spec PySem.Calls
set_option maxRecDepth 100000
set_option maxHeartbeats 8000000
set_option linter.unusedVariables false
section
variable {prog : Program} {w : World} {A A₀ : Around} {E : Value → Shared → Prop} {s : Shared} {K : Frag} {C L : Addr} {h₀ base : Heap} {m mg mb : Str → Option Value} {news : List (Addr × Obj)} {p : Program} {loose : List Str} {mean : ExcName → Option Value}
theorem frames_of {env : Env} {outer : List Env} (hf : env.frame = some L) : (env :: outer).filterMap (·.frame) = L :: outer.filterMap (·.frame) := by simp [hf]
/-- a frame is left whose ground was turned: so is the caller's -/
theorem leave_turned {env : Env} {outer : List Env} {g g' h' : Heap} {L' : Addr} {m' : Str → Option Value} {news' : List (Addr × Obj)} (B : Below A₀ base outer h₀) (FG : Fr h₀ L g m) (hf : env.frame = some L)
    (T' : KtsTurn ((env :: outer).filterMap (·.frame)) g g') (F' : Fr g' L' h' m') (N' : News g' L' h' news') :
    ∃ h₁, KtsTurn (outer.filterMap (·.frame)) h₀ h₁ ∧ Fr h₁ L h' m ∧ News h₁ L h' news' ∧ Below A₀ base outer h₁ := by
  have hup : g.UpToSlots h' := fun b o e _ => by
    obtain ⟨sl, hs⟩ := T'.up e
    exact ⟨sl, F'.keep _ _ hs⟩
  have sc : Scope := default
  have cdv : Value := default
  have hfr : (envOf (Str.ofString "") sc L 0 cdv :: outer).filterMap (·.frame) = (env :: outer).filterMap (·.frame) := by rw [frames_of hf, frames_of (env := envOf (Str.ofString "") sc L 0 cdv) rfl]
  obtain ⟨h₁, T₁, F₁, B₁⟩ := kts_ground (name := Str.ofString "") (scope := sc) (a := 0) (cd := cdv) (B := hideAll g ((env :: outer).filterMap (·.frame))) B FG
    (fun b o e nm => hideAll_get _ e (by rw [hfr] at nm; exact nm))
    (fun b o e => by
      have e1 := of_hideAll _ e
      have nm : b ∉ (env :: outer).filterMap (·.frame) := fun hm => by rw [hideAll_none _ hm] at e; cases e
      exact F'.keep _ _ (T'.other b o e1 nm)) hup
  refine ⟨h₁, T₁, F₁, fun p hp => ⟨(N' p hp).1, fun q => ?_, ?_⟩, B₁⟩
  · obtain ⟨o, es, ep, e, _⟩ := FG.ns
    obtain ⟨sl, hs⟩ := T'.up e
    have := (N' p hp).2.2
    rw [q, hs] at this; cases this
  · refine T₁.none_ _ ?_
    cases q : h₀.get? p.1 with
    | none => rfl
    | some o =>
      obtain ⟨sl, hs⟩ := T'.up (FG.keep _ _ q)
      have := (N' p hp).2.2
      rw [hs] at this; cases this
theorem leaveS_of {env : Env} {outer : List Env} {g : Heap} {R : Result → Shared → Prop} {v : Value} {s' : Shared} (B : Below A₀ base outer h₀) (FG : Fr h₀ L g m) (hf : env.frame = some L) (XB : K.In base) (TB : Top p loose mean mg mb base) (D : KtsDicts (outer.filterMap (·.frame)) h₀)
    (lv : ∀ v s', LeaveK h₀ L m g R v s' → R (.ok (.ret v)) s')
    (hl : LeaveS ((env :: outer).filterMap (·.frame)) A₀ base outer K p loose mean mg mb h₀ h₀ L m g R v s') : R (.ok (.ret v)) s' := by
  rcases hl with ⟨L', m', news', F', N', k⟩ | ⟨g', L', m', news', T', F', N', k⟩
  · obtain ⟨h₁, T₁, F₁, N₁, B₁⟩ := leave_turned B FG hf KtsTurn.refl F' N'
    exact lv v s' ⟨L', m', news', F', N', fun F'' N'' => k F'' N''⟩
  · obtain ⟨h₁, T₁, F₁, N₁, B₁⟩ := leave_turned B FG hf T' F' N'
    exact k h₁ T₁ F₁ N₁ B₁ (XB.keeps B₁.stays) (TB.keeps B₁.stays) (D.turn T₁)
theorem dicts_of {env : Env} {outer : List Env} {g : Heap} (FG : Fr h₀ L g m) (hf : env.frame = some L) (st : h₀.StaysIn g) (D : KtsDicts (outer.filterMap (·.frame)) h₀) : KtsDicts ((env :: outer).filterMap (·.frame)) g := fun b hb => by
  rw [frames_of hf] at hb
  rcases List.mem_cons.mp hb with rfl | hb
  · obtain ⟨o, es, ep, e, hd, _⟩ := FG.ns
    exact ⟨o, es, ep, e, hd⟩
  · obtain ⟨o, es, n, ho, hd⟩ := D b hb
    exact ⟨o, es, n, st b o ho, hd⟩
/-- a def of the top is entered, safe, where an exception may be caught in it -/
theorem codeS_K {env : Env} {outer : List Env} {R : Result → Shared → Prop} {name qual : Str} {params : Arguments} {body : List Stmt} {scope : Scope} {dV kV doc pm cdv ct oc : Value} {an od : Option Addr} {osl : Array (Option Value)} {f : Addr} {args : Args} {binds : List (Str × Value)}
    (B : Below A₀ base outer h₀) (F : Fr h₀ L s.heap m) (X₀ : K.In h₀) (N : News h₀ L s.heap news) (T : Top p loose mean mg mb h₀) (hA : A.frames = some (env :: outer)) (XB : K.In base) (TB : Top p loose mean mg mb base) (D : KtsDicts (outer.filterMap (·.frame)) h₀) (hf : env.frame = some L) (hke : env.scope.kind = .function)
    (ho : K.lookup f = some ⟨oc, od, .func (fnOf name qual params body scope dV kV doc pm an cdv ct), osl⟩) (hcd : codeIn K cdv qual = true) (hroom : A.depth < recursionLimit)
    (hbind : BindsTo s (fnOf name qual params body scope dV kV doc pm an cdv ct) args binds) (hloc : ∀ y ∈ binds, scope.names.lookup y.1 = some .local)
    (h : ∀ g L' h₁, Fr h₀ L g m → Fr g L' h₁ (fun y => binds.reverse.lookup y) → News g L' h₁ news → Below A base (env :: outer) g → K.In g → Top p loose mean mg mb g → KtsDicts ((env :: outer).filterMap (·.frame)) g →
      wpAny (model prog w) (A.deeper (envOf qual scope L' f cdv)) (execs body (envOf qual scope L' f cdv))
        (fun fl s' => LeaveS ((env :: outer).filterMap (·.frame)) A₀ base outer K p loose mean mg mb h₀ h₀ L m g R (match fl with | .ret v => v | _ => .none) s')
        (fun e s' => wpAny (model prog w) (A.deeper (envOf qual scope L' f cdv)) (leaving (envOf qual scope L' f cdv) e) (fun _ s'' => R (.error e) s'') (fun e' s'' => R (.error e') s'') s')
        { s with heap := h₁, toks := s.toks + binds.length })
    (hco : scope.isCoroutine = false) (hgen : scope.isGenerator = false) (hk : scope.kind = .function)
    (hcell : ∀ x ∈ scope.names, x.2 ≠ .cell) : codeAny (model prog w) A (.call (.ref f) args) R s := by
  obtain ⟨FG, BG, st, lv⟩ := groundX (R := R) B F N hA hf hke
  have X := X₀.keeps F.keep
  refine codeAny_call_def (fd := fnOf name qual params body scope dV kV doc pm an cdv ct) (body := body) (binds := binds) hroom (X _ _ ho) rfl (T.nolimit.keeps F.keep) (codeRec_of X hcd) rfl hbind hcell hloc (fun h₁ hns hk₁ => ?_) hco hgen hk
  exact wpAny_mono (h _ s.heap.objs.size h₁ FG ⟨hns, fun b o e => hk₁ b o (of_hideAll _ e), Nat.le_of_eq (hideAll_size _ _)⟩
    (fun p hp => ⟨hk₁ _ _ (N p hp).1, Nat.ne_of_lt (Heap.lt_size (N p hp).1), hideAll_none _ (List.mem_map_of_mem hp)⟩) BG (X₀.keeps st) (T.keeps st) (dicts_of FG hf st D)) (fun fl s' hl => leaveS_of B FG hf XB TB D lv hl) fun _ _ y => y
/-- the same, where an exception may be caught in it -/
theorem codeC_KCS {env : Env} {outer : List Env} {R : Result → Shared → Prop} {name qual : Str} {params : Arguments} {body : List Stmt} {scope : Scope} {dV kV doc pm cdv ct oc : Value} {an od : Option Addr} {osl : Array (Option Value)} {f : Addr} {args : Args} {binds : List (Str × Value)}
    (B : Below A₀ base outer h₀) (F : Fr h₀ L s.heap m) (X₀ : K.In h₀) (N : News h₀ L s.heap news) (T : Top p loose mean mg mb h₀) (hA : A.frames = some (env :: outer)) (XB : K.In base) (TB : Top p loose mean mg mb base) (D : KtsDicts (outer.filterMap (·.frame)) h₀) (hf : env.frame = some L) (hke : env.scope.kind = .function)
    (ho : K.lookup f = some ⟨oc, od, .func (fnOf name qual params body scope dV kV doc pm an cdv ct), osl⟩) (hcd : codeIn K cdv qual = true) (hroom : A.depth < recursionLimit)
    (hbind : BindsTo s (fnOf name qual params body scope dV kV doc pm an cdv ct) args binds) (hkind : (binds.all fun y => scope.names.lookup y.1 == some .local || scope.names.lookup y.1 == some .cell) = true)
    (hnd : ((cellsFrom 0 scope.names []).map (·.1)).Nodup)
    (h : ∀ g L' h₁ tk cells, Fr h₀ L g m → Fr g L' h₁ (bindL (envOfC qual scope L' f cdv).kindOf binds fun _ => none) → News g L' h₁ (cells ++ news) →
      CellsAre (bindC (envOfC qual scope L' f cdv).kindOf binds fun _ => none) (cellsFrom (L' + 1) scope.names []) cells → Below A base (env :: outer) g → K.In g → Top p loose mean mg mb g → KtsDicts ((env :: outer).filterMap (·.frame)) g → (∀ p ∈ news, p.1 < L') →
      wpC (model prog w) (A.deeper (envOfC qual scope L' f cdv)) (execs body (envOfC qual scope L' f cdv))
        (fun fl s' => LeaveS ((env :: outer).filterMap (·.frame)) A₀ base outer K p loose mean mg mb h₀ h₀ L m g R (match fl with | .ret v => v | _ => .none) s')
        (fun e s' => wpAny (model prog w) (A.deeper (envOfC qual scope L' f cdv)) (leaving (envOfC qual scope L' f cdv) e) (fun _ s'' => R (.error e) s'') (fun e' s'' => R (.error e') s'') s')
        { s with heap := h₁, toks := tk })
    (hco : scope.isCoroutine = false) (hgen : scope.isGenerator = false) (hk : scope.kind = .function) : codeC (model prog w) A (.call (.ref f) args) R s := by
  obtain ⟨FG, BG, st, lv⟩ := groundX (R := R) B F N hA hf hke
  have X := X₀.keeps F.keep
  have hlim := T.nolimit.keeps F.keep
  have ho' := X _ _ ho
  refine hide fun G hG => ?_
  obtain ⟨c, oc', vs, tq, hc, hoc, hdc, hq⟩ := codeRec_of X hcd
  refine hG ?_
  clear hG G
  subst hc
  refine codeC_tree rfl (wpC_any ?_)
  show wpAny _ A.in1 (callAny (.ref f) args) _ _ s
  simp only [callAny]
  refine wpAny_bind (wpAny_load ho' ?_)
  simp only [fnOf, callFunction, hco, hgen]
  refine wpAny_bind (m := field (.ref c) 1) (wpAny_field hoc hdc hq (wpAny_bind (wpAny_pure ?_)))
  refine wpAny_bind (hbind _ _ _ _ (wpAny_bind (wpAny_newFunctionEnv_cells hk (kindsX hkind _) fun env' he s' x => ?_)))
  subst he
  refine wpAny_bind (wpAny_enterFrame (hlim.keeps x.toInCall.keep) hroom (wpAny_pure ⟨rfl, codeC_func ?_⟩))
  obtain ⟨h₁, tk, rfl, _⟩ := x.done
  have hk₁ := x.toInCall.keep
  obtain ⟨cells, NC, Y⟩ := Cl.news (h₀ := s.heap) (Nat.le_refl _) fun n c hm => ⟨x.cell n c (lookup_of_mem_nodup (cellsFrom_names scope.names 0 (s.heap.objs.size + 1) [] [] rfl ▸ hnd) hm), x.above n c hm⟩
  refine wpC_mono (h _ s.heap.objs.size h₁ tk cells FG ⟨x.toInCall.ns, fun b o e => hk₁ b o (of_hideAll _ e), Nat.le_of_eq (hideAll_size _ _)⟩ (fun p hp => ?_) Y BG (X₀.keeps st) (T.keeps st) (dicts_of FG hf st D) (fun p hp => Heap.lt_size (N p hp).1)) (fun fl s' hl => leaveS_of B FG hf XB TB D lv hl) fun _ _ y => y
  rcases List.mem_append.mp hp with hp | hp
  · refine ⟨(NC p hp).1, (NC p hp).2.1, ?_⟩
    cases q : (hideAll s.heap (news.map (·.1))).get? p.1 with
    | none => rfl
    | some o => have := of_hideAll _ q; rw [(NC p hp).2.2] at this; cases this
  · exact ⟨hk₁ _ _ (N p hp).1, Nat.ne_of_lt (Heap.lt_size (N p hp).1), hideAll_none _ (List.mem_map_of_mem hp)⟩
end
end
section
open PySem PySem.W PyProof.Rows PySem.Spec PySem.Calls LCt LCg
set_option maxRecDepth 100000
set_option maxHeartbeats 8000000
set_option linter.unusedVariables false
theorem fresh_W14 : True := by
  w_top off
  trivial
open PySem PySem.W PyProof.Rows PySem.Spec PySem.Calls LCt LCg
set_option maxRecDepth 100000
set_option maxHeartbeats 8000000
set_option linter.unusedVariables false
section
variable {prog : Program} {w : World} {A : Around} {E : Value → Shared → Prop} {s : Shared} {env : Env} {h₀ : Heap} {L : Addr} {m : Str → Option Value}
/-- the source of a comprehension with a test: a tuple of the ledger -/
def SrcTT (prog : Program) (w : World) (A : Around) (h₀ : Heap) (L : Addr) (m : Str → Option Value) (env : Env) (ct elt : Expr) (x : Str) (scope : Scope) (cl : List (Str × Addr)) (Fin : Shared → List Value → List (Addr × Obj) → Prop) (xv : Value) (s₁ : Shared) : Prop :=
  ∃ ax its news o n, xv = .ref ax ∧ A.handled = none ∧ Fr h₀ L s₁.heap m ∧ News h₀ L s₁.heap news ∧ (ax, o) ∈ news ∧ o.cls = .type "tuple" ∧ o.data = .seq its n ∧ its.size ≤ sizeLine ∧
    ∀ s₂ : Shared, (∃ h, s₂ = { s₁ with heap := h }) → CompRestT prog w A h₀ L m env ct elt x scope cl s₂ (fun nw => (ax, o) ∈ nw) (fun i v => its[i]? = some v) (Fin s₂) its.size 0 [] news
theorem Assign_ListComp_tup {ct elt iter : Expr} {x y : Str} {px py : Pos} {scope : Scope} {cl : List (Str × Addr)} {pos spos : Pos} {Q : Flow → Shared → Prop} (F₀ : Fr h₀ L s.heap m) (hLe : env.locals = L)
    (hsw : swapsWith (.ListComp elt [⟨.Name x px, iter, [ct], 0⟩] scope pos) (some (.Name y py)) spos.line env = pure true)
    (hclos : closureFor scope env = pure cl) (hcell : ∀ z ∈ scope.names, z.2 ≠ .cell) (hkind : scope.kind = .function)
    (hnames : ∀ z ∈ scope.names, z.2 = .local → scope.names.lookup z.1 = some .local) (hx : scope.names.lookup x = some .local)
    (hy : env.kindOf y = some .local) (hp : (env.scope.kind == .class || (env.scope.kind == .module && env.locals != env.globals)) = false)
    (h : wpAny (model prog w) A (eval iter env) (SrcTT prog w A h₀ L m env ct elt x scope cl (fun s₂ => FinA h₀ L m s₂ y Q)) E s)
    (hs : ∀ x, foldedSetIterable iter env x = pure x := by intro _; rfl) :
    wpAny (model prog w) A (exec (.Assign [.Name y py] (.ListComp elt [⟨.Name x px, iter, [ct], 0⟩] scope pos) spos) env) Q E s := by
  subst hLe
  rw [exec_Assign_Name_used _ _ _ _ hsw]
  refine wpAny_bind (wpAny_standAt (wpAny_bind ?_))
  show wpAny _ A (do let _ ← comprehension (.ListComp elt [⟨.Name x px, iter, [ct], 0⟩] scope pos) scope env _ (newList []) false (eval iter env) (some (assign (.Name y py) env))) _ _ s
  refine wpAny_bind (wpAny_mono (wpAny_comprehension_free (use := some (assign (.Name y py) env)) (Q := fun _ s' => Q .next s') rfl hs hclos hkind hnames
    (wpAny_mono h (fun xv s₁ h₁ => ?_) fun _ _ e => e)) (fun _ s' hq => wpAny_pure (wpAny_pure hq)) fun _ _ e => e)
  refine hide fun G hG => ?_
  obtain ⟨ax, its, news, o, n, qe0, hh, F, N, hm, hc, hd, hsz, R⟩ := h₁
  refine hG ?_
  clear hG G
  subst qe0
  have hl : s₁.heap.IsTuple ax its := ⟨o, (N _ hm).1, hc, n, hd⟩
  have hlt : ax < s₁.heap.objs.size := Heap.lt_size (N _ hm).1
  refine wpAny_pyIter_tuple hl ?_
  refine block_T (Walks.tuple hh s₁.heap.objs.size ax (Nat.ne_of_lt hlt) its) hsz (fun i h st => by obtain ⟨o, e, _⟩ := st.1; exact ⟨o, e⟩)
    (S := fun nw => (ax, o) ∈ nw)
    (fun i h h' o₁ nw st e e' _ N' S => ⟨(by obtain ⟨o2, e2, r⟩ := st.1; rw [e] at e2; cases e2; exact ⟨_, e', r⟩), ⟨o, (N' _ S).1, hc, n, hd⟩⟩) hcell hkind hx
    ⟨⟨_, Heap.get?_push_size _ rfl, rfl, rfl⟩, o, Heap.get?_push_of_some _ (N _ hm).1, hc, n, hd⟩ (fun b hb => ?_)
    (F.push _) (fun p hp => ⟨Heap.get?_push_of_some _ (N p hp).1, (N p hp).2⟩) (Nat.ne_of_lt F.ns.lt) (next_is_new F) (fun p hp => Nat.ne_of_lt (Heap.lt_size (N p hp).1)) hm (R _ ⟨_, rfl⟩) ?_
  · show b < (s₁.heap.push _).objs.size
    rw [Heap.size_push]
    rcases List.mem_cons.mp hb with rfl | hb
    · exact Nat.lt_succ_self _
    · rw [List.mem_singleton.mp hb]; exact Nat.lt_succ_of_lt hlt
  · intro D C h' tk m' ys news' F' N' o1 hn hC₀ hD₀ hCL hDL hCD offC fin
    show wpAny _ A (assign (.Name y py) env (.ref D)) _ _ _
    refine wpAny_assign_Name (wpAny_storeName_local hy F'.ns (fun h₂ hn₂ hs₂ => ?_) hp)
    have hL₀ : h₀.get? env.locals = none := Heap.get?_none_of_le F'.above
    have F₂ : Fr h₀ env.locals h₂ (fun z => if z = y then some (.ref D) else m z) := ⟨hn₂, fun b o e => hs₂.extBut b o (fun q => by rw [q, hL₀] at e; cases e) (F'.keep b o e), F'.above⟩
    refine ⟨m', hn.sameBut hs₂ hCL, fun h'' hs'' => fin D h'' _ (F₂.change hs'' hCL hC₀) (fun p hp => ?_) o1⟩
    have z : h₂.get? p.1 = some p.2 := hs₂.extBut _ _ (N' p hp).2.1 (N' p hp).1
    refine ⟨hs''.extBut _ _ ?_ z, (N' p hp).2⟩
    rcases List.mem_cons.mp hp with rfl | hp
    · exact Ne.symm hCD
    · exact offC p hp
end
end
section
open PySem PySem.W PyProof.Rows PySem.Spec PySem.Calls
set_option maxRecDepth 100000
set_option maxHeartbeats 40000000
set_option linter.unusedVariables false
theorem fresh_W15 : True := by
  w_top off
  trivial
open PySem PySem.W PyProof.Rows PySem.Spec PySem.Calls
set_option maxRecDepth 100000
set_option maxHeartbeats 40000000
set_option linter.unusedVariables false
section
variable {M : Model} {A : Around} {s : Shared}
theorem codeC_loop {c : Code} {R : Result → Shared → Prop} (hcl : clean c = true) (hq : c.quiet = true) (I : Nat → Shared → Prop)
    (turn : ∀ n s, I n s → wpC M (A.under c) (M.den c)
      (fun fin s' => match fin with | .done f => R (.ok f) s' | .again c' => c' = c ∧ ∃ m, m < n ∧ I m s') (fun e s' => R (.error e) s') s)
    (n : Nat) (h : I n s) : codeC M A c R s := by
  induction n using Nat.strongRecOn generalizing s with
  | ind n ih =>
    refine codeC_tree hcl (wpC_mono (turn n s h) (fun fin s' hf => ?_) fun _ _ h' => h')
    cases fin with
    | done f => exact hf
    | again c' => obtain ⟨rfl, m, hm, hI⟩ := hf; exact ⟨hq, ih m hm hI⟩
end
section
variable {prog : Program} {w : World} {A : Around} {E : Value → Shared → Prop} {R : Result → Shared → Prop} {s : Shared} {env : Env}
/-- a while loop whose test is safe and whose body is not -/
theorem codeC_whileLoop {test : Expr} {body : List Stmt} (I : Nat → Shared → Prop)
    (turn : ∀ n s, I n s →
      wpAny (model prog w) A (isTrue test env (eval test env)) (fun b s₂ =>
        if b then wpC (model prog w) A (execs body env) (fun f s₃ => match f with
            | .next | .cont => ∃ m, m < n ∧ I m s₃
            | .brk => R (.ok .next) s₃
            | .ret v => R (.ok (.ret v)) s₃) (notedBy (model prog w) A env fun e s' => R (.error e) s') s₂
        else R (.ok .next) s₂)
        (notedBy (model prog w) A env fun e s' => R (.error e) s') s)
    (n : Nat) (h : I n s) : codeC (model prog w) A (.whileLoop test body [] env) R s := by
  refine codeC_loop rfl rfl I (fun n s hI => ?_) n h
  show wpC _ A ((whileTurn test body [] env).onRaise (fun x => do noteFrame x env; theTreesLotGoes x)) _ _ s
  refine wpC_onRaise (wpC_mono (Q := fun fin s' => match fin with | .done f => R (.ok f) s' | .again c' => c' = .whileLoop test body [] env ∧ ∃ m, m < n ∧ I m s') (E := notedBy (model prog w) A env fun e s' => R (.error e) s') ?_ (fun _ _ q => q)
    fun e s' hx => wpAny_bind (wpAny_mono hx (fun _ _ e => wpAny_theTreesLotGoes e) fun _ _ e => e))
  simp only [whileTurn]
  refine wpC_bindA (wpAny_mono (turn n s hI) (fun b s₂ h₂ => ?_) fun _ _ h' => h')
  cases b with
  | false =>
    simp only [Bool.false_eq_true, if_false] at h₂ ⊢
    exact wpC_bindA (wpAny_execs_nil (wpC_pure h₂))
  | true =>
    simp only [if_true] at h₂ ⊢
    refine wpC_bind (wpC_mono h₂ (fun f s₃ h₃ => ?_) fun _ _ h' => h')
    cases f with
    | next => exact wpC_pure ⟨rfl, h₃⟩
    | cont => exact wpC_pure ⟨rfl, h₃⟩
    | brk => exact wpC_pure h₃
    | ret v => exact wpC_pure h₃
theorem wpC_While {test : Expr} {body : List Stmt} {pos : Pos} {Q : Flow → Shared → Prop}
    (h : codeC (model prog w) A (.whileLoop test body [] env) (fun r s' => match r with | .ok f => Q f s' | .error e => cameBackBy (model prog w) A env E e s') s) :
    wpC (model prog w) A (exec (.While test body [] pos) env) Q E s := by
  rw [exec_While]
  refine wpC_bindA (wpAny_standAt ?_)
  unfold runOwn
  exact wpC_onRaise (wpC_run h)
end
end
section
open PySem PySem.W PyProof.Rows PySem.Spec PySem.Calls
set_option maxRecDepth 100000
set_option maxHeartbeats 40000000
set_option linter.unusedVariables false
theorem fresh_W16 : True := by
  w_top off
  trivial
open PySem PySem.W PyProof.Rows PySem.Spec PySem.Calls
set_option maxRecDepth 100000
set_option maxHeartbeats 40000000
set_option linter.unusedVariables false
section
variable {prog : Program} {w : World} {A : Around} {E : Value → Shared → Prop} {R : Result → Shared → Prop} {s : Shared}
/-- the turns of a comprehension whose element is risky -/
theorem codeC_compLoop {elt target iter : Expr} {scope : Scope} {pos : Pos} {it acc : Value} {env : Env} (I : Nat → Shared → Prop)
    (turn : ∀ n s, I n s → wpAny (model prog w) A (pyNext it) (fun r s₁ => match r with
      | none => R (.ok .next) s₁
      | some v => wpAny (model prog w) A (assign target env v) (fun _ s₂ => wpC (model prog w) A (eval elt env) (fun x s₃ =>
          wpAny (model prog w) A (call (.builtin "list.append") [acc, x]) (fun _ s₄ => ∃ m, m < n ∧ I m s₄) (notedBy (model prog w) A env fun e s' => R (.error e) s') s₃)
          (notedBy (model prog w) A env fun e s' => R (.error e) s') s₂) (notedBy (model prog w) A env fun e s' => R (.error e) s') s₁) (notedBy (model prog w) A env fun e s' => R (.error e) s') s)
    (n : Nat) (h : I n s) (ht : ∀ v, letOwnedTupleGo target it v = pure () := by intro _; rfl) :
    codeC (model prog w) A (.compLoop (.ListComp elt [⟨target, iter, [], 0⟩] scope pos) 0 it acc env) R s := by
  refine codeC_loop rfl rfl I (fun n s hI => ?_) n h
  show wpC _ A ((compTurn (.ListComp elt [⟨target, iter, [], 0⟩] scope pos) 0 it acc env).onRaise (fun x => do noteFrame x env; theTreesLotGoes x)) _ _ s
  refine wpC_onRaise (wpC_mono (Q := fun fin s' => match fin with | .done f => R (.ok f) s' | .again c' => c' = .compLoop (.ListComp elt [⟨target, iter, [], 0⟩] scope pos) 0 it acc env ∧ ∃ m, m < n ∧ I m s') (E := notedBy (model prog w) A env fun e s' => R (.error e) s') ?_ (fun _ _ q => q)
    fun e s' hx => wpAny_bind (wpAny_mono hx (fun _ _ e => wpAny_theTreesLotGoes e) fun _ _ e => e))
  rw [compTurn_list1]
  refine wpC_bindA (wpAny_standAt (wpC_bindA (wpAny_mono (turn n s hI) (fun r s₁ h₁ => ?_) fun _ _ h' => h')))
  cases r with
  | none => exact wpC_pure h₁
  | some v =>
    refine wpC_bindA (wpAny_of_eq (ht v) ?_)
    exact wpC_bindA (wpAny_mono h₁ (fun _ s₂ h₂ => wpC_bind (wpC_bind (wpC_mono h₂ (fun x s₃ h₃ => wpC_bindA (wpAny_mono h₃
      (fun _ s₄ h₄ => wpC_pure (wpC_pure ⟨rfl, h₄⟩)) fun _ _ h' => h')) fun _ _ h' => h'))) fun _ _ h' => h')
theorem codeC_compStart {elt target iter : Expr} {ifs : List Expr} {rest : List Comprehension} {scope : Scope} {pos : Pos} {it acc : Value} {env : Env}
    (h0 : codeC (model prog w) A (.compLoop (.ListComp elt (⟨target, iter, ifs, 0⟩ :: rest) scope pos) 0 it acc env) R s)
    (h : wpAny (model prog w) A (pyIter it) (fun it' s' => codeC (model prog w) A (.compLoop (.ListComp elt (⟨target, iter, ifs, 0⟩ :: rest) scope pos) 0 it' acc env) R s')
      (notedBy (model prog w) A env fun x s' => R (.error x) s') s) :
    codeC (model prog w) A (.compStart (.ListComp elt (⟨target, iter, ifs, 0⟩ :: rest) scope pos) 0 it acc env) R s := by
  refine codeC_tree rfl (wpC_any ?_)
  show wpAny _ A ((compStart (.ListComp elt (⟨target, iter, ifs, 0⟩ :: rest) scope pos) 0 it acc env).onRaise (fun x => do noteFrame x env; standAt theWindowsPlace)) _ _ s
  refine wpAny_notedAt ?_
  unfold compStart
  show wpAny _ _ (ask >>= _) _ _ s
  refine wpAny_bind (wpAny_askSetting (wpAny_ite ?_))
  split
  · first
      | exact wpAny_bind (wpAny_pure (wpAny_pure (And.intro rfl h0)))
      | exact wpAny_pure (And.intro rfl h0)
  · first
      | exact wpAny_bind (wpAny_rule (wpAny_bind (wpAny_standAt (wpAny_bind (wpAny_mono h (fun it' s' h' => wpAny_pure (And.intro rfl h')) fun _ _ x => x)))))
      | (refine wpAny_bind (wpAny_rule ?_); show wpAny _ _ (standAt iter.pos >>= _) _ _ s; exact wpAny_bind (wpAny_standAt (wpAny_bind (wpAny_mono h (fun it' s' h' => wpAny_pure (And.intro rfl h')) fun _ _ x => x))))
end
end
section
open PySem PySem.W PyProof.Rows PySem.Spec PySem.Calls
set_option maxRecDepth 100000
set_option maxHeartbeats 40000000
set_option linter.unusedVariables false
theorem fresh_W17 : True := by
  w_top off
  trivial
open PySem PySem.W PyProof.Rows PySem.Spec PySem.Calls
set_option maxRecDepth 100000
set_option maxHeartbeats 40000000
set_option linter.unusedVariables false
section
variable {M : Model} {A : Around} {E : Value → Shared → Prop} {s : Shared} {env : Env}
theorem wpC_attempt {α : Type} {m : Sem α} {Q : Except Value α → Shared → Prop} (h : wpC M A m (fun a s' => Q (.ok a) s') (fun e s' => Q (.error e) s') s) : wpC M A m.attempt Q E s := fun Γ p hΓ hC => by
  rw [Sem.wp_attempt]
  exact h Γ p hΓ hC
theorem wpC_standIf {α : Type} {c : Prop} [Decidable c] {pos : Pos} {k : PUnit → Sem α} {Q : α → Shared → Prop} (h : wpC M A (k ()) Q E s) : wpC M A (if c then (standAt pos >>= k) else k ()) Q E s := by
  split
  · exact wpC_bindA (wpAny_standAt h)
  · exact h
/-- a comprehension whose turns are clean -/
theorem wpC_comprehension {e : Expr} {scope : Scope} {pos : Pos} {newAcc first : Sem Value} {g : Comprehension} {gs : List Comprehension} {cl : List (Str × Addr)} {use : Option (Value → Sem Unit)}
    {Q : Value → Shared → Prop}
    (hcl : clausesOf e = g :: gs) (hs : ∀ x, foldedSetIterable g.iter env x = pure x) (hclos : closureFor scope env = pure cl)
    (hkind : scope.kind = .function) (hnames : ∀ x ∈ scope.names, x.2 = .local → scope.names.lookup x.1 = some .local)
    (h : wpAny M A first (fun x s₁ => wpAny M A (pyIter x) (fun it s₂ => wpAny M A newAcc (fun acc s₃ =>
      wpAny M A (newFunctionEnv scope env.globals cl [] env.qual none .none (some env)) (fun cenv s₄ =>
        codeC M A (.compStart e 0 it acc { cenv with scope := relabel scope env }) (compPost M A E use Q acc cenv.locals) s₄) E s₃) E s₂) E s₁) E s) :
    wpC M A (comprehension e scope env pos newAcc false first use) Q E s := by
  unfold comprehension
  rw [hclos, hcl]
  refine wpC_bindA (wpAny_mono h (fun x s₁ h₁ => ?_) fun _ _ h' => h')
  refine wpC_bindA (wpAny_standAt (wpC_bindA (wpAny_of_eq (hs x) (wpC_bindA (wpAny_holding (wpAny_mono h₁ (fun it s₂ h₂ => ?_) fun _ _ h' => h'))))))
  refine wpC_standIf (wpC_bindA (wpAny_mono h₂ (fun acc s₃ h₃ => ?_) fun _ _ h' => h'))
  refine wpC_bindA (wpAny_pure (wpC_bindA (wpAny_mono h₃ (fun cenv s₄ h₄ => ?_) fun _ _ h' => h')))
  dsimp only
  have hv : ∀ x ∈ (scope.names.filter fun x => (x.2 == .local || x.2 == .cell) && x.1 != (".0" : Str)).reverse, x.2 = .local →
      Env.kindOf { cenv with scope := relabel scope env } x.1 = some .local := fun x hx hl => lookup_relabel_local (hnames x (List.mem_filter.mp (List.mem_reverse.mp hx)).1 hl)
  have hv' : ∀ x ∈ (scope.names.filter fun x => (x.2 == .local || x.2 == .cell) && x.1 != (".0" : Str)).reverse.drop 1 ++ (scope.names.filter fun x => (x.2 == .local || x.2 == .cell) && x.1 != (".0" : Str)).reverse.take 1,
      x.2 = .local → Env.kindOf { cenv with scope := relabel scope env } x.1 = some .local := fun x hx hl => by
    rcases List.mem_append.mp hx with h1 | h1
    · exact hv x (List.mem_of_mem_drop h1) hl
    · exact hv x (List.mem_of_mem_take h1) hl
  refine wpC_holding (wpC_bind (wpC_attempt (wpC_holding (wpC_run (codeC_mono h₄ fun r s' hr => ?_)))))
  cases r with
  | ok f =>
    cases use with
    | none =>
      obtain ⟨m, hn, hr⟩ := hr
      exact wpC_any (wpAny_bind (wpAny_holding (wpAny_comp_letGo (cenv := { cenv with scope := relabel scope env }) hkind _ s' m hv hn fun h' m' _ hs' => wpAny_pure (hr h' hs'))))
    | some u =>
      refine wpC_any (wpAny_bind (wpAny_rule (wpAny_bind (wpAny_holding (wpAny_mono hr (fun _ s'' hr' => ?_) fun _ _ h' => h')))))
      obtain ⟨m, hn, hr'⟩ := hr'
      exact wpAny_bind (wpAny_comp_letGo (cenv := { cenv with scope := relabel scope env }) hkind _ s'' m hv' hn fun h' m' _ hs' => wpAny_pure (hr' h' hs'))
  | error x =>
    have hr' : ∃ m, s'.heap.Ns cenv.locals m ∧ ∀ h', Heap.SameBut cenv.locals s'.heap h' → ∀ cenv' : Env, cenv'.locals = cenv.locals → wpAny M A (passOn "comprehension.variables-let-go" x cenv' : Sem Value) (fun _ _ => False) E { s' with heap := h' } := by cases use <;> exact hr
    obtain ⟨m, hn, hr⟩ := hr'
    exact wpC_any (wpAny_bind (wpAny_holding (wpAny_comp_letGo (cenv := { cenv with scope := relabel scope env }) hkind _ s' m hv hn fun h' m' _ hs' => wpAny_mono (hr h' hs' _ rfl) (fun _ _ f => f.elim) fun _ _ y => y)))
end
end
section
open PySem PySem.W PyProof.Rows PySem.Spec PySem.Calls
set_option maxRecDepth 100000
set_option maxHeartbeats 40000000
set_option linter.unusedVariables false
theorem fresh_W18 : True := by
  w_top off
  trivial
open PySem PySem.W PyProof.Rows PySem.Spec PySem.Calls
set_option maxRecDepth 100000
set_option maxHeartbeats 40000000
set_option linter.unusedVariables false
theorem map_two {m₀ : Str → Option Value} {x z : Str} {a b v : Option Value} (h : x ≠ z) : (fun y => if y = z then v else if y = x then a else if y = z then b else m₀ y) = fun y => if y = x then a else if y = z then v else m₀ y := by
  funext y
  by_cases e : y = z
  · subst e
    rw [if_pos rfl, if_neg (Ne.symm h), if_pos rfl]
  · simp only [if_neg e]
section
variable {prog : Program} {w : World} {A : Around} {E : Value → Shared → Prop} {s : Shared} {env : Env} {h₀ : Heap} {x : Str} {body : List Stmt} {Q : Flow → Shared → Prop}
/-- a loop over bytes that turns one int -/
theorem bytes_fold {b : Array UInt8} {tb : Tok} {m₀ : Str → Option Value} {news : List (Addr × Obj)} (z : Str) (f : Nat → Int)
    (hh : A.handled = none) (F : Fr h₀ env.locals s.heap m₀) (N : News h₀ env.locals s.heap news) (hz : ∃ t, m₀ z = some (.int (f 0) t)) (hne : x ≠ z)
    (turn : ∀ (i : Nat) (c : UInt8) u t I it h tk, b[i]? = some c → (∀ p ∈ news, p.1 ≠ I) → Fr h₀ env.locals h (fun y => if y = x then some (.int (c.toNat : Int) u) else if y = z then some (.int (f i) t) else m₀ y) → News h₀ env.locals h ((I, it) :: news) →
      wpAny (model prog w) A (execs body env) (UnrPost h₀ env.locals { s with heap := h, toks := tk } I it (fun m' n' => (∃ u t, m' = fun y => if y = x then u else if y = z then some (.int (f (i + 1)) t) else m₀ y) ∧ n' = news) Q) E { s with heap := h, toks := tk })
    (done : ∀ u t h tk, Fr h₀ env.locals h (fun y => if y = x then u else if y = z then some (.int (f b.size) t) else m₀ y) → News h₀ env.locals h news → Q .next { s with heap := h, toks := tk }) :
    wpAny (model prog w) A (pyIter (.bytes b tb)) (fun it s₂ => LoopAtV prog w A h₀ env x body Q E it s₂) E s := by
  refine bytes_inv (fun i m' n' => (∃ u t, m' = fun y => if y = x then u else if y = z then some (.int (f i) t) else m₀ y) ∧ n' = news) hh F N ⟨?_, rfl⟩ ?_ ?_
  · obtain ⟨t, ht⟩ := hz
    refine ⟨m₀ x, t, ?_⟩
    funext y
    by_cases e : y = x
    · rw [if_pos e, e]
    · rw [if_neg e]
      by_cases e2 : y = z
      · rw [if_pos e2, e2, ht]
      · rw [if_neg e2]
  · rintro i c u m₁ news₁ I it h tk hi off ⟨⟨u0, t0, rfl⟩, rfl⟩ F₁ N₁
    refine turn i c u t0 I it h tk hi off ?_ N₁
    rw [map_again] at F₁
    exact F₁
  · rintro m₁ news₁ h tk ⟨⟨u, t, rfl⟩, rfl⟩ F₁ N₁
    exact done u t h tk F₁ N₁
end
end
section
open PySem PySem.W PyProof.Rows PySem.Spec PySem.Calls
set_option maxRecDepth 100000
set_option maxHeartbeats 40000000
set_option linter.unusedVariables false
theorem fresh_W19 : True := by
  w_top off
  trivial
open PySem PySem.W PyProof.Rows PySem.Spec PySem.Calls
set_option maxRecDepth 100000
set_option maxHeartbeats 40000000
set_option linter.unusedVariables false
theorem pow62 : (2 : Int) ^ Int.toNat 62 = 4611686018427387904 := by decide +kernel
theorem pow61 : (2 : Int) ^ Int.toNat 61 = 2305843009213693952 := by decide +kernel
theorem pow30 : (2 : Int) ^ Int.toNat 30 = 1073741824 := by decide +kernel
theorem pow_lit {prog : Program} {w : World} {A : Around} {E : Value → Shared → Prop} {s : Shared} {a n v : Int} {t u : Tok} {Q : Value → Shared → Prop} (hn : 0 ≤ n) (hn2 : n ≤ 1000000) (ha : a.natAbs < 2 ^ 64) (e : a ^ n.toNat = v) (h : Q (.int v s.toks) { s with toks := s.toks + 1 }) :
    wpAny (model prog w) A (binaryOp .Pow (.int a t) (.int n u)) Q E s := pow_int_small hn hn2 ha (by rw [e]; exact h)
theorem pow_62 {prog : Program} {w : World} {A : Around} {E : Value → Shared → Prop} {s : Shared} {t u : Tok} {Q : Value → Shared → Prop} (h : Q (.int 4611686018427387904 s.toks) { s with toks := s.toks + 1 }) :
    wpAny (model prog w) A (binaryOp .Pow (.int 2 t) (.int 62 u)) Q E s := pow_lit (by decide) (by decide) (by decide) pow62 h
theorem pow_61 {prog : Program} {w : World} {A : Around} {E : Value → Shared → Prop} {s : Shared} {t u : Tok} {Q : Value → Shared → Prop} (h : Q (.int 2305843009213693952 s.toks) { s with toks := s.toks + 1 }) :
    wpAny (model prog w) A (binaryOp .Pow (.int 2 t) (.int 61 u)) Q E s := pow_lit (by decide) (by decide) (by decide) pow61 h
theorem pow_30 {prog : Program} {w : World} {A : Around} {E : Value → Shared → Prop} {s : Shared} {t u : Tok} {Q : Value → Shared → Prop} (h : Q (.int 1073741824 s.toks) { s with toks := s.toks + 1 }) :
    wpAny (model prog w) A (binaryOp .Pow (.int 2 t) (.int 30 u)) Q E s := pow_lit (by decide) (by decide) (by decide) pow30 h
end
section
open PySem PySem.W PyProof.Rows PySem.Spec PySem.Calls LCg
set_option maxRecDepth 100000
set_option maxHeartbeats 40000000
set_option linter.unusedVariables false
theorem fresh_W20 : True := by
  w_top off
  trivial
open PySem PySem.W PyProof.Rows PySem.Spec PySem.Calls LCg
set_option maxRecDepth 100000
set_option maxHeartbeats 40000000
set_option linter.unusedVariables false
section
variable {prog : Program} {w : World} {A : Around} {E : Value → Shared → Prop} {s : Shared} {h₀ : Heap} {L : Addr} {m : Str → Option Value} {env : Env}
/-- the turns of a comprehension over pairs whose test fails at each -/
theorem compLoop_none {elt iter c : Expr} {elts : List Expr} {x1} {tp : Pos} {scope : Scope} {pos : Pos} {it acc : Value} {env : Env} {R : Result → Shared → Prop} (I : Nat → Shared → Prop)
    (turn : ∀ n s, I n s → wpAny (model prog w) A (pyNext it) (fun r s₁ => match r with
      | none => R (.ok .next) s₁
      | some v => wpAny (model prog w) A (letOwnedTupleGo (.Tuple elts x1 tp) it v) (fun _ s₁' => wpAny (model prog w) A (assign (.Tuple elts x1 tp) env v) (fun _ s₂ =>
          wpAny (model prog w) A (isTrue c env (eval c env)) (fun ok s₃ => ok = false ∧ ∃ m, m < n ∧ I m s₃) (notedBy (model prog w) A env fun e s' => R (.error e) s') s₂)
          (notedBy (model prog w) A env fun e s' => R (.error e) s') s₁') (notedBy (model prog w) A env fun e s' => R (.error e) s') s₁) (notedBy (model prog w) A env fun e s' => R (.error e) s') s)
    (n : Nat) (h : I n s) : codeAny (model prog w) A (.compLoop (.ListComp elt [⟨.Tuple elts x1 tp, iter, [c], 0⟩] scope pos) 0 it acc env) R s := by
  refine codeAny_loop rfl I (fun n s hI => ?_) n h
  show wpAny _ A ((compTurn (.ListComp elt [⟨.Tuple elts x1 tp, iter, [c], 0⟩] scope pos) 0 it acc env).onRaise (fun x => do noteFrame x env; theTreesLotGoes x)) _ _ s
  refine wpAny_noted ?_
  rw [compTurn_list]
  refine wpAny_bind (wpAny_standAt (wpAny_bind (wpAny_mono (turn n s hI) (fun r s₁ h₁ => ?_) fun _ _ h' => h')))
  cases r with
  | none => exact wpAny_pure h₁
  | some v =>
    refine wpAny_bind (wpAny_mono h₁ (fun _ s₁' h₁' => ?_) fun _ _ h' => h')
    refine wpAny_bind (wpAny_mono h₁' (fun _ s₂ h₂ => wpAny_bind (wpAny_mono (wpAny_tests_one h₂) (fun ok s₃ h₃ => ?_) fun _ _ h' => h')) fun _ _ h' => h')
    obtain ⟨rfl, h₃⟩ := h₃
    exact wpAny_pure ⟨rfl, h₃⟩
/-- what a test has to answer at a pair -/
def TestNo (prog : Program) (w : World) (A : Around) (h₀ : Heap) (L : Addr) (m : Str → Option Value) (env : Env) (c : Expr) (x x₂ : Str) (scope : Scope) (cl : List (Str × Addr)) (s : Shared) (items : Array Value) : Prop :=
  ∀ (i : Nat) (v : Value) (t : Tok) C oC news m₂ h tk (E' : Value → Shared → Prop), items[i]? = some v → NsObj oC m₂ → m₂ x = some (.int (i : Int) t) → m₂ x₂ = some v → Fr h₀ L h m → News h₀ L h ((C, oC) :: news) →
    wpAny (model prog w) A (isTrue c (compEnvC scope cl C env) (eval c (compEnvC scope cl C env))) (fun ok s₃ => ok = false ∧ ∃ tk', s₃ = { s with heap := h, toks := tk' }) E' { s with heap := h, toks := tk }
/-- the source: an enumeration of a list of the ledger -/
def SrcEN (prog : Program) (w : World) (A : Around) (h₀ : Heap) (L : Addr) (m : Str → Option Value) (env : Env) (c : Expr) (x x₂ : Str) (scope : Scope) (cl : List (Str × Addr)) (Q : Value → Shared → Prop) (xv : Value) (s₁ : Shared) : Prop :=
  ∃ (e it l : Addr) (items : Array Value) (n : Nat) (news : List (Addr × Obj)), xv = .ref e ∧ A.handled = none ∧ Fr h₀ L s₁.heap m ∧ News h₀ L s₁.heap news ∧ IsEnum s₁.heap e it 0 .none ∧ s₁.heap.IsListIter it l 0 ∧ s₁.heap.IsList l items ∧ items.size = n ∧
    e ≠ it ∧ l ≠ e ∧ l ≠ it ∧ L ≠ e ∧ L ≠ it ∧ l ≠ L ∧ h₀.get? e = none ∧ h₀.get? it = none ∧ (∀ p ∈ news, p.1 ≠ e ∧ p.1 ≠ it) ∧
    (∀ g, TestNo prog w A h₀ L m env c x x₂ scope cl { s₁ with heap := g } items) ∧
    ∀ D h tk, Fr h₀ L h m → News h₀ L h ((D, lst []) :: news) → (∀ p ∈ news, p.1 < D) → Q (.ref D) { s₁ with heap := h, toks := tk }
theorem ListComp_EN {elt iter c : Expr} {x x₂ : Str} {px px₂ tp : Pos} {tk} {scope : Scope} {cl : List (Str × Addr)} {pos : Pos} {Q : Value → Shared → Prop} (F₀ : Fr h₀ L s.heap m)
    (hclos : closureFor scope env = pure cl) (hcell : ∀ y ∈ scope.names, y.2 ≠ .cell) (hkind : scope.kind = .function)
    (hnames : ∀ y ∈ scope.names, y.2 = .local → scope.names.lookup y.1 = some .local) (hx : scope.names.lookup x = some .local) (hx₂ : scope.names.lookup x₂ = some .local) (hxx : x ≠ x₂)
    (h : wpAny (model prog w) A (eval iter env) (SrcEN prog w A h₀ L m env c x x₂ scope cl Q) E s)
    (hs : ∀ x, foldedSetIterable iter env x = pure x := by intro _; rfl) :
    wpAny (model prog w) A (eval (.ListComp elt [⟨.Tuple [.Name x px, .Name x₂ px₂] tk tp, iter, [c], 0⟩] scope pos) env) Q E s := by
  rw [eval_ListComp]
  refine wpAny_comprehension_free (use := none) rfl hs hclos hkind hnames (wpAny_mono h (fun xv s₁ h₁ => ?_) fun _ _ e => e)
  refine hide fun G hG => ?_
  obtain ⟨e, it, l, items, n, news, qe0, hh, F, N, hE, hI, hl, hn, hei, hle, hli, hLe, hLi, hlL, he0, hi0, off, T, fin⟩ := h₁
  refine hG ?_
  clear hG G
  subst qe0
  refine wpAny_pyIter_enum hE ?_
  have W := WalksT.enumerate (prog := prog) (w := w) hh e it l hei hle hli items
  refine wpAny_newObj_type (wpAny_newFunctionEnv hcell (by intro y hy; simp at hy) (fun h₁ hns₁ hsb₁ => ?_) hkind)
  dsimp only at hns₁ hsb₁ ⊢
  generalize hH2 : s₁.heap.push { cls := .type "list", dict := none, data := .seq ([] : List Value).toArray } = H2 at hns₁ hsb₁ ⊢
  have hC : H2.objs.size = s₁.heap.objs.size + 1 := by rw [← hH2, Heap.size_push]
  have hDC : s₁.heap.objs.size ≠ H2.objs.size := by rw [hC]; exact Nat.ne_of_lt (Nat.lt_succ_self _)
  have below : ∀ b, b < s₁.heap.objs.size → b ≠ H2.objs.size ∧ b ≠ s₁.heap.objs.size := fun b hb => ⟨by rw [hC]; exact Nat.ne_of_lt (Nat.lt_succ_of_lt hb), Nat.ne_of_lt hb⟩
  have old : ∀ b o, s₁.heap.get? b = some o → h₁.get? b = some o := fun b o q => hsb₁.extBut b o (below b (Heap.lt_size q)).1 (Heap.get?_push_of_some _ (hH2 ▸ Heap.get?_push_of_some _ q))
  have hacc : h₁.get? s₁.heap.objs.size = some (lst []) := hsb₁.extBut _ _ hDC (Heap.get?_push_of_some _ (hH2 ▸ Heap.get?_push_size _ rfl))
  have helt : e < s₁.heap.objs.size := Heap.lt_size hE
  have hilt : it < s₁.heap.objs.size := by obtain ⟨_, q, _⟩ := hI; exact Heap.lt_size q
  have hllt : l < s₁.heap.objs.size := by obtain ⟨_, q, _⟩ := hl; exact Heap.lt_size q
  have hLlt : L < s₁.heap.objs.size := F.ns.lt
  have fresh₀ : ∀ a, s₁.heap.objs.size ≤ a → h₀.get? a = none := fun a ha => by
    cases q : h₀.get? a with
    | none => rfl
    | some o' => exact absurd (Heap.lt_size (F.keep a o' q)) (Nat.not_lt.mpr ha)
  have hD₀ : h₀.get? s₁.heap.objs.size = none := fresh₀ _ (Nat.le_refl _)
  have hC₀ : h₀.get? H2.objs.size = none := fresh₀ _ (by rw [hC]; exact Nat.le_succ _)
  have hCL : H2.objs.size ≠ L := Ne.symm (below L hLlt).1
  have hDL : s₁.heap.objs.size ≠ L := Ne.symm (below L hLlt).2
  have fin' : ∀ (h' : Heap) (tk' : Nat) (m' : Str → Option Value), Fr h₀ L h' m → h'.Ns H2.objs.size m' → News h₀ L h' ((s₁.heap.objs.size, lst []) :: news) →
      ∃ m', h'.Ns H2.objs.size m' ∧ ∀ h'', Heap.SameBut H2.objs.size h' h'' → Q (.ref s₁.heap.objs.size) { s₁ with heap := h'', toks := tk' } := by
    intro h' tk' m' F' hn' N'
    refine ⟨m', hn', fun h'' hs'' => fin _ h'' tk' (F'.change hs'' hCL hC₀) (fun p hp => ?_) fun p hp => Heap.lt_size (N p hp).1⟩
    refine ⟨hs''.extBut _ _ ?_ (N' p hp).1, (N' p hp).2⟩
    rcases List.mem_cons.mp hp with rfl | hp
    · exact hDC
    · exact (below _ (Heap.lt_size (N p hp).1)).1
  have loop : ∀ s₃ : Shared, s₃ = { s₁ with heap := h₁, toks := s₁.toks + ([] : List (Str × Value)).length } →
      codeAny (model prog w) A (.compLoop (.ListComp elt [⟨.Tuple [.Name x px, .Name x₂ px₂] tk tp, iter, [c], 0⟩] scope pos) 0 (.ref e) (.ref s₁.heap.objs.size) (compEnvC scope cl H2.objs.size env))
        (compPost (model prog w) A E none Q (.ref s₁.heap.objs.size) H2.objs.size) s₃ := by
    rintro s₃ rfl
    refine compLoop_none
      (fun k s' => ∃ h' tk i m', s' = { s₁ with heap := h', toks := tk } ∧ i ≤ items.size ∧ k = items.size + 1 - i ∧ s₁.heap.objs.size + 1 < h'.objs.size ∧ ((∃ old, IsEnum h' e it i old) ∧ h'.IsListIter it l i ∧ h'.IsList l items) ∧ Fr h₀ L h' m ∧ h'.Ns H2.objs.size m' ∧ News h₀ L h' ((s₁.heap.objs.size, lst []) :: news)) ?_ (items.size + 1)
      ⟨h₁, _, 0, _, rfl, Nat.zero_le _, rfl, ?_, ?_, F.keeps old, hns₁, fun p hp => ?_⟩
    · rintro k s' jj
      refine hide fun G hG => ?_
      obtain ⟨h', tk, i, m', qe0, hi, qe1, hsz, hst', F', hn', N'⟩ := jj
      refine hG ?_
      clear hG G
      subst qe0
      subst qe1
      have lift : ∀ {h₂ : Heap}, (∀ b o, b ∉ [e, it] → h'.get? b = some o → h₂.get? b = some o) → Fr h₀ L h₂ m ∧ h₂.Ns H2.objs.size m' ∧ News h₀ L h₂ ((s₁.heap.objs.size, lst []) :: news) := by
        intro h₂ hk
        have nin : ∀ b, b ≠ e → b ≠ it → b ∉ [e, it] := fun b h1 h2 hm => by
          rcases List.mem_cons.mp hm with q | hm
          · exact h1 q
          · exact h2 (List.mem_singleton.mp hm)
        refine ⟨⟨F'.ns.at' fun o q => hk L o (nin L hLe hLi) q, fun b o q => hk b o (nin b (fun q' => by rw [q', he0] at q; cases q) (fun q' => by rw [q', hi0] at q; cases q)) (F'.keep b o q), F'.above⟩, ?_, fun p hp => ⟨hk _ _ ?_ (N' p hp).1, (N' p hp).2⟩⟩
        · exact hn'.at' fun o q => hk _ o (nin _ (Ne.symm (below e helt).1) (Ne.symm (below it hilt).1)) q
        · rcases List.mem_cons.mp hp with rfl | hp
          · exact nin _ (Ne.symm (below e helt).2) (Ne.symm (below it hilt).2)
          · exact nin _ (off p hp).1 (off p hp).2
      by_cases hlt : i < items.size
      · refine W.item i _ _ _ hlt hst' fun Tp vals h₂ tk₂ hPv hTlt hT hmid hk₂ => ?_
        obtain ⟨t, v, hv, rfl⟩ := hPv
        refine W.go _ _ _ i Tp _ _ _ hmid fun h₃ hst₃ hk₃ => ?_
        have hk23 : ∀ b o, b ∉ [e, it] → h'.get? b = some o → h₃.get? b = some o := fun b o hb q => hk₃ b o hb (hk₂ b o hb q)
        obtain ⟨F₃, hn₃, N₃⟩ := lift hk23
        have ht₃ : IsTup h₃ Tp #[.int (i : Int) t, v] := by
          obtain ⟨o, q, r⟩ := hT
          exact ⟨o, hk₃ _ _ (W.apart i Tp _ hmid) q, r⟩
        refine assign_Tuple_tuple hh ht₃ rfl rfl fun h₅ hx5 => ?_
        have he' : ∀ b o, h₃.get? b = some o → h₅.get? b = some o := fun b o q => hx5 b o (Nat.ne_of_lt (Heap.lt_size q)) q
        refine assignInOrder_cons (wpAny_assign_Name (wpAny_storeName_local (lookup_relabel_local hx) (hn₃.at' fun o q => he' _ o q) (fun h₆ hn₆ hs₆ => ?_) (by simp [compEnvC, relabel, hkind])))
        refine assignInOrder_cons (wpAny_assign_Name (wpAny_storeName_local (lookup_relabel_local hx₂) hn₆ (fun h₇ hn₇ hs₇ => ?_) (by simp [compEnvC, relabel, hkind])))
        refine assignInOrder_nil ?_
        have old7 : ∀ b o, b ≠ H2.objs.size → h₃.get? b = some o → h₇.get? b = some o := fun b o hb q => hs₇.extBut b o hb (hs₆.extBut b o hb (he' b o q))
        have F₇ : Fr h₀ L h₇ m := ((F₃.keeps he').change hs₆ hCL hC₀).change hs₇ hCL hC₀
        have N₇ : News h₀ L h₇ ((s₁.heap.objs.size, lst []) :: news) := fun p hp => by
          refine ⟨old7 _ _ ?_ (N₃ p hp).1, (N₃ p hp).2⟩
          rcases List.mem_cons.mp hp with rfl | hp
          · exact hDC
          · exact (below _ (Heap.lt_size (N p hp).1)).1
        obtain ⟨oC, heC, hoC⟩ := ns_obj hn₇
        have hst₇ := W.frame (i + 1) h₃ h₇ hst₃ fun b hb o q => by
          refine old7 b o (fun q' => ?_) q
          simp only [List.mem_cons, List.not_mem_nil, or_false] at hb
          rcases hb with rfl | rfl | rfl
          · exact (below b helt).1 q'
          · exact (below b hilt).1 q'
          · exact (below b hllt).1 q'
        refine wpAny_mono (T h₇ i v t H2.objs.size oC ((s₁.heap.objs.size, lst []) :: news) _ h₇ _ _ hv hoC (by simp [hxx]) (by simp) F₇ fun p hp => ?_) (fun ok s₄ h₄ => ?_) fun _ _ q => q
        · rcases List.mem_cons.mp hp with rfl | hp
          · exact ⟨heC, hCL, hC₀⟩
          · exact N₇ p hp
        · obtain ⟨rfl, tk', rfl⟩ := h₄
          refine ⟨rfl, items.size + 1 - (i + 1), by omega, h₇, tk', i + 1, _, rfl, hlt, rfl, ?_, hst₇, F₇, hn₇, N₇⟩
          exact hC ▸ Heap.lt_size heC
      · obtain rfl : i = items.size := Nat.le_antisymm hi (Nat.not_lt.mp hlt)
        refine W.done _ _ _ hst' fun h₂ tk₂ hk₂ => ?_
        obtain ⟨F₂, hn₂, N₂⟩ := lift hk₂
        exact fin' h₂ tk₂ m' F₂ hn₂ N₂
    · exact hC ▸ hns₁.lt
    · exact W.frame 0 s₁.heap h₁ ⟨⟨_, hE⟩, hI, hl⟩ fun b _ o q => old b o q
    · rcases List.mem_cons.mp hp with rfl | hp
      · exact ⟨hacc, hDL, hD₀⟩
      · exact ⟨old _ _ (N p hp).1, (N p hp).2⟩
  refine codeAny_compStart_list (loop _ rfl) (W.self 0 _ _ _ ?_ (loop _ rfl))
  exact W.frame 0 s₁.heap h₁ ⟨⟨_, hE⟩, hI, hl⟩ fun b _ o q => old b o q
/-- an enumeration of a list of the ledger -/
theorem enum_src {l : Addr} {vs : List Value} {k : Nat} {news : List (Addr × Obj)} {c : Expr} {x x₂ : Str} {scope : Scope} {cl : List (Str × Addr)} {Q : Value → Shared → Prop}
    (hh : A.handled = none) (F : Fr h₀ L s.heap m) (N : News h₀ L s.heap news) (hm : (l, ({ cls := .type "list", data := .seq vs.toArray k } : Obj)) ∈ news)
    (T : ∀ g, TestNo prog w A h₀ L m env c x x₂ scope cl { s with heap := g } vs.toArray)
    (fin : ∀ D h tk, Fr h₀ L h m → News h₀ L h ((D, lst []) :: news) → (∀ p ∈ news, p.1 < D) → Q (.ref D) { s with heap := h, toks := tk }) :
    wpAny (model prog w) A (call (.type "enumerate") [.ref l]) (SrcEN prog w A h₀ L m env c x x₂ scope cl Q) E s := by
  have hlN := (N _ hm).1
  refine enum_rows F ⟨_, hlN, rfl, _, rfl⟩ fun h' hE hI hl F' hk n1 n2 n3 _ _ => ?_
  have hLlt : L < s.heap.objs.size := F.ns.lt
  have fresh₀ : ∀ a, s.heap.objs.size ≤ a → h₀.get? a = none := fun a ha => by
    cases q : h₀.get? a with
    | none => rfl
    | some o' => exact absurd (Heap.lt_size (F.keep a o' q)) (Nat.not_lt.mpr ha)
  refine ⟨_, _, l, vs.toArray, _, news, rfl, hh, F', fun p hp => ⟨hk _ _ (N p hp).1, (N p hp).2⟩, hE, hI, hl, rfl, n1, n2, n3, ?_, ?_, (N _ hm).2.1, fresh₀ _ (Nat.le_succ _), fresh₀ _ (Nat.le_refl _), fun p hp => ?_, T, fin⟩
  · exact Nat.ne_of_lt (Nat.lt_succ_of_lt hLlt)
  · exact Nat.ne_of_lt hLlt
  · have := Heap.lt_size (N p hp).1
    exact ⟨Nat.ne_of_lt (Nat.lt_succ_of_lt this), Nat.ne_of_lt this⟩
end
end
section
open PySem PySem.W PyProof.Rows PySem.Spec PySem.Calls
set_option maxRecDepth 100000
set_option maxHeartbeats 40000000
set_option linter.unusedVariables false
theorem fresh_W21 : True := by
  w_top off
  trivial
open PySem PySem.W PyProof.Rows PySem.Spec PySem.Calls
set_option maxRecDepth 100000
set_option maxHeartbeats 40000000
set_option linter.unusedVariables false
section
variable {M : Model} {A : Around} {E : Value → Shared → Prop} {s : Shared} {env : Env}
theorem spliced_risky {x : Sem Value} {rest : List (Bool × Sem Value)} {Q : List Value → Shared → Prop} (h : wpC M A x (fun v s₁ => wpC M A (spliced rest) (fun vs s₂ => Q (v :: vs) s₂) E s₁) E s) : wpC M A (spliced ((false, x) :: rest)) Q E s := by
  rw [spliced]
  refine wpC_bind (wpC_mono h (fun v s₁ k => ?_) fun _ _ y => y)
  simp only [Bool.false_eq_true, if_false]
  exact wpC_bindA (wpAny_pure (wpC_bind (wpC_holding (wpC_mono k (fun vs s₂ y => wpC_pure y) fun _ _ y => y))))
/-- a pair whose first part is risky -/
theorem wpC_PairR {a b : Expr} {k : Nat} {pos : Pos} {Q : Value → Shared → Prop} (h : wpC M A (eval a env) (fun v s₁ => wpAny M A (eval b env) (fun u s₂ => wpAny M A (newTuple [v, u]) Q E s₂) E s₁) E s)
    (hs : backTo pos (starEach [a, b] env) = [(false, eval a env), (false, eval b env)] := by rfl) : wpC M A (eval (.Tuple [a, b] k pos) env) Q E s := by
  show wpC M A (do standAt pos; newTuple (← spliced (backTo pos (starEach [a, b] env)))) Q E s
  rw [hs]
  refine wpC_bindA (wpAny_standAt (wpC_bind (spliced_risky (wpC_mono h (fun v s₁ y => spliced_last (wpC_any (wpAny_mono y (fun u s₂ z => wpC_any z) fun _ _ z => z))) fun _ _ y => y))))
theorem wpC_AssignT {elts k tpos value pos} {Q : Flow → Shared → Prop}
    (h : wpC M A (eval value env) (fun v s₁ => wpAny M A (assign (.Tuple elts k tpos) env v) (fun _ => Q .next) E s₁) E s)
    (hs : swapsWithSole [.Tuple elts k tpos] value pos.line env = pure false := by rfl)
    (hw : swappedStores [.Tuple elts k tpos] value env = pure none := by rfl) :
    wpC M A (exec (.Assign [.Tuple elts k tpos] value pos) env) Q E s := by
  rw [exec_Assign]
  refine wpC_bindA (wpAny_standAt ?_)
  rw [hs]
  refine wpC_bindA (wpAny_pure ?_)
  rw [if_neg (by decide)]
  refine wpC_bind (wpC_mono h (fun v s₁ h₁ => ?_) fun _ _ x => x)
  rw [hw]
  refine wpC_bindA (wpAny_pure ?_)
  show wpC M A (do assignAll v [assign (.Tuple elts k tpos) env]; pure .next) Q E s₁
  exact wpC_any (wpAny_bind (wpAny_mono h₁ (fun _ _ x => wpAny_pure x) fun _ _ x => x))
theorem wpC_AssignTS {elts k tpos value pos} {names : List Str} {Q : Flow → Shared → Prop}
    (h : wpC M A (eval value env) (fun v s₁ => wpAny M A (unpackItems v names.length none) (fun items s₂ =>
      wpAny M A (assignInOrder (names.reverse.map fun n => bindName env n) items.reverse) (fun _ => Q .next) E s₂) E s₁) E s)
    (hs : swapsWithSole [.Tuple elts k tpos] value pos.line env = pure false := by rfl)
    (hw : swappedStores [.Tuple elts k tpos] value env = pure (some names) := by rfl) :
    wpC M A (exec (.Assign [.Tuple elts k tpos] value pos) env) Q E s := by
  rw [exec_Assign]
  refine wpC_bindA (wpAny_standAt ?_)
  rw [hs]
  refine wpC_bindA (wpAny_pure ?_)
  rw [if_neg (by decide)]
  refine wpC_bind (wpC_mono h (fun v s₁ h₁ => ?_) fun _ _ x => x)
  rw [hw]
  refine wpC_bindA (wpAny_pure ?_)
  show wpC M A (do rule "assign.swapped-stores"; let items ← unpackItems v names.length none; assignInOrder (names.reverse.map fun n => bindName env n) items.reverse; pure .next) Q E s₁
  exact wpC_any (wpAny_bind (wpAny_rule (wpAny_bind (wpAny_mono h₁ (fun items s₂ h₂ => wpAny_bind (wpAny_mono h₂ (fun _ _ x => wpAny_pure x) fun _ _ x => x)) fun _ _ x => x))))
end
section
variable {prog : Program} {w : World} {A : Around} {h₀ : Heap} {L : Addr} {m : Str → Option Value} {env : Env} {elt : Expr} {x : Str} {scope : Scope} {cl : List (Str × Addr)} {s : Shared} {S : List (Addr × Obj) → Prop} {P : Nat → Value → Prop} {Fin : List Value → List (Addr × Obj) → Prop} {news : List (Addr × Obj)}
/-- the turns of a comprehension by an invariant over the turn's number, what is made, and the ledger -/
theorem compRest_inv {n : Nat} (J : Nat → List Value → List (Addr × Obj) → Prop) (h0 : J 0 [] news)
    (turn : ∀ i v I oI C oC D m₂ ys nw h tk (E' : Value → Shared → Prop), i < n → P i v → J i ys nw → LCg.NsObj oC m₂ → m₂ x = some v → Fr h₀ L h m → News h₀ L h ((I, oI) :: (C, oC) :: (D, LCg.lst ys) :: nw) → LCg.Off3 I C D nw → ((@Ne Nat I C) ∧ (@Ne Nat I D) ∧ (@Ne Nat C D)) →
      wpAny (model prog w) A (eval elt (compEnvC scope cl C env)) (LCg.CompEnd h₀ L m { s with heap := h, toks := tk } I oI C oC D (LCg.lst ys) S (fun y nw' => J (i + 1) (ys ++ [y]) nw')) E' { s with heap := h, toks := tk })
    (fin : ∀ ys nw, J n ys nw → Fin ys nw) : LCg.CompRest prog w A h₀ L m env elt x scope cl s S P Fin n 0 [] news := by
  have key : ∀ (j i : Nat) (ys : List Value) nw, i + j = n → J i ys nw → LCg.CompRest prog w A h₀ L m env elt x scope cl s S P Fin j i ys nw := by
    intro j
    induction j with
    | zero =>
      intro i ys nw hi hJ
      obtain rfl : i = n := by omega
      exact LCg.CompRest.zero (fin ys nw hJ)
    | succ j ih =>
      intro i ys nw hi hJ
      refine LCg.CompRest.succ fun v I oI C oC D m₂ h tk E' hv hC hx F N off ne => ?_
      refine wpAny_mono (turn i v I oI C oC D m₂ ys nw h tk E' (by omega) hv hJ hC hx F N off ne) (fun y s₂ hq => ?_) fun _ _ e => e
      obtain ⟨h', tk', nw', e, F', N', off', hS, hJ'⟩ := hq
      exact ⟨h', tk', nw', e, F', N', off', hS, ih (i + 1) _ nw' (by omega) hJ'⟩
  exact key n 0 [] news (by omega) h0
theorem compSrcH {r : Addr} {a b : Int} {t u v : Tok} {n : Nat} {s₁ : Shared} {Fin' : Shared → List Value → List (Addr × Obj) → Prop}
    (hh : A.handled = none) (F : Fr h₀ L s₁.heap m) (N : News h₀ L s₁.heap news) (hr : IsRange s₁.heap r a b 1 t u v) (hsm : Builtin.Range.small a b 1 = true) (hn : Builtin.Range.rangeSize a b 1 = ((n : Nat) : Int)) (hsz : n ≤ sizeLine)
    (h : Halt (∀ g, LCg.CompRest prog w A h₀ L m env elt x scope cl { s₁ with heap := g } (fun _ => True) (fun i v => ∃ t, v = .int (a + (i : Int)) t) (Fin' { s₁ with heap := g }) n 0 [] news)) :
    LCg.CompSrc prog w A h₀ L m env elt x scope cl Fin' (.ref r) s₁ := LCg.CompSrc.range hh F N hr hsm hn hsz h
end
end
section
open PySem PySem.W PyProof.Rows PySem.Spec PySem.Calls
set_option maxRecDepth 100000
set_option maxHeartbeats 40000000
set_option linter.unusedVariables false
theorem fresh_W22 : True := by
  w_top off
  trivial
open PySem PySem.W PyProof.Rows PySem.Spec PySem.Calls
set_option maxRecDepth 100000
set_option maxHeartbeats 40000000
set_option linter.unusedVariables false
section
variable {prog : Program} {w : World} {A₀ : Around} {E : Value → Shared → Prop} {s' : Shared} {base g G : Heap} {outer : List Env} {L e : Addr} {m mg mb : Str → Option Value} {env env₀ : Env} {cls c : Value} {news : List (Addr × Obj)} {KF : Frag} {p : Program} {loose : List Str} {mean : ExcName → Option Value} {x : Str} {np pos : Pos} {Q : Flow → Shared → Prop} {b₀ : Stmt} {suite : List Stmt} {rest : List ExceptHandler}
theorem turn_ground {B h₅ : Heap} (hf : env.frame = some L) (K : Below A₀ base outer g) (F : Fr g L G m) (hBG : ∀ b o, G.get? b = some o → b ∉ (env :: outer).filterMap (·.frame) → B.get? b = some o) (hBh : B.StaysIn h₅) (hsm : G.UpToSlots h₅) :
    ∃ g', KtsTurn (outer.filterMap (·.frame)) g g' ∧ Fr g' L h₅ m ∧ Below A₀ base outer g' := by
  have sc : Scope := default
  have cdv : Value := default
  have hfr : (envOf (Str.ofString "") sc L 0 cdv :: outer).filterMap (·.frame) = (env :: outer).filterMap (·.frame) := by rw [frames_of hf, frames_of (env := envOf (Str.ofString "") sc L 0 cdv) rfl]
  exact kts_ground (name := Str.ofString "") (scope := sc) (a := 0) (cd := cdv) K F (by rw [hfr]; exact hBG) hBh hsm
/-- an exception of an own class is caught in a frame of any kind, by a suite that does not raise -/
theorem caught_X (hf : env.frame = some L) (R : RaisedSN base G (env₀ :: outer) e cls news s'.heap) (hf0 : env₀.frame = some L) (hk : env.scope.kind = .function) (hg : env.globals = mainGlobals)
    (F : Fr g L G m) (K : Below A₀ base outer g) (hsm : G.UpToSlots s'.heap) (XB : KF.In base) (TB : Top p loose mean mg mb base) (D : KtsDicts (outer.filterMap (·.frame)) g)
    (hc : nsIn KF mainGlobals x = some (some c)) (he : exmOne KF cls c = some true) (hx : env.kindOf x = some .globalImplicit) (hd : (x == ("__debug__" : Str)) = false)
    (k : ∀ h' g', KtsTurn (outer.filterMap (·.frame)) g g' → Fr g' L h' m → News g' L h' news → Below A₀ base outer g' → KF.In g' → Top p loose mean mg mb g' → KtsDicts (outer.filterMap (·.frame)) g' →
      wpAny (model prog w) ((A₀.deeper env).mark (some (.ref e))) (execs (b₀ :: suite) env) Q (fun _ _ => False) { s' with heap := h' }) :
    wpAny (model prog w) (A₀.deeper env) (noteFrame (.ref e) env)
      (fun _ s₂ => wpAny (model prog w) (A₀.deeper env) (setFlight (.ref e) none) (fun _ s₃ =>
        wpAny (model prog w) (A₀.deeper env) (handleBy (.ref e) env (.ExceptHandler (some (.Name x np)) none (b₀ :: suite) pos :: rest)) Q E s₃) E s₂) E s' := by
  have hfm : (env :: outer).filterMap (·.frame) = (env₀ :: outer).filterMap (·.frame) := by rw [frames_of hf, frames_of hf0]
  obtain ⟨B, a0, hB, hBG, hl, hfl⟩ := R
  have hff : s'.heap.FunFrames B (env :: outer) := by
    obtain ⟨_, ⟨L', o, h1, h2, h3, h4⟩, h5⟩ := hfl.2.2.1
    obtain rfl : L = L' := by rw [hf0] at h1; exact Option.some.inj h1
    exact ⟨(by rw [hk]; intro q; cases q), ⟨L, o, hf, h2, h3, h4⟩, h5⟩
  refine wpAny_looks_onW (Around.frames_deeper K.stack) hf ⟨hfl.1, hfl.2.1, hff, hfl.2.2.2⟩ fun h₄ hheld₄ hsm₄ => ?_
  refine wpAny_landsW hheld₄ fun h₅ hheld₅ hsm₅' => ?_
  have hsm5 : G.UpToSlots h₅ := hsm.trans (hsm₄.trans hsm₅')
  have R5 : RaisedSN base G (env :: outer) e cls news h₅ := ⟨B, a0, hB, by rw [hfm]; exact hBG, hl, hheld₅⟩
  obtain ⟨g₅, T₅, F₅, K₅⟩ := turn_ground hf K F (by rw [hfm]; exact hBG) hheld₅.1 hsm5
  refine wpAny_handleBy_cons (codeAny_handlers_test ?_) (by intro q; cases q)
  refine Name_function_global hk hx (loadGlobal_global (hg ▸ ((TB.keeps K₅.stays).keeps F₅.keep).g) (mg_of (XB.keeps K₅.stays) (TB.keeps K₅.stays).g hc) ?_) hd
  refine (exm_one ((XB.keeps K₅.stays).keeps F₅.keep) R5.ty he).here ?_
  simp only [if_true]
  refine codeAny_handlers_suite ?_
  refine lands_againW hheld₅ fun h₆ hfl₆ hsm₆ => ?_
  obtain ⟨g₆, T₆, F₆, K₆⟩ := turn_ground hf K F (by rw [hfm]; exact hBG) hfl₆.1 (hsm5.trans hsm₆)
  have hL : B.get? L = none := by
    obtain ⟨_, ⟨L', _, hf', hn', _⟩, _⟩ := hheld₅.2.2.1
    obtain rfl : L = L' := by rw [hf] at hf'; exact Option.some.inj hf'
    exact hn'
  have Nl : News g₆ L h₆ news := fun q hq => ⟨hfl₆.1 _ _ (hl q hq).1, (fun z => by have := (hl q hq).1; rw [z, hL] at this; cases this), T₆.none_ _ (kts_none F.keep (hl q hq).2.1)⟩
  exact wpAny_mono (k h₆ g₆ T₆ F₆ Nl K₆ (XB.keeps K₆.stays) (TB.keeps K₆.stays) (D.turn T₆)) (fun _ _ y => y) fun _ _ y => y.elim
end
end
section
open PySem
set_option linter.unusedVariables false
theorem fresh_M2 : True := by
  w_top off
  trivial
open PySem
set_option linter.unusedVariables false
/-- what a part reads as -/
inductive RV
  | num (n : Int)
  | txt (l : List UInt8)
def RV.Is : RV → Value → Prop
  | .num n, v => ∃ t, v = .int n t
  | .txt l, v => ∃ t, v = .bytes l.toArray t
/-- the names of the kinds -/
def kindS : Nat → Str
  | 0 => Str.ofString "number"
  | 1 => Str.ofString "cut"
  | _ => Str.ofString "text"
/-- a number of variable length -/
def readNum (d : List UInt8) (a : Int) : Option (Int × Int) :=
  match d[a.toNat]? with
  | none => none
  | some c => if a + szOf c ≤ d.length then some (beI ((d.drop a.toNat).take (szOf c).toNat) % 2 ^ (8 * szOf c - 2).toNat, a + szOf c) else none
/-- one part -/
def readOne (d : List UInt8) (a : Int) (k : Nat × Int) : Option (RV × Int) :=
  if k.1 = 0 then (readNum d a).map fun p => (.num p.1, p.2)
  else if k.1 = 1 then (if a + k.2 ≤ d.length then some (.num (beI ((d.drop a.toNat).take k.2.toNat)), a + k.2) else none)
  else match readNum d a with
    | none => none
    | some p => if p.1 ≤ (d.length : Int) - p.2 then some (.txt ((d.drop p.2.toNat).take p.1.toNat), p.2 + p.1) else none
/-- all the parts, up to the first that is not there; the place behind them, where all are there -/
def readAll (d : List UInt8) : Int → List (Nat × Int) → List RV × Option Int
  | a, [] => ([], some a)
  | a, k :: ks => match readOne d a k with
    | none => ([], none)
    | some p => let r := readAll d p.2 ks; (p.1 :: r.1, r.2)
/-- values as they read -/
inductive AllIs : List RV → List Value → Prop
  | nil : AllIs [] []
  | cons {r : RV} {v : Value} {rs : List RV} {vs : List Value} (h : r.Is v) (t : AllIs rs vs) : AllIs (r :: rs) (v :: vs)
theorem AllIs.append {a b : List RV} {u v : List Value} (x : AllIs a u) (y : AllIs b v) : AllIs (a ++ b) (u ++ v) := by
  induction x with
  | nil => exact y
  | cons h t ih => exact .cons h ih
theorem AllIs.one {r : RV} {v : Value} (h : r.Is v) : AllIs [r] [v] := .cons h .nil
theorem AllIs.length {a : List RV} {u : List Value} (x : AllIs a u) : a.length = u.length := by
  induction x with
  | nil => rfl
  | cons h t ih => simp [ih]
theorem readNum_none {d : List UInt8} {a : Int} (h : ∀ c, d[a.toNat]? = some c → (d.length : Int) < a + szOf c) : readNum d a = none := by
  unfold readNum
  split
  · rfl
  · rename_i c hc
    rw [if_neg (by have := h c hc; omega)]
theorem readNum_some {d : List UInt8} {a : Int} {c : UInt8} (hc : d[a.toNat]? = some c) (h : a + szOf c ≤ d.length) :
    readNum d a = some (beI ((d.drop a.toNat).take (szOf c).toNat) % 2 ^ (8 * szOf c - 2).toNat, a + szOf c) := by
  unfold readNum
  rw [hc]
  simp only [if_pos h]
theorem readAll_none {d : List UInt8} {a : Int} {k : Nat × Int} {ks : List (Nat × Int)} (h : readOne d a k = none) : readAll d a (k :: ks) = ([], none) := by
  simp only [readAll, h]
theorem readAll_some {d : List UInt8} {a : Int} {k : Nat × Int} {ks : List (Nat × Int)} {p : RV × Int} (h : readOne d a k = some p) : readAll d a (k :: ks) = (p.1 :: (readAll d p.2 ks).1, (readAll d p.2 ks).2) := by
  simp only [readAll, h]
theorem one_num_none {d : List UInt8} {a z : Int} (h : ∀ c, d[a.toNat]? = some c → (d.length : Int) < a + szOf c) : readOne d a (0, z) = none := by
  unfold readOne; rw [readNum_none h]; rfl
theorem one_num_some {d : List UInt8} {a z : Int} {c : UInt8} (hc : d[a.toNat]? = some c) (h : a + szOf c ≤ d.length) :
    readOne d a (0, z) = some (.num (beI ((d.drop a.toNat).take (szOf c).toNat) % 2 ^ (8 * szOf c - 2).toNat), a + szOf c) := by
  unfold readOne; rw [readNum_some hc h]; rfl
theorem one_cut_none {d : List UInt8} {a z : Int} (h : (d.length : Int) < a + z) : readOne d a (1, z) = none := by
  have h' : ¬ a + z ≤ (d.length : Int) := by omega
  show (if a + z ≤ (d.length : Int) then _ else none) = none
  rw [if_neg h']
theorem one_cut_some {d : List UInt8} {a z : Int} (h : a + z ≤ (d.length : Int)) : readOne d a (1, z) = some (.num (beI ((d.drop a.toNat).take z.toNat)), a + z) := by
  show (if a + z ≤ (d.length : Int) then _ else none) = _
  rw [if_pos h]
theorem one_txt_none {d : List UInt8} {a z : Int} (h : ∀ c, d[a.toNat]? = some c → (d.length : Int) < a + szOf c) : readOne d a (2, z) = none := by
  show (match readNum d a with | none => none | some p => if p.1 ≤ (d.length : Int) - p.2 then some (RV.txt ((d.drop p.2.toNat).take p.1.toNat), p.2 + p.1) else none) = none
  rw [readNum_none h]
theorem one_txt_none' {d : List UInt8} {a z : Int} {c : UInt8} (hc : d[a.toNat]? = some c) (h : a + szOf c ≤ d.length)
    (h2 : (d.length : Int) - (a + szOf c) < beI ((d.drop a.toNat).take (szOf c).toNat) % 2 ^ (8 * szOf c - 2).toNat) : readOne d a (2, z) = none := by
  show (match readNum d a with | none => none | some p => if p.1 ≤ (d.length : Int) - p.2 then some (RV.txt ((d.drop p.2.toNat).take p.1.toNat), p.2 + p.1) else none) = none
  rw [readNum_some hc h]
  exact if_neg (by simp only []; omega)
theorem one_txt_some {d : List UInt8} {a z : Int} {c : UInt8} (hc : d[a.toNat]? = some c) (h : a + szOf c ≤ d.length)
    (h2 : beI ((d.drop a.toNat).take (szOf c).toNat) % 2 ^ (8 * szOf c - 2).toNat ≤ (d.length : Int) - (a + szOf c)) :
    readOne d a (2, z) = some (.txt ((d.drop (a + szOf c).toNat).take (beI ((d.drop a.toNat).take (szOf c).toNat) % 2 ^ (8 * szOf c - 2).toNat).toNat), a + szOf c + beI ((d.drop a.toNat).take (szOf c).toNat) % 2 ^ (8 * szOf c - 2).toNat) := by
  show (match readNum d a with | none => none | some p => if p.1 ≤ (d.length : Int) - p.2 then some (RV.txt ((d.drop p.2.toNat).take p.1.toNat), p.2 + p.1) else none) = _
  rw [readNum_some hc h]
  exact if_pos h2
end
section
open PySem PySem.W PyProof.Rows PySem.Spec PySem.Calls LCg
set_option maxRecDepth 100000
set_option maxHeartbeats 40000000
set_option linter.unusedVariables false
theorem fresh_W23 : True := by
  w_top off
  trivial
open PySem PySem.W PyProof.Rows PySem.Spec PySem.Calls LCg
set_option maxRecDepth 100000
set_option maxHeartbeats 40000000
set_option linter.unusedVariables false
section
variable {prog : Program} {w : World} {A : Around} {E : Value → Shared → Prop} {s : Shared} {h₀ : Heap} {L : Addr} {m : Str → Option Value} {env : Env}
/-- the source of a comprehension whose element is risky: a range -/
def SrcC (prog : Program) (w : World) (A : Around) (h₀ : Heap) (L : Addr) (m : Str → Option Value) (env : Env) (elt : Expr) (x y : Str) (scope : Scope) (cl : List (Str × Addr)) (Q : Flow → Shared → Prop) (xv : Value) (s₁ : Shared) : Prop :=
  ∃ (r : Addr) (a b : Int) (t u v : Tok) (n : Nat) (news : List (Addr × Obj)) (J : Nat → List Value → List (Addr × Obj) → Prop), xv = .ref r ∧ A.handled = none ∧ Fr h₀ L s₁.heap m ∧ News h₀ L s₁.heap news ∧ IsRange s₁.heap r a b 1 t u v ∧ Builtin.Range.small a b 1 = true ∧
    Builtin.Range.rangeSize a b 1 = ((n : Nat) : Int) ∧ n ≤ sizeLine ∧ J 0 [] news ∧
    (∀ i t I oI C oC D m₂ ys nw h tk (E' : Value → Shared → Prop), i < n → J i ys nw → NsObj oC m₂ → m₂ x = some (.int (a + (i : Int)) t) → Fr h₀ L h m → News h₀ L h ((I, oI) :: (C, oC) :: (D, lst ys) :: nw) → Off3 I C D nw → ((@Ne Nat I C) ∧ (@Ne Nat I D) ∧ (@Ne Nat C D)) →
      wpC (model prog w) A (eval elt (compEnvC scope cl C env)) (CompEnd h₀ L m { s₁ with heap := h, toks := tk } I oI C oC D (lst ys) (fun _ => True) (fun y nw' => J (i + 1) (ys ++ [y]) nw')) E' { s₁ with heap := h, toks := tk }) ∧
    (∀ D h tk ys nw, J n ys nw → Fr h₀ L h (fun z => if z = y then some (.ref D) else m z) → News h₀ L h ((D, lst ys) :: nw) → Off1 D nw → Q .next { s₁ with heap := h, toks := tk })
/-- the block of a comprehension whose element is risky -/
theorem block_C {elt iter : Expr} {x : Str} {px : Pos} {scope : Scope} {cl : List (Str × Addr)} {pos : Pos} {s₂ : Shared} {I : Addr} {n : Nat} {P : Nat → Value → Prop} {St : Nat → Heap → Prop} {news : List (Addr × Obj)}
    {RR : Value → Addr → Result → Shared → Prop} (J : Nat → List Value → List (Addr × Obj) → Prop)
    (W : Walks prog w A I [I] [I] n P St) (hsz : n ≤ sizeLine) (hIo : ∀ i h, St i h → ∃ o, h.get? I = some o) (hSt : ∀ i h h' o, St i h → h.get? I = some o → h'.get? I = some o → St i h')
    (hcell : ∀ y ∈ scope.names, y.2 ≠ .cell) (hkind : scope.kind = .function) (hx : scope.names.lookup x = some .local) (hst : St 0 s₂.heap) (hIlt : I < s₂.heap.objs.size)
    (F : Fr h₀ L s₂.heap m) (N : News h₀ L s₂.heap news) (hIL : L ≠ I) (hI₀ : h₀.get? I = none) (off : ∀ p ∈ news, p.1 ≠ I) (hJ0 : J 0 [] news)
    (turn : ∀ i v I oI C oC D m₂ ys nw h tk (E' : Value → Shared → Prop), i < n → P i v → J i ys nw → NsObj oC m₂ → m₂ x = some v → Fr h₀ L h m → News h₀ L h ((I, oI) :: (C, oC) :: (D, lst ys) :: nw) → Off3 I C D nw → ((@Ne Nat I C) ∧ (@Ne Nat I D) ∧ (@Ne Nat C D)) →
      wpC (model prog w) A (eval elt (compEnvC scope cl C env)) (CompEnd h₀ L m { s₂ with heap := h, toks := tk } I oI C oC D (lst ys) (fun _ => True) (fun y nw' => J (i + 1) (ys ++ [y]) nw')) E' { s₂ with heap := h, toks := tk })
    (hRR : ∀ D C h tk m' ys news', Fr h₀ L h m → News h₀ L h ((D, lst ys) :: news') → Off1 D news' → h.Ns C m' → h₀.get? C = none → h₀.get? D = none → C ≠ L → D ≠ L → C ≠ D → (∀ p ∈ news', p.1 ≠ C) → J n ys news' → RR (.ref D) C (.ok .next) { s₂ with heap := h, toks := tk }) :
    wpAny (model prog w) A (newList []) (fun acc s₃ => wpAny (model prog w) A (newFunctionEnv scope env.globals cl [] env.qual none .none (some env)) (fun cenv s₄ =>
      codeC (model prog w) A (.compStart (.ListComp elt [⟨.Name x px, iter, [], 0⟩] scope pos) 0 (.ref I) acc { cenv with scope := relabel scope env }) (RR acc cenv.locals) s₄) E s₃) E s₂ := by
  refine wpAny_newObj_type (wpAny_newFunctionEnv hcell (by intro y hy; simp at hy) (fun h₁ hns₁ hsb₁ => ?_) hkind)
  dsimp only at hns₁ hsb₁ ⊢
  generalize hH2 : s₂.heap.push { cls := .type "list", dict := none, data := .seq ([] : List Value).toArray } = H2 at hns₁ hsb₁ ⊢
  have hC : H2.objs.size = s₂.heap.objs.size + 1 := by rw [← hH2, Heap.size_push]
  have hDC : s₂.heap.objs.size ≠ H2.objs.size := by rw [hC]; exact Nat.ne_of_lt (Nat.lt_succ_self _)
  have below : ∀ b, b < s₂.heap.objs.size → b ≠ H2.objs.size ∧ b ≠ s₂.heap.objs.size := fun b hb => ⟨by rw [hC]; exact Nat.ne_of_lt (Nat.lt_succ_of_lt hb), Nat.ne_of_lt hb⟩
  have old : ∀ b o, s₂.heap.get? b = some o → h₁.get? b = some o := fun b o e => hsb₁.extBut b o (below b (Heap.lt_size e)).1 (Heap.get?_push_of_some _ (hH2 ▸ Heap.get?_push_of_some _ e))
  have hacc : h₁.get? s₂.heap.objs.size = some (lst []) := hsb₁.extBut _ _ hDC (Heap.get?_push_of_some _ (hH2 ▸ Heap.get?_push_size _ rfl))
  have hst₁ : St 0 h₁ := W.frame _ _ _ hst fun b _ o e => old b o e
  have fresh₀ : ∀ a, s₂.heap.objs.size ≤ a → h₀.get? a = none := fun a ha => by
    cases q : h₀.get? a with
    | none => rfl
    | some o' => exact absurd (Heap.lt_size (F.keep a o' q)) (Nat.not_lt.mpr ha)
  have hD₀ : h₀.get? s₂.heap.objs.size = none := fresh₀ _ (Nat.le_refl _)
  have hC₀ : h₀.get? H2.objs.size = none := fresh₀ _ (by rw [hC]; exact Nat.le_succ _)
  have hLlt : L < s₂.heap.objs.size := F.ns.lt
  have hDL : s₂.heap.objs.size ≠ L := Ne.symm (below L hLlt).2
  have hCL : H2.objs.size ≠ L := Ne.symm (below L hLlt).1
  have hCI : I ≠ H2.objs.size := (below I hIlt).1
  have hDI : I ≠ s₂.heap.objs.size := (below I hIlt).2
  have off₀ : Off3 I H2.objs.size s₂.heap.objs.size news := Off3.of fun p hp => ⟨off p hp, (below _ (Heap.lt_size (N p hp).1)).1, (below _ (Heap.lt_size (N p hp).1)).2⟩
  have hnotI : ∀ b, b ≠ I → b ∉ [I] := fun b hb hm => hb (List.mem_singleton.mp hm)
  have loop : ∀ s₃ : Shared, s₃ = { s₂ with heap := h₁, toks := s₂.toks + ([] : List (Str × Value)).length } →
      codeC (model prog w) A (.compLoop (.ListComp elt [⟨.Name x px, iter, [], 0⟩] scope pos) 0 (.ref I) (.ref s₂.heap.objs.size) (compEnvC scope cl H2.objs.size env))
        (RR (.ref s₂.heap.objs.size) H2.objs.size) s₃ := by
    rintro s₃ rfl
    refine codeC_compLoop
      (fun k s' => ∃ h' tk i ys m' news', s' = { s₂ with heap := h', toks := tk } ∧ i ≤ n ∧ k = n + 1 - i ∧ ys.length = i ∧ St i h' ∧ Fr h₀ L h' m ∧ h'.Ns H2.objs.size m' ∧ News h₀ L h' ((s₂.heap.objs.size, lst ys) :: news') ∧
        Off3 I H2.objs.size s₂.heap.objs.size news' ∧ J i ys news') ?_ (n + 1)
      ⟨h₁, _, 0, [], _, news, rfl, Nat.zero_le _, rfl, rfl, hst₁, F.keeps old, hns₁, fun p hp => ?_, off₀, hJ0⟩
    · rintro k s' jj
      refine hide fun G hG => ?_
      obtain ⟨h', tk, i, ys, m', news', qe0, hi, qe1, hyl, hst', F', hn', N', off', hJ⟩ := jj
      refine hG ?_
      clear hG G
      subst qe0
      subst qe1
      have off3 := off'.mem
      by_cases hlt : i < n
      · refine W.item i _ _ _ hlt hst' fun v h₂ tk₂ hPv hst₂ hk₂ => ?_
        have N₂ : News h₀ L h₂ ((s₂.heap.objs.size, lst ys) :: news') := news_but N' hk₂ fun p hp => by
          rcases List.mem_cons.mp hp with rfl | hp
          · exact Ne.symm hDI
          · exact (off3 p hp).1
        refine wpAny_assign_Name (wpAny_storeName_local (lookup_relabel_local hx) (hn'.at' fun o e => hk₂ _ o (hnotI _ (Ne.symm hCI)) e) (fun h₃ hn₃ hs₃ => ?_) (by simp [compEnvC, relabel, hkind]))
        have hst₃ : St (i + 1) h₃ := W.frame _ _ _ hst₂ fun b hb o e => hs₃.extBut b o (fun q => hCI ((List.mem_singleton.mp hb).symm.trans q)) e
        obtain ⟨oI, heI⟩ := hIo _ _ hst₃
        obtain ⟨oC, heC, hoC⟩ := ns_obj hn₃
        have F₃ : Fr h₀ L h₃ m := (fr_but F' hk₂ hIL hI₀).change hs₃ hCL hC₀
        have N₃ : News h₀ L h₃ ((I, oI) :: (H2.objs.size, oC) :: (s₂.heap.objs.size, lst ys) :: news') := fun p hp => by
          rcases List.mem_cons.mp hp with rfl | hp
          · exact ⟨heI, Ne.symm hIL, hI₀⟩
          · rcases List.mem_cons.mp hp with rfl | hp
            · exact ⟨heC, hCL, hC₀⟩
            · have z := N₂ p hp
              refine ⟨hs₃.extBut _ _ ?_ z.1, z.2⟩
              rcases List.mem_cons.mp hp with rfl | hp
              · exact hDC
              · exact (off3 p hp).2.1
        refine wpC_mono (turn i v I oI H2.objs.size oC s₂.heap.objs.size _ ys news' h₃ _ _ hlt hPv hJ hoC (by simp) F₃ N₃ off' ⟨hCI, hDI, Ne.symm hDC⟩) (fun y s₄ h₄ => ?_) fun _ _ e => e
        obtain ⟨h₄, tk₄, news₄, rfl, F₄, N₄, off₄, _, hJ₄⟩ := h₄
        have zI := (N₄ (I, oI) List.mem_cons_self).1
        have zC := (N₄ (H2.objs.size, oC) (List.mem_cons_of_mem _ List.mem_cons_self)).1
        have zD := (N₄ (s₂.heap.objs.size, lst ys) (List.mem_cons_of_mem _ (List.mem_cons_of_mem _ List.mem_cons_self))).1
        have N₄' : News h₀ L h₄ news₄ := fun p hp => N₄ p (List.mem_cons_of_mem _ (List.mem_cons_of_mem _ (List.mem_cons_of_mem _ hp)))
        have hst₄ : St (i + 1) h₄ := hSt _ _ _ _ hst₃ heI zI
        have off4 := off₄.mem
        refine append_at (hsz := by show ys.toArray.size ≤ sizeLine; rw [List.size_toArray, hyl]; exact Nat.le_trans hi hsz) zD fun h₅ hs₅ hD₅ => ?_
        refine ⟨n + 1 - (i + 1), by omega, h₅, tk₄, i + 1, ys ++ [y], _, news₄, rfl, hlt, rfl, by rw [List.length_append, List.length_singleton, hyl], W.frame _ _ _ hst₄ fun b hb o e => hs₅.extBut b o (fun q => hDI ((List.mem_singleton.mp hb).symm.trans q)) e, F₄.change hs₅ hDL hD₀,
          (hoC.ns zC).sameBut hs₅ (Ne.symm hDC), fun p hp => ?_, off₄, hJ₄⟩
        rcases List.mem_cons.mp hp with rfl | hp
        · exact ⟨hD₅.trans (congrArg some (lst_snoc ys y)), hDL, hD₀⟩
        · exact ⟨hs₅.extBut _ _ (off4 p hp).2.2 (N₄' p hp).1, (N₄' p hp).2⟩
      · obtain rfl : i = n := Nat.le_antisymm hi (Nat.not_lt.mp hlt)
        refine W.done _ _ _ hst' fun h₂ tk₂ hk₂ => ?_
        exact hRR _ _ h₂ tk₂ _ ys news' (fr_but F' hk₂ hIL hI₀) (news_but N' hk₂ fun p hp => by
          rcases List.mem_cons.mp hp with rfl | hp
          · exact Ne.symm hDI
          · exact (off3 p hp).1) off'.one (hn'.at' fun o e => hk₂ _ o (hnotI _ (Ne.symm hCI)) e) hC₀ hD₀ hCL hDL (Ne.symm hDC) (fun p hp => (off3 p hp).2.1) hJ
    · rcases List.mem_cons.mp hp with rfl | hp
      · exact ⟨hacc, hDL, hD₀⟩
      · exact ⟨old _ _ (N p hp).1, (N p hp).2⟩
  exact codeC_compStart (loop _ rfl) (W.self 0 _ _ _ hst₁ (loop _ rfl))
theorem Assign_ListComp_C {elt iter : Expr} {x y : Str} {px py : Pos} {scope : Scope} {cl : List (Str × Addr)} {pos spos : Pos} {Q : Flow → Shared → Prop} (F₀ : Fr h₀ L s.heap m) (hLe : env.locals = L)
    (hsw : swapsWith (.ListComp elt [⟨.Name x px, iter, [], 0⟩] scope pos) (some (.Name y py)) spos.line env = pure true)
    (hclos : closureFor scope env = pure cl) (hcell : ∀ z ∈ scope.names, z.2 ≠ .cell) (hkind : scope.kind = .function)
    (hnames : ∀ z ∈ scope.names, z.2 = .local → scope.names.lookup z.1 = some .local) (hx : scope.names.lookup x = some .local)
    (hy : env.kindOf y = some .local) (hp : (env.scope.kind == .class || (env.scope.kind == .module && env.locals != env.globals)) = false)
    (h : wpAny (model prog w) A (eval iter env) (SrcC prog w A h₀ L m env elt x y scope cl Q) E s)
    (hs : ∀ x, foldedSetIterable iter env x = pure x := by intro _; rfl) :
    wpC (model prog w) A (exec (.Assign [.Name y py] (.ListComp elt [⟨.Name x px, iter, [], 0⟩] scope pos) spos) env) Q E s := by
  subst hLe
  rw [exec_Assign_Name_used _ _ _ _ hsw]
  refine wpC_bindA (wpAny_standAt (wpC_bind ?_))
  show wpC _ A (do let _ ← comprehension (.ListComp elt [⟨.Name x px, iter, [], 0⟩] scope pos) scope env _ (newList []) false (eval iter env) (some (assign (.Name y py) env))) _ _ s
  refine wpC_bind (wpC_mono (wpC_comprehension (use := some (assign (.Name y py) env)) (Q := fun _ s' => Q .next s') rfl hs hclos hkind hnames
    (wpAny_mono h (fun xv s₁ h₁ => ?_) fun _ _ e => e)) (fun _ s' hq => wpC_pure (wpC_pure hq)) fun _ _ e => e)
  refine hide fun G hG => ?_
  obtain ⟨r, a, b, t, u, v, n, news, J, qe0, hh, F, N, hr, hsm, hn, hsz, hJ0, turn, fin⟩ := h₁
  refine hG ?_
  clear hG G
  subst qe0
  refine wpAny_pyIter_range hr hsm ?_
  have W := range_walks (prog := prog) (w := w) (I := s₁.heap.objs.size) hh a n
  refine block_C (s₂ := { s₁ with heap := s₁.heap.push { cls := .type "range_iterator", data := .fields #[rawInt a, rawInt (Builtin.Range.rangeSize a b 1), rawInt 1] } }) J W hsz (fun i h st => ⟨_, st⟩) (fun i h h' o st e e' => ?_) hcell hkind hx (by show IsRangeIter _ _ _ _ _; rw [hn]; simpa using Heap.get?_push_size _ rfl) (by show s₁.heap.objs.size < (s₁.heap.push _).objs.size; rw [Heap.size_push]; exact Nat.lt_succ_self _)
    (F.keeps fun _ _ e => Heap.get?_push_of_some _ e) (N.grown fun _ _ e => Heap.get?_push_of_some _ e) (Nat.ne_of_lt F.ns.lt) (next_is_new F) (fun p hp => Nat.ne_of_lt (Heap.lt_size (N p hp).1)) hJ0 ?_ ?_
  · have st' : h.get? _ = some _ := st
    show h'.get? _ = some _
    rw [e', ← e]; exact st'
  · rintro i v I oI C oC D m₂ ys nw h tk E' hi ⟨t, rfl⟩ hJ hC hm F' N' o ne
    exact turn i t I oI C oC D m₂ ys nw h tk E' hi hJ hC hm F' N' o ne
  · intro D C h' tk m' ys news' F' N' o1 hn hC₀ hD₀ hCL hDL hCD offC hJ
    show wpAny _ A (assign (.Name y py) env (.ref D)) _ _ _
    refine wpAny_assign_Name (wpAny_storeName_local hy F'.ns (fun h₂ hn₂ hs₂ => ?_) hp)
    have hL₀ : h₀.get? env.locals = none := Heap.get?_none_of_le F'.above
    have F₂ : Fr h₀ env.locals h₂ (fun z => if z = y then some (.ref D) else m z) := ⟨hn₂, fun b o e => hs₂.extBut b o (fun q => by rw [q, hL₀] at e; cases e) (F'.keep b o e), F'.above⟩
    refine ⟨m', hn.sameBut hs₂ hCL, fun h'' hs'' => fin D h'' _ ys news' hJ (F₂.change hs'' hCL hC₀) (fun p hp => ?_) o1⟩
    have z : h₂.get? p.1 = some p.2 := hs₂.extBut _ _ (N' p hp).2.1 (N' p hp).1
    refine ⟨hs''.extBut _ _ ?_ z, (N' p hp).2⟩
    rcases List.mem_cons.mp hp with rfl | hp
    · exact Ne.symm hCD
    · exact offC p hp
end
end
section
open PySem PySem.W PyProof.Rows PySem.Spec PySem.Calls LCg LCp
set_option maxRecDepth 100000
set_option maxHeartbeats 40000000
set_option linter.unusedVariables false
theorem fresh_W24 : True := by
  w_top off
  trivial
open PySem PySem.W PyProof.Rows PySem.Spec PySem.Calls LCg LCp
set_option maxRecDepth 100000
set_option maxHeartbeats 40000000
set_option linter.unusedVariables false
section
variable {prog : Program} {w : World} {A : Around} {h₀ : Heap} {L : Addr} {m : Str → Option Value} {env : Env} {elt : Expr} {x x₂ : Str} {scope : Scope} {cl : List (Str × Addr)} {s : Shared} {S : List (Addr × Obj) → Prop} {P : Nat → Value → Prop} {Fin : List Value → List (Addr × Obj) → Prop} {news : List (Addr × Obj)}
/-- the turns of a comprehension over pairs by an invariant -/
theorem compRestP_inv {n : Nat} (J : Nat → List Value → List (Addr × Obj) → Prop) (h0 : J 0 [] news)
    (turn : ∀ i v ys nw, i < n → P i v → J i ys nw → ∃ (t : Addr) (ot : Obj) (v₁ v₂ : Value) (nt : Nat), v = .ref t ∧ (t, ot) ∈ nw ∧ ot.cls = .type "tuple" ∧ ot.data = .seq #[v₁, v₂] nt ∧
      ∀ I oI C oC D m₂ h tk (E' : Value → Shared → Prop), NsObj oC m₂ → m₂ x = some v₁ → m₂ x₂ = some v₂ → Fr h₀ L h m → News h₀ L h ((I, oI) :: (C, oC) :: (D, lst ys) :: nw) → Off3 I C D nw → ((@Ne Nat I C) ∧ (@Ne Nat I D) ∧ (@Ne Nat C D)) →
      wpAny (model prog w) A (eval elt (compEnvC scope cl C env)) (CompEnd h₀ L m { s with heap := h, toks := tk } I oI C oC D (lst ys) S (fun y nw' => J (i + 1) (ys ++ [y]) nw')) E' { s with heap := h, toks := tk })
    (fin : ∀ ys nw, J n ys nw → Fin ys nw) : CompRestP prog w A h₀ L m env elt x x₂ scope cl s S P Fin n 0 [] news := by
  have key : ∀ (j i : Nat) (ys : List Value) nw, i + j = n → J i ys nw → CompRestP prog w A h₀ L m env elt x x₂ scope cl s S P Fin j i ys nw := by
    intro j
    induction j with
    | zero =>
      intro i ys nw hi hJ
      obtain rfl : i = n := by omega
      exact CompRestP.zero (fin ys nw hJ)
    | succ j ih =>
      intro i ys nw hi hJ
      refine CompRestP.succ fun v hv => ?_
      obtain ⟨t, ot, v₁, v₂, nt, e1, e2, e3, e4, k⟩ := turn i v ys nw (by omega) hv hJ
      refine ⟨t, ot, v₁, v₂, nt, e1, e2, e3, e4, fun I oI C oC D m₂ h tk E' hC hx hx₂ F N off ne => ?_⟩
      refine wpAny_mono (k I oI C oC D m₂ h tk E' hC hx hx₂ F N off ne) (fun y s₂ hq => ?_) fun _ _ e => e
      obtain ⟨h', tk', nw', e, F', N', off', hS, hJ'⟩ := hq
      exact ⟨h', tk', nw', e, F', N', off', hS, ih (i + 1) _ nw' (by omega) hJ'⟩
  exact key n 0 [] news (by omega) h0
theorem srcLPH {ax : Addr} {its : Array Value} {k : Nat} {s₁ : Shared} {Fin' : Shared → List Value → List (Addr × Obj) → Prop}
    (hh : A.handled = none) (F : Fr h₀ L s₁.heap m) (N : News h₀ L s₁.heap news) (hm : (ax, ({ cls := .type "list", data := .seq its k } : Obj)) ∈ news) (hsz : its.size ≤ sizeLine)
    (h : Halt (∀ g, CompRestP prog w A h₀ L m env elt x x₂ scope cl { s₁ with heap := g } (SrcAt h₀ ax its) (fun i v => its[i]? = some v) (Fin' { s₁ with heap := g }) its.size 0 [] news)) :
    SrcLP prog w A h₀ L m env elt x x₂ scope cl Fin' (.ref ax) s₁ := SrcLP.ledger hh F N hm hsz h
end
end
section
open PySem PySem.W PyProof.Rows PySem.Spec PySem.Calls PySem.SeqAt
set_option maxRecDepth 100000
set_option maxHeartbeats 40000000
set_option linter.unusedVariables false
theorem fresh_W25 : True := by
  w_top off
  trivial
open PySem PySem.W PyProof.Rows PySem.Spec PySem.Calls PySem.SeqAt
set_option maxRecDepth 100000
set_option maxHeartbeats 40000000
set_option linter.unusedVariables false
section
variable {prog : Program} {w : World} {A : Around} {E : Value → Shared → Prop} {s : Shared}
theorem eqAt_bytes (l : Array UInt8) (t u : Tok) : EqAt A s (.bytes l t) (.bytes l u) true := fun prog w E Q h => by
  unfold eqBool
  refine wpAny_holding ?_
  refine wpAny_ite_split (fun _ => wpAny_bind (wpAny_rule (wpAny_pure h))) (fun _ => ?_)
  refine wpAny_bind ?_
  refine eq_bytes (t := t) (u := u) (b := l) (c := l) ?_
  rw [beq_self_eq_true]
  exact wpAny_truthy_bool h
theorem eqAt_is {r : RV} {v v' : Value} (h : r.Is v) (h' : r.Is v') : EqAt A s v v' true := by
  cases r with
  | num n =>
    obtain ⟨t, rfl⟩ := h
    obtain ⟨u, rfl⟩ := h'
    have := (MeetsSeq.EqGives.int n n t u).at A s
    rw [beq_self_eq_true] at this
    exact this
  | txt l =>
    obtain ⟨t, rfl⟩ := h
    obtain ⟨u, rfl⟩ := h'
    exact eqAt_bytes _ _ _
theorem AllIs.at {rs : List RV} {vs us : List Value} (h : AllIs rs vs) (h' : AllIs rs us) : ∀ (j : Nat) v v', vs[j]? = some v → us[j]? = some v' → ∃ r : RV, r.Is v ∧ r.Is v' := by
  induction h generalizing us with
  | nil => intro j v v' e; cases e
  | cons h t ih =>
    cases h' with
    | cons h1 t1 =>
      intro j v v' e e'
      cases j with
      | zero => cases e; cases e'; exact ⟨_, h, h1⟩
      | succ j => exact ih t1 j v v' e e'
theorem eqAts {rs : List RV} {vs us : List Value} (h : AllIs rs vs) (h' : AllIs rs us) : vs.toArray.size = us.toArray.size ∧ ∀ j (h1 : j < vs.toArray.size) (h2 : j < us.toArray.size), EqAt A s vs.toArray[j] us.toArray[j] true := by
  refine ⟨by simp only [List.size_toArray]; rw [← h.length, ← h'.length], fun j h1 h2 => ?_⟩
  have h1' : j < vs.length := by simpa using h1
  have h2' : j < us.length := by simpa using h2
  obtain ⟨r, a, b⟩ := h.at h' j vs[j] us[j] (List.getElem?_eq_getElem h1') (List.getElem?_eq_getElem h2')
  simp only [List.getElem_toArray]
  exact eqAt_is a b
theorem all_true (n : Nat) : (List.range n).all (fun _ => true) = true := by
  rw [List.all_eq_true]
  intro _ _
  rfl
theorem ne_same {a b : Addr} {vs us : List Value} {rs : List RV} {Q : Value → Shared → Prop} (hl : s.heap.IsList a vs.toArray) (hi : AllIs rs vs) (hl' : s.heap.IsList b us.toArray) (hi' : AllIs rs us) (hu : A.units + 64 < cLine) (h : Q (.bool false) s) :
    wpAny (model prog w) A (compareOp .NotEq (.ref a) (.ref b)) Q E s := by
  obtain ⟨e1, e2⟩ := eqAts (A := A.in1) (s := s) hi hi'
  refine RcNeAt.lists (e := fun _ => true) hl hl' e1 (Nat.lt_of_le_of_lt (Nat.le_add_right _ 64) hu) e2 prog w E Q ?_
  rw [all_true]
  exact h
theorem eq_same {a b : Addr} {vs us : List Value} {rs : List RV} {Q : Value → Shared → Prop} (hl : s.heap.IsList a vs.toArray) (hi : AllIs rs vs) (hl' : s.heap.IsList b us.toArray) (hi' : AllIs rs us) (hu : A.units + 64 < cLine) (h : Q (.bool true) s) :
    wpAny (model prog w) A (compareOp .Eq (.ref a) (.ref b)) Q E s := by
  obtain ⟨e1, e2⟩ := eqAts (A := A.in1) (s := s) hi hi'
  refine eq_listAt (e := fun _ => true) hl hl' e1 (Nat.lt_of_le_of_lt (Nat.le_add_right _ 64) hu) e2 ?_
  rw [all_true]
  exact h
theorem isList_of {h₀ h : Heap} {L a : Addr} {vs : List Value} {k : Nat} {news : List (Addr × Obj)} (N : News h₀ L h news) (hm : (a, ({ cls := .type "list", data := .seq vs.toArray k } : Obj)) ∈ news) : h.IsList a vs.toArray := ⟨_, (N _ hm).1, rfl, _, rfl⟩
end
end
section
open PySem PySem.W PyProof.Rows PySem.Spec PySem.Calls LCg LCt
set_option maxRecDepth 100000
set_option maxHeartbeats 40000000
set_option linter.unusedVariables false
theorem fresh_W26 : True := by
  w_top off
  trivial
open PySem PySem.W PyProof.Rows PySem.Spec PySem.Calls LCg LCt
set_option maxRecDepth 100000
set_option maxHeartbeats 40000000
set_option linter.unusedVariables false
section
variable {prog : Program} {w : World} {A : Around} {h₀ : Heap} {L : Addr} {m : Str → Option Value} {env : Env} {ct elt : Expr} {x : Str} {scope : Scope} {cl : List (Str × Addr)} {s : Shared} {S : List (Addr × Obj) → Prop} {P : Nat → Value → Prop} {Fin : List Value → List (Addr × Obj) → Prop} {news : List (Addr × Obj)}
/-- the turns of a comprehension with a test, by an invariant -/
theorem compRestT_inv {n : Nat} (J : Nat → List Value → List (Addr × Obj) → Prop) (h0 : J 0 [] news)
    (turn : ∀ i v I oI C oC D m₂ ys nw h tk (E' : Value → Shared → Prop), i < n → P i v → J i ys nw → NsObj oC m₂ → m₂ x = some v → Fr h₀ L h m → News h₀ L h ((I, oI) :: (C, oC) :: (D, lst ys) :: nw) → Off3 I C D nw → ((@Ne Nat I C) ∧ (@Ne Nat I D) ∧ (@Ne Nat C D)) →
      wpAny (model prog w) A (isTrue ct (compEnvC scope cl C env) (eval ct (compEnvC scope cl C env))) (fun ok s' => if ok = true then
        wpAny (model prog w) A (eval elt (compEnvC scope cl C env)) (CompEnd h₀ L m { s with heap := h, toks := tk } I oI C oC D (lst ys) S (fun y nw' => J (i + 1) (ys ++ [y]) nw')) E' s'
        else CompEnd h₀ L m { s with heap := h, toks := tk } I oI C oC D (lst ys) S (fun _ nw' => J (i + 1) ys nw') Value.none s') E' { s with heap := h, toks := tk })
    (fin : ∀ ys nw, J n ys nw → Fin ys nw) : CompRestT prog w A h₀ L m env ct elt x scope cl s S P Fin n 0 [] news := by
  have key : ∀ (j i : Nat) (ys : List Value) nw, i + j = n → J i ys nw → CompRestT prog w A h₀ L m env ct elt x scope cl s S P Fin j i ys nw := by
    intro j
    induction j with
    | zero =>
      intro i ys nw hi hJ
      obtain rfl : i = n := by omega
      exact CompRestT.zero (fin ys nw hJ)
    | succ j ih =>
      intro i ys nw hi hJ
      refine CompRestT.succ fun v I oI C oC D m₂ h tk E' hv hC hx F N off ne => ?_
      refine wpAny_mono (turn i v I oI C oC D m₂ ys nw h tk E' (by omega) hv hJ hC hx F N off ne) (fun ok s₂ hq => ?_) fun _ _ e => e
      cases ok with
      | true =>
        simp only [if_true] at hq ⊢
        refine wpAny_mono hq (fun y s₃ hq => ?_) fun _ _ e => e
        obtain ⟨h', tk', nw', e, F', N', off', hS, hJ'⟩ := hq
        exact ⟨h', tk', nw', e, F', N', off', hS, ih (i + 1) _ nw' (by omega) hJ'⟩
      | false =>
        simp only [Bool.false_eq_true, if_false] at hq ⊢
        obtain ⟨h', tk', nw', e, F', N', off', hS, hJ'⟩ := hq
        exact ⟨h', tk', nw', e, F', N', off', hS, ih (i + 1) _ nw' (by omega) hJ'⟩
  exact key n 0 [] news (by omega) h0
theorem compSrcTH {ax : Addr} {its : Array Value} {k : Nat} {s₁ : Shared} {Fin' : Shared → List Value → List (Addr × Obj) → Prop}
    (hh : A.handled = none) (F : Fr h₀ L s₁.heap m) (N : News h₀ L s₁.heap news) (hm : (ax, ({ cls := .type "list", data := .seq its k } : Obj)) ∈ news) (hsz : its.size ≤ sizeLine)
    (h : Halt (∀ g, CompRestT prog w A h₀ L m env ct elt x scope cl { s₁ with heap := g } (SrcAt h₀ ax its) (fun i v => its[i]? = some v) (Fin' { s₁ with heap := g }) its.size 0 [] news)) :
    CompSrcT prog w A h₀ L m env ct elt x scope cl Fin' (.ref ax) s₁ := CompSrcT.ledger hh F N hm hsz h
end
end
section
open PySem PySem.W PyProof.Rows PySem.Spec PySem.Calls
set_option linter.unusedVariables false
theorem fresh_W27 : True := by
  w_top off
  trivial
open PySem PySem.W PyProof.Rows PySem.Spec PySem.Calls
set_option linter.unusedVariables false
/-- what is to come is named by a letter: the proof's terms stay small -/
theorem wpC_cut {α : Type} {M : Model} {A : Around} {t : Sem α} {Q : α → Shared → Prop} {E : Value → Shared → Prop} {s : Shared} (h : ∀ (QQ : α → Shared → Prop) (EE : Value → Shared → Prop), (∀ a s', Q a s' → QQ a s') → (∀ a s', E a s' → EE a s') → wpC M A t QQ EE s) : wpC M A t Q E s := h Q E (fun _ _ y => y) fun _ _ y => y
/-- what never raises: the exceptions' side is nothing -/
theorem wpC_never {α : Type} {M : Model} {A : Around} {t : Sem α} {Q : α → Shared → Prop} {E : Value → Shared → Prop} {s : Shared} (h : wpC M A t Q (fun _ _ => False) s) : wpC M A t Q E s := wpC_mono h (fun _ _ y => y) fun _ _ y => y.elim
theorem wpAny_never {α : Type} {M : Model} {A : Around} {t : Sem α} {Q : α → Shared → Prop} {E : Value → Shared → Prop} {s : Shared} (h : wpAny M A t Q (fun _ _ => False) s) : wpAny M A t Q E s := wpAny_mono h (fun _ _ y => y) fun _ _ y => y.elim
theorem wpC_cutQ {α : Type} {M : Model} {A : Around} {t : Sem α} {Q : α → Shared → Prop} {E : Value → Shared → Prop} {s : Shared} (h : ∀ (QQ : α → Shared → Prop), (∀ a s', Q a s' → QQ a s') → wpC M A t QQ E s) : wpC M A t Q E s := h Q (fun _ _ y => y)
end
section
open PySem PyProof.Rows
set_option maxRecDepth 100000
set_option maxHeartbeats 40000000
set_option linter.unusedVariables false
theorem fresh_S1 : True := by
  w_top off
  trivial
open PySem PyProof.Rows
set_option maxRecDepth 100000
set_option maxHeartbeats 40000000
set_option linter.unusedVariables false
def gallopS : Bool → Keyed → Array Keyed → Nat → Nat → Nat → StateT SortSt Sem (Option Nat) := sortPriv% PySem.Builtin.gallop
def mergeLoS : Array Keyed → Array Keyed → StateT SortSt Sem (Array Keyed) := sortPriv% PySem.Builtin.mergeLo
def mergeHiS : Array Keyed → Array Keyed → StateT SortSt Sem (Array Keyed) := sortPriv% PySem.Builtin.mergeHi
/-- the number that a pair is sorted by -/
def kn (x : Keyed) : Int := numOf x.1
def IsI (x : Keyed) : Prop := ∃ n t, x.1 = .int n t
section
variable {prog : Program} {w : World} {A : Around} {E : Value → Shared → Prop} {s : Shared}
theorem forRange_L {β : Type} {a b : Nat} {f : Nat → β → StateT SortSt Sem (ForInStep β)} (I : Nat → β → SortSt → Prop) {Q : β → SortSt → Prop}
    (hstep : ∀ G : Nat → β → SortSt → Prop, (∀ i c st, wpS (model prog w) A E s (f i c) (fun r st' => match r with | .done c' => Q c' st' | .yield c' => I (i + 1) c' st') st → G i c st) → ∀ i c st, a ≤ i → i < b → I i c st → G i c st)
    (hend : ∀ c st, I (max a b) c st → Q c st) {c : β} {st : SortSt} (h : I a c st) : wpS (model prog w) A E s (forIn [a:b] c f) Q st := wpS_forRange I (hstep _ fun _ _ _ h => h) hend h
theorem wpS_pos {p : Prop} {ip : Decidable p} {α : Type} {x y : StateT SortSt Sem α} {Q : α → SortSt → Prop} {st : SortSt} (c : p) (h : wpS (model prog w) A E s x Q st) : wpS (model prog w) A E s (@ite _ p ip x y) Q st := by rw [if_pos c]; exact h
theorem wpS_neg {p : Prop} {ip : Decidable p} {α : Type} {x y : StateT SortSt Sem α} {Q : α → SortSt → Prop} {st : SortSt} (c : ¬ p) (h : wpS (model prog w) A E s y Q st) : wpS (model prog w) A E s (@ite _ p ip x y) Q st := by rw [if_neg c]; exact h
theorem wpS_ite {p : Prop} {ip : Decidable p} {α : Type} {x y : StateT SortSt Sem α} {Q : α → SortSt → Prop} {st : SortSt} (h : p → wpS (model prog w) A E s x Q st) (h' : ¬ p → wpS (model prog w) A E s y Q st) : wpS (model prog w) A E s (@ite _ p ip x y) Q st := by
  by_cases c : p
  · exact wpS_pos c (h c)
  · exact wpS_neg c (h' c)
theorem dec_no {p : Prop} {ip : Decidable p} (h : ¬ p) : ¬ @decide p ip = true := fun e => h (of_decide_eq_true e)
theorem dec_nn {p : Prop} {ip : Decidable p} (h : p) : ¬ (!@decide p ip) = true := by simp [h]
theorem dec_np {p : Prop} {ip : Decidable p} (h : ¬ p) : (!@decide p ip) = true := by simp [h]
theorem wpS_monoL {α : Type} {x : StateT SortSt Sem α} {Q Q' : α → SortSt → Prop} {st : SortSt} (h : wpS (model prog w) A E s x Q' st) (hQ : ∀ G : α → SortSt → Prop, (∀ a st', Q a st' → G a st') → ∀ a st', Q' a st' → G a st') : wpS (model prog w) A E s x Q st := wpS_mono h (hQ _ fun _ _ h => h)
theorem wpS_lt2 {st : SortSt} {x y : Keyed} {Q : Option Bool → SortSt → Prop} (hk : kindOf st = oneType') (hx : IsI x) (hy : IsI y) (h : Q (some (decide (kn x < kn y))) st) :
    wpS (model prog w) A E s (lt' x y) Q st := by
  obtain ⟨a, t, ha⟩ := hx
  obtain ⟨b, u, hb⟩ := hy
  have e1 : kn x = a := by unfold kn; rw [ha]; rfl
  have e2 : kn y = b := by unfold kn; rw [hb]; rfl
  rw [e1, e2] at h
  rw [lt'_eq]
  refine wpS_bind (wpS_get ?_)
  rw [hk, keyLt'_oneType, ha, hb]
  refine wpS_bind (wpS_lift (wpAny_attempt (oneLt_int ⟨rfl, ?_⟩)))
  exact wpS_pure h
theorem wpS_elem {st : SortSt} {arr : Array Keyed} {i : Nat} {x : Keyed} {Q : Keyed → SortSt → Prop} (he : arr[i]? = some x) (h : Q x st) : wpS (model prog w) A E s (elem' arr i) Q st := by
  rw [elem'_eq, he]
  exact wpS_pure h
/-- the side of a pair upon which a place lies -/
theorem wpS_side {st : SortSt} {left : Bool} {key : Keyed} {arr : Array Keyed} {j : Nat} {x : Keyed} {b : Bool} {Q : Option Bool → SortSt → Prop} (hk : kindOf st = oneType') (hkey : IsI key) (he : arr[j]? = some x) (hx : IsI x)
    (hb : (if left = true then decide (kn x < kn key) else !decide (kn key < kn x)) = b) (h : Q (some b) st) :
    wpS (model prog w) A E s (do
      let x ← elem' arr j
      if left = true then lt' x key else do
        let r ← lt' key x
        pure (Option.map (fun x => !x) r)) Q st := by
  refine wpS_bind (wpS_elem he ?_)
  subst hb
  cases left with
  | true => exact wpS_lt2 hk hx hkey h
  | false => exact wpS_bind (wpS_lt2 hk hkey hx (wpS_pure h))
theorem mid_in {l r : Nat} (h : ¬ l ≥ r) : l ≤ l + (r - l) / 2 ∧ l + (r - l) / 2 < r := by omega
theorem halve1 {l r x n q : Nat} (h : r + x ≤ l + n) (m1 : l ≤ q) : r + (x + 1) ≤ q + 1 + n := by omega
theorem halve2 {l r x n q : Nat} (h : r + x ≤ l + n) (m2 : q < r) : q + (x + 1) ≤ l + n := by omega
theorem halve3 {l r k n : Nat} (h : r + max 0 n ≤ l + n) (h1 : l ≤ k) (h2 : k ≤ r) : r = k := by omega
theorem ofs1 {x o : Nat} (h : x + 1 ≤ o) : x + 1 + 1 ≤ 2 * o + 1 := by omega
theorem far1 {n hint o l k : Nat} (h : o ≥ n - hint ∨ k ≤ hint + o) (hh : hint < n) (hk : k ≤ n) : k ≤ hint + min o (n - hint) ∧ hint + min o (n - hint) ≤ n := ⟨by omega, by omega⟩
theorem far2 {hint o k : Nat} (h : hint + 1 ≤ o ∨ ∃ p, p + o = hint ∧ p < k) : hint + 1 - min o (hint + 1) ≤ k := by
  rcases h with h | ⟨p, rfl, h⟩ <;> omega
theorem wpS_gallop {st : SortSt} {left : Bool} {key : Keyed} {arr : Array Keyed} {base n hint k : Nat} {Q : Option Nat → SortSt → Prop} (hk : kindOf st = oneType') (hkey : IsI key)
    (hel : ∀ i, i < n → ∃ x, arr[base + i]? = some x ∧ IsI x ∧ (if left = true then decide (kn x < kn key) else !decide (kn key < kn x)) = decide (i < k))
    (hkn : k ≤ n) (hh : hint < n) (h : Q (some k) st) : wpS (model prog w) A E s (gallopS left key arr base n hint) Q st := by
  unfold gallopS
  obtain ⟨y, e1, e2, e3⟩ := hel hint hh
  refine wpS_bind (wpS_side hk hkey e1 e2 e3 ?_)
  by_cases hlt : hint < k
  · refine wpS_pos (decide_eq_true hlt) ?_
    refine wpS_bind (wpS_mono (forRange_L (I := fun x c st' => st' = st ∧ ∃ l o, c = (none, l, o) ∧ hint + l < k ∧ x + 1 ≤ o)
      (Q := fun c st' => st' = st ∧ ∃ l o, c = (none, l, o) ∧ hint + l < k ∧ (o ≥ n - hint ∨ k ≤ hint + o)) ?_ ?_ ⟨rfl, 0, 1, rfl, hlt, Nat.le_refl _⟩) ?_)
    · intro G hG
      rintro x c st' _ hx ⟨rfl, l, o, rfl, a1, a2⟩
      refine hG _ _ _ ?_
      clear hG G
      by_cases hge : o ≥ n - hint
      · refine wpS_pos hge ?_
        exact wpS_pure ⟨rfl, l, o, rfl, a1, .inl hge⟩
      · refine wpS_neg hge ?_
        obtain ⟨y, e1, e2, e3⟩ := hel (hint + o) (by omega)
        refine wpS_bind (wpS_side hk hkey e1 e2 e3 ?_)
        by_cases hlt2 : hint + o < k
        · refine wpS_neg (dec_nn hlt2) ?_
          exact wpS_pure ⟨rfl, _, _, rfl, hlt2, ofs1 a2⟩
        · refine wpS_pos (dec_np hlt2) ?_
          exact wpS_pure ⟨rfl, _, _, rfl, a1, .inr (Nat.le_of_not_lt hlt2)⟩
    · rintro c st' ⟨rfl, l, o, rfl, a1, a2⟩
      exact ⟨rfl, l, o, rfl, a1, .inl (by omega)⟩
    · rintro c st' ⟨rfl, l, o, rfl, a1, a2⟩
      obtain ⟨h3, h4⟩ := far1 (l := l) a2 hh hkn
      refine wpS_bind (wpS_mono (forRange_L (I := fun x c st'' => st'' = st' ∧ ∃ l r, c = (none, l, r) ∧ l ≤ k ∧ k ≤ r ∧ r ≤ n ∧ r + x ≤ l + n) (Q := fun c st'' => st'' = st' ∧ ∃ l, c = (none, l, k)) ?_ ?_ ⟨rfl, _, _, rfl, a1, h3, h4, Nat.le_trans h4 (Nat.le_add_left _ _)⟩) ?_)
      · intro G hG
        rintro x c st'' _ hx ⟨rfl, l, r, rfl, a1, a2, a3, a4⟩
        refine hG _ _ _ ?_
        clear hG G
        by_cases hge : l ≥ r
        · refine wpS_pos hge ?_
          obtain rfl : r = k := Nat.le_antisymm (Nat.le_trans hge a1) a2
          exact wpS_pure ⟨rfl, l, rfl⟩
        · refine wpS_neg hge ?_
          obtain ⟨m1, m2⟩ := mid_in hge
          generalize l + (r - l) / 2 = q at *
          obtain ⟨y, e1, e2, e3⟩ := hel q (Nat.lt_of_lt_of_le m2 a3)
          refine wpS_bind (wpS_side hk hkey e1 e2 e3 ?_)
          by_cases hlt : q < k
          · refine wpS_pos (decide_eq_true hlt) ?_
            exact wpS_pure ⟨rfl, _, _, rfl, hlt, a2, a3, halve1 a4 m1⟩
          · refine wpS_neg (dec_no hlt) ?_
            exact wpS_pure ⟨rfl, _, _, rfl, a1, Nat.le_of_not_lt hlt, Nat.le_trans (Nat.le_of_lt m2) a3, halve2 a4 m2⟩
      · rintro c st'' ⟨rfl, l, r, rfl, a1, a2, a3, a4⟩
        obtain rfl : r = k := halve3 a4 a1 a2
        exact ⟨rfl, l, rfl⟩
      · rintro c st'' ⟨rfl, l, rfl⟩
        exact wpS_pure h
  · refine wpS_neg (dec_no hlt) ?_
    refine wpS_bind (wpS_mono (forRange_L (I := fun x c st' => st' = st ∧ ∃ l o p, c = (none, l, o) ∧ p + l = hint ∧ k ≤ p ∧ x + 1 ≤ o)
      (Q := fun c st' => st' = st ∧ ∃ l o p, c = (none, l, o) ∧ p + l = hint ∧ k ≤ p ∧ (hint + 1 ≤ o ∨ ∃ p, p + o = hint ∧ p < k)) ?_ ?_ ⟨rfl, 0, 1, hint, rfl, rfl, Nat.le_of_not_lt hlt, Nat.le_refl _⟩) ?_)
    · intro G hG
      rintro x c st' _ hx ⟨rfl, l, o, p, rfl, a1, a0, a2⟩
      refine hG _ _ _ ?_
      clear hG G
      by_cases hge : o ≥ hint + 1
      · refine wpS_pos hge ?_
        exact wpS_pure ⟨rfl, l, o, p, rfl, a1, a0, .inl hge⟩
      · refine wpS_neg hge ?_
        obtain ⟨p2, hp2⟩ : ∃ p2, p2 + o = hint := ⟨hint - o, Nat.sub_add_cancel (Nat.le_of_not_lt hge)⟩
        rw [show hint - o = p2 by rw [← hp2, Nat.add_sub_cancel]]
        obtain ⟨y, e1, e2, e3⟩ := hel p2 (by omega)
        refine wpS_bind (wpS_side hk hkey e1 e2 e3 ?_)
        by_cases hlt2 : p2 < k
        · refine wpS_pos (decide_eq_true hlt2) ?_
          exact wpS_pure ⟨rfl, _, _, p, rfl, a1, a0, .inr ⟨p2, hp2, hlt2⟩⟩
        · refine wpS_neg (dec_no hlt2) ?_
          exact wpS_pure ⟨rfl, _, _, p2, rfl, hp2, Nat.le_of_not_lt hlt2, ofs1 a2⟩
    · rintro c st' ⟨rfl, l, o, p, rfl, a1, a0, a2⟩
      exact ⟨rfl, l, o, p, rfl, a1, a0, .inl (by omega)⟩
    · rintro c st' ⟨rfl, l, o, p, rfl, a1, a0, a2⟩
      have h2 := far2 a2
      have hp : hint - l = p := by rw [← a1, Nat.add_sub_cancel]
      have h3 : hint - l ≤ n := by omega
      refine wpS_bind (wpS_mono (forRange_L (I := fun x c st'' => st'' = st' ∧ ∃ l r, c = (none, l, r) ∧ l ≤ k ∧ k ≤ r ∧ r ≤ n ∧ r + x ≤ l + n) (Q := fun c st'' => st'' = st' ∧ ∃ l, c = (none, l, k)) ?_ ?_ ⟨rfl, _, _, rfl, h2, hp.symm ▸ a0, h3, Nat.le_trans h3 (Nat.le_add_left _ _)⟩) ?_)
      · intro G hG
        rintro x c st'' _ hx ⟨rfl, l, r, rfl, a1, a2, a3, a4⟩
        refine hG _ _ _ ?_
        clear hG G
        by_cases hge : l ≥ r
        · refine wpS_pos hge ?_
          obtain rfl : r = k := Nat.le_antisymm (Nat.le_trans hge a1) a2
          exact wpS_pure ⟨rfl, l, rfl⟩
        · refine wpS_neg hge ?_
          obtain ⟨m1, m2⟩ := mid_in hge
          generalize l + (r - l) / 2 = q at *
          obtain ⟨y, e1, e2, e3⟩ := hel q (Nat.lt_of_lt_of_le m2 a3)
          refine wpS_bind (wpS_side hk hkey e1 e2 e3 ?_)
          by_cases hlt : q < k
          · refine wpS_pos (decide_eq_true hlt) ?_
            exact wpS_pure ⟨rfl, _, _, rfl, hlt, a2, a3, halve1 a4 m1⟩
          · refine wpS_neg (dec_no hlt) ?_
            exact wpS_pure ⟨rfl, _, _, rfl, a1, Nat.le_of_not_lt hlt, Nat.le_trans (Nat.le_of_lt m2) a3, halve2 a4 m2⟩
      · rintro c st'' ⟨rfl, l, r, rfl, a1, a2, a3, a4⟩
        obtain rfl : r = k := halve3 a4 a1 a2
        exact ⟨rfl, l, rfl⟩
      · rintro c st'' ⟨rfl, l, rfl⟩
        exact wpS_pure h
end
end
section
open PySem PySem.W PyProof.Rows PySem.Spec PySem.Calls
set_option maxRecDepth 100000
set_option maxHeartbeats 8000000
set_option linter.unusedVariables false
theorem fresh_X0 : True := by
  w_top off
  trivial
open PySem PySem.W PyProof.Rows PySem.Spec PySem.Calls
set_option maxRecDepth 100000
set_option maxHeartbeats 8000000
set_option linter.unusedVariables false
namespace XI
theorem type_exc : typeOf (.type "Exception") = pure (.type "type") := by first | rfl | kernel_rfl
section
variable {prog : Program} {w : World} {M : Model} {A : Around} {E : Value → Shared → Prop} {s : Shared} {K : Frag} {h₀ : Heap} {L : Addr} {m : PySem.Str → Option Value} {news : List (Addr × Obj)}
theorem fr_but {h h' : Heap} {e : Addr} (F : Fr h₀ L h m) (hL : e ≠ L) (hn : h₀.get? e = none) (k : ∀ b o, b ≠ e → h.get? b = some o → h'.get? b = some o) : Fr h₀ L h' m :=
  ⟨F.ns.at fun o q => k L o hL.symm q, fun b o q => k b o (fun z => by rw [z, hn] at q; cases q) (F.keep b o q), F.above⟩
theorem news_but {h h' : Heap} {e : Addr} (N : News h₀ L h news) (hne : ∀ p ∈ news, p.1 ≠ e) (k : ∀ b o, b ≠ e → h.get? b = some o → h'.get? b = some o) : News h₀ L h' news :=
  fun p hp => ⟨k _ _ (hne p hp) (N p hp).1, (N p hp).2⟩
variable {nm q : Str} {C N : Addr} {bs bm : List Value} {hdct : Bool} {sn : List Str} {sub : List Value} {ab : Bool} {col : Option Bool} {dd : Option Addr} {k0 k1 k2 k3 k5 : Option Value} {newId : String}
theorem init_call {e : Addr} {rest : List Value} {t0 : Addr} {v1 v2 v3 v4 v5 : Value} {Q : Value → Shared → Prop}
    (FB : ExcBaseFacts "Exception" newId "Exception.__init__" bm)
    (hC : s.heap.get? C = some (excClassObj nm q C N bs bm hdct sn sub ab col dd k0 k1 k2 k3 k5 newId)) (he : s.heap.get? e = some { cls := .ref C, data := .fields #[.ref t0, v1, v2, v3, v4, v5] })
    (h : ∀ h' t, (∀ b o, b ≠ e → s.heap.get? b = some o → h'.get? b = some o) → h'.get? e = some { cls := .ref C, data := .fields #[.ref t, v1, v2, v3, v4, v5] } → Q .none { s with heap := h' })
    (hrest : rest.length ≤ sizeLine := by size_fits) :
    wpAny (model prog w) A (call (.builtin "Exception.__init__") (.ref e :: rest)) Q E s := by
  obtain ⟨hp, gn, dr, tk0, os⟩ := s
  refine wpAny_call (codeAny_call_builtin FB.init.plain FB.initEntry (wpAny_check_init_sub FB hC he rfl ?_))
  wp_walk
  refine h _ hp.objs.size (fun b o hb q => ?_) ?_
  · rw [Heap.get?_update_other _ _ (Ne.symm hb)]
    exact Heap.get?_push_of_some _ q
  · rw [Heap.get?_update_self _ (Heap.get?_push_of_some _ he) rfl]
    rfl
end
end XI
end
section
open PySem PySem.W PyProof.Rows
namespace MineH
set_option maxRecDepth 100000
set_option maxHeartbeats 8000000
open_top hd for PySem.Challenge.rw_pb0522_01
end MineH
end
local macro_rules | `(tactic| omega) => `(tactic| lia)
section
open PySem
set_option linter.unusedVariables false
theorem fresh_M3 : True := by
  w_top off
  trivial
open PySem
set_option linter.unusedVariables false
theorem beI_cons (c : UInt8) (r : List UInt8) : beI (c :: r) = (c.toNat : Int) * 256 ^ r.length + beI r := by
  have h : ∀ (r : List UInt8) (a : Int), r.foldl (fun a b => a * 256 + (b.toNat : Int)) a = a * 256 ^ r.length + beI r := by
    intro r
    induction r with
    | nil => intro a; simp [beI]
    | cons b r ih =>
      intro a
      have e1 := ih (a * 256 + (b.toNat : Int))
      have e2 := ih (0 * 256 + (b.toNat : Int))
      show r.foldl _ (a * 256 + (b.toNat : Int)) = _
      rw [e1]
      show _ = _ + r.foldl _ (0 * 256 + (b.toNat : Int))
      rw [e2, List.length_cons, Int.pow_succ, Int.add_mul, Int.zero_mul, Int.zero_add, Int.mul_assoc, Int.mul_comm (256 ^ r.length) 256]
      omega
  have := h r (0 * 256 + (c.toNat : Int))
  show r.foldl _ (0 * 256 + (c.toNat : Int)) = _
  rw [this]
  simp
/-- the octets of a number of variable length -/
def vOct (size n : Int) : List UInt8 := beL size.toNat (idxI size * 2 ^ (8 * size - 2).toNat + n)
theorem vOct_beI {size n : Int} (hs : size = 1 ∨ size = 2 ∨ size = 4 ∨ size = 8) (h0 : 0 ≤ n) (h1 : n < 2 ^ (8 * size - 2).toNat) : beI (vOct size n) = idxI size * 2 ^ (8 * size - 2).toNat + n := by
  unfold vOct
  refine beI_beL _ _ ?_ ?_
  · rcases hs with rfl | rfl | rfl | rfl
    · have h : n < 64 := h1
      show 0 ≤ 0 * 64 + n; omega
    · have h : n < 16384 := h1
      show 0 ≤ 1 * 16384 + n; omega
    · have h : n < 1073741824 := h1
      show 0 ≤ 2 * 1073741824 + n; omega
    · have h : n < 4611686018427387904 := h1
      show 0 ≤ 3 * 4611686018427387904 + n; omega
  · rcases hs with rfl | rfl | rfl | rfl
    · have h : n < 64 := h1
      show 0 * 64 + n < 256; omega
    · have h : n < 16384 := h1
      show 1 * 16384 + n < 65536; omega
    · have h : n < 1073741824 := h1
      show 2 * 1073741824 + n < 4294967296; omega
    · have h : n < 4611686018427387904 := h1
      show 3 * 4611686018427387904 + n < 18446744073709551616; omega
theorem vOct_length {size n : Int} : (vOct size n).length = size.toNat := beL_length _ _
/-- the first octet tells the size -/
theorem vOct_head {size n : Int} (hs : size = 1 ∨ size = 2 ∨ size = 4 ∨ size = 8) (h0 : 0 ≤ n) (h1 : n < 2 ^ (8 * size - 2).toNat) : ∃ c r, vOct size n = c :: r ∧ szOf c = size := by
  have hb := vOct_beI hs h0 h1
  have hl := vOct_length (size := size) (n := n)
  cases hv : vOct size n with
  | nil => rw [hv] at hl; simp at hl; omega
  | cons c r =>
    refine ⟨c, r, rfl, ?_⟩
    rw [hv, beI_cons] at hb
    rw [hv, List.length_cons] at hl
    have hn := beI_nonneg r
    have hlt := beI_lt r
    have hc : c.toNat < 256 := c.toNat_lt
    rcases hs with rfl | rfl | rfl | rfl
    · have hr : r.length = 0 := by have e : (1 : Int).toNat = 1 := rfl; omega
      rw [hr] at hb hlt
      have h : n < 64 := h1
      have hb' : (c.toNat : Int) * 1 + beI r = 0 * 64 + n := hb
      have hlt' : beI r < 1 := hlt
      exact szOf_1 (by omega)
    · have hr : r.length = 1 := by have e : (2 : Int).toNat = 2 := rfl; omega
      rw [hr] at hb hlt
      have h : n < 16384 := h1
      have hb' : (c.toNat : Int) * 256 + beI r = 1 * 16384 + n := hb
      have hlt' : beI r < 256 := hlt
      exact szOf_2 (by omega) (by omega)
    · have hr : r.length = 3 := by have e : (4 : Int).toNat = 4 := rfl; omega
      rw [hr] at hb hlt
      have h : n < 1073741824 := h1
      have hb' : (c.toNat : Int) * 16777216 + beI r = 2 * 1073741824 + n := hb
      have hlt' : beI r < 16777216 := hlt
      exact szOf_4 (by omega) (by omega)
    · have hr : r.length = 7 := by have e : (8 : Int).toNat = 8 := rfl; omega
      rw [hr] at hb hlt
      have h : n < 4611686018427387904 := h1
      have hb' : (c.toNat : Int) * 72057594037927936 + beI r = 3 * 4611686018427387904 + n := hb
      have hlt' : beI r < 72057594037927936 := hlt
      exact szOf_8 (by omega)
theorem vOct_mod {size n : Int} (hs : size = 1 ∨ size = 2 ∨ size = 4 ∨ size = 8) (h0 : 0 ≤ n) (h1 : n < 2 ^ (8 * size - 2).toNat) : beI (vOct size n) % 2 ^ (8 * size - 2).toNat = n := by
  rw [vOct_beI hs h0 h1, Int.add_comm, Int.add_mul_emod_self_right]
  exact Int.emod_eq_of_lt h0 h1
/-- a number is read where it stands -/
theorem readNum_at {pre data post : List UInt8} {c : UInt8} {r : List UInt8} (hd : data = c :: r) (hz : szOf c = data.length) :
    readNum (pre ++ (data ++ post)) pre.length = some (beI data % 2 ^ (8 * szOf c - 2).toNat, (pre.length : Int) + data.length) := by
  have hc : (pre ++ (data ++ post))[(pre.length : Int).toNat]? = some c := by
    rw [Int.toNat_natCast, List.getElem?_append_right (Nat.le_refl _), Nat.sub_self, hd]; rfl
  rw [readNum_some hc (by rw [hz, List.length_append, List.length_append]; omega), hz]
  congr 3
  rw [Int.toNat_natCast, Int.toNat_natCast, List.drop_left, List.take_left]
theorem readNum_cut {pre q data : List UInt8} {c : UInt8} {r : List UInt8} (hd : data = c :: r) (hz : szOf c = data.length) (hq : q <+: data) (hne : q.length < data.length) : readNum (pre ++ q) pre.length = none := by
  refine readNum_none fun c' hc' => ?_
  rw [Int.toNat_natCast, List.getElem?_append_right (Nat.le_refl _), Nat.sub_self] at hc'
  obtain ⟨t, ht⟩ := hq
  have e : c' = c := by
    cases q with
    | nil => cases hc'
    | cons b q' =>
      rw [hd] at ht
      injection ht with h1 h2
      cases hc'
      exact h1
  rw [e, hz, List.length_append]
  omega
/-- what a part is: its octets, what they are told to be, and what they read as -/
structure PartOK (data : List UInt8) (k : Nat × Int) (rv : RV) : Prop where
  whole : ∀ pre post, readOne (pre ++ (data ++ post)) pre.length k = some (rv, (pre.length : Int) + data.length)
  cut : ∀ pre q, q <+: data → q.length < data.length → readOne (pre ++ q) pre.length k = none
  some : 1 ≤ data.length
  few : data.length ≤ 80
  kind : k.1 ≤ 2 ∧ 0 ≤ k.2 ∧ k.2 ≤ 8
theorem part_num {size n : Int} (hs : size = 1 ∨ size = 2 ∨ size = 4 ∨ size = 8) (h0 : 0 ≤ n) (h1 : n < 2 ^ (8 * size - 2).toNat) : PartOK (vOct size n) (0, 0) (.num n) := by
  obtain ⟨c, r, hv, hz⟩ := vOct_head hs h0 h1
  have hl := vOct_length (size := size) (n := n)
  have hz' : szOf c = (vOct size n).length := by rw [hl, hz]; omega
  refine ⟨fun pre post => ?_, fun pre q hq hne => ?_, by omega, by omega, by decide⟩
  · unfold readOne
    rw [if_pos rfl, readNum_at hv hz', hz, vOct_mod hs h0 h1]
    rfl
  · unfold readOne
    rw [if_pos rfl, readNum_cut hv hz' hq hne]
    rfl
theorem part_cut {data : List UInt8} (h1 : 1 ≤ data.length) (h4 : data.length ≤ 4) : PartOK data (1, data.length) (.num (beI data)) := by
  refine ⟨fun pre post => ?_, fun pre q hq hne => ?_, h1, by omega, ⟨by show 1 ≤ 2; omega, by show (0 : Int) ≤ (data.length : Int); omega, by show (data.length : Int) ≤ 8; omega⟩⟩
  · rw [one_cut_some (by rw [List.length_append, List.length_append]; omega)]
    rw [Int.toNat_natCast, Int.toNat_natCast, List.drop_left, List.take_left]
  · exact one_cut_none (by rw [List.length_append]; omega)
theorem part_txt {size : Int} {tx : List UInt8} (hs : size = 1 ∨ size = 2 ∨ size = 4 ∨ size = 8) (h1 : (tx.length : Int) < 2 ^ (8 * size - 2).toNat) (hf : tx.length ≤ 72) : PartOK (vOct size tx.length ++ tx) (2, 0) (.txt tx) := by
  have h0 : (0 : Int) ≤ tx.length := Int.natCast_nonneg _
  obtain ⟨c, r, hv, hz⟩ := vOct_head hs h0 h1
  have hl := vOct_length (size := size) (n := tx.length)
  have hz' : szOf c = (vOct size tx.length).length := by rw [hl, hz]; omega
  refine ⟨fun pre post => ?_, fun pre q hq hne => ?_, by rw [List.length_append]; omega, by rw [List.length_append]; omega, by decide⟩
  · show (match readNum _ _ with | none => none | some p => if p.1 ≤ (_ : Int) - p.2 then some (RV.txt ((List.drop p.2.toNat _).take p.1.toNat), p.2 + p.1) else none) = _
    rw [List.append_assoc, readNum_at hv hz', hz, vOct_mod hs h0 h1]
    simp only []
    rw [if_pos (by simp only [List.length_append]; omega)]
    congr 2
    · congr 1
      rw [show ((pre.length : Int) + (vOct size tx.length).length).toNat = (pre ++ vOct size tx.length).length by rw [List.length_append]; omega, ← List.append_assoc, List.drop_left, Int.toNat_natCast, List.take_left]
    · rw [List.length_append]; omega
  · show (match readNum _ _ with | none => none | some p => if p.1 ≤ (_ : Int) - p.2 then some (RV.txt ((List.drop p.2.toNat _).take p.1.toNat), p.2 + p.1) else none) = _
    by_cases hlt : q.length < (vOct size tx.length).length
    · have hq' : q <+: vOct size tx.length := List.prefix_of_prefix_length_le hq (List.prefix_append _ _) (Nat.le_of_lt hlt)
      rw [readNum_cut hv hz' hq' hlt]
    · obtain ⟨q', rfl⟩ : ∃ q', q = vOct size tx.length ++ q' := by
        have : vOct size tx.length <+: q := List.prefix_of_prefix_length_le (List.prefix_append _ _) hq (by omega)
        obtain ⟨t, ht⟩ := this
        exact ⟨t, ht.symm⟩
      rw [readNum_at hv hz', hz, vOct_mod hs h0 h1]
      simp only []
      rw [if_neg (by simp only [List.length_append] at *; omega)]
end
section
open PySem
set_option linter.unusedVariables false
theorem fresh_M4 : True := by
  w_top off
  trivial
open PySem
set_option linter.unusedVariables false
/-- a part: its octets, its kind, what it reads as -/
structure Part where
  data : List UInt8
  kind : Nat × Int
  rv : RV
def Part.OK (p : Part) : Prop := PartOK p.data p.kind p.rv
def rowOf (ps : List Part) : List UInt8 := (ps.map (·.data)).flatten
/-- the places behind the parts -/
def endsL : Nat → List Part → List Nat
  | _, [] => []
  | a, p :: ps => (a + p.data.length) :: endsL (a + p.data.length) ps
theorem endsL_ge : ∀ (ps : List Part) (a : Nat), ∀ e ∈ endsL a ps, a ≤ e
  | [], _, _, h => nomatch h
  | p :: ps, a, e, h => by
    rcases List.mem_cons.mp h with rfl | h
    · omega
    · have := endsL_ge ps _ e h; omega
theorem row_whole : ∀ (ps : List Part) (pre : List UInt8), (∀ p ∈ ps, p.OK) → readAll (pre ++ rowOf ps) pre.length (ps.map (·.kind)) = (ps.map (·.rv), some ((pre.length : Int) + (rowOf ps).length))
  | [], pre, _ => by simp [rowOf, readAll]
  | p :: ps, pre, h => by
    have h1 : readOne (pre ++ rowOf (p :: ps)) pre.length p.kind = some (p.rv, (pre.length : Int) + p.data.length) := (h p (.head _)).whole pre (rowOf ps)
    have e : pre ++ rowOf (p :: ps) = (pre ++ p.data) ++ rowOf ps := by show pre ++ (p.data ++ rowOf ps) = _; rw [List.append_assoc]
    have ih := row_whole ps (pre ++ p.data) fun q hq => h q (.tail _ hq)
    rw [List.map_cons, readAll_some h1]
    dsimp only
    rw [e]
    rw [show ((pre.length : Int) + p.data.length) = ((pre ++ p.data).length : Int) by rw [List.length_append]; omega, ih]
    have el : (rowOf (p :: ps)).length = p.data.length + (rowOf ps).length := by show (p.data ++ rowOf ps).length = _; rw [List.length_append]
    rw [el, List.length_append]
    simp only [List.map_cons, Prod.mk.injEq, Option.some.injEq, true_and]
    omega
theorem row_cut : ∀ (ps : List Part) (pre : List UInt8) (a k : Nat), (∀ p ∈ ps, p.OK) →
    (readAll (pre ++ (rowOf ps).take k) pre.length (ps.map (·.kind))).1 = (ps.map (·.rv)).take ((endsL a ps).filter fun e => decide (e ≤ a + k)).length
  | [], pre, a, k, _ => by simp [readAll, endsL]
  | p :: ps, pre, a, k, h => by
    have er : rowOf (p :: ps) = p.data ++ rowOf ps := rfl
    by_cases hk : p.data.length ≤ k
    · have eq : (rowOf (p :: ps)).take k = p.data ++ (rowOf ps).take (k - p.data.length) := by
        rw [er, List.take_append, List.take_of_length_le hk]
      rw [eq]
      have h1 : readOne (pre ++ (p.data ++ (rowOf ps).take (k - p.data.length))) pre.length p.kind = some (p.rv, (pre.length : Int) + p.data.length) := (h p (.head _)).whole pre _
      rw [List.map_cons, readAll_some h1]
      dsimp only
      have ih := row_cut ps (pre ++ p.data) (a + p.data.length) (k - p.data.length) fun q hq => h q (.tail _ hq)
      rw [← List.append_assoc, show ((pre.length : Int) + p.data.length) = ((pre ++ p.data).length : Int) by rw [List.length_append]; omega, ih]
      have ef : (endsL a (p :: ps)).filter (fun e => decide (e ≤ a + k)) = (a + p.data.length) :: (endsL (a + p.data.length) ps).filter (fun e => decide (e ≤ a + p.data.length + (k - p.data.length))) := by
        rw [endsL, List.filter_cons_of_pos (by simpa using hk), show a + p.data.length + (k - p.data.length) = a + k by omega]
      rw [ef, List.length_cons, List.map_cons, List.take_succ_cons]
    · have hlt : ((rowOf (p :: ps)).take k).length < p.data.length := by rw [List.length_take]; omega
      have hpre : (rowOf (p :: ps)).take k <+: p.data := by
        rw [er, List.take_append, show k - p.data.length = 0 by omega, List.take_zero, List.append_nil]
        exact List.take_prefix _ _
      have h1 := (h p (.head _)).cut pre _ hpre hlt
      rw [List.map_cons, readAll_none h1]
      have ef : (endsL a (p :: ps)).filter (fun e => decide (e ≤ a + k)) = [] := by
        rw [List.filter_eq_nil_iff]
        intro e he
        have : a + p.data.length ≤ e := by
          rw [endsL] at he
          rcases List.mem_cons.mp he with rfl | he
          · omega
          · exact endsL_ge ps _ e he
        simp; omega
      rw [ef]
      rfl
theorem row_len : ∀ (ps : List Part), (∀ p ∈ ps, p.OK) → (rowOf ps).length ≤ 80 * ps.length
  | [], _ => by simp [rowOf]
  | p :: ps, h => by
    have h1 := (h p (.head _)).few
    have h2 := row_len ps fun q hq => h q (.tail _ hq)
    show (p.data ++ rowOf ps).length ≤ 80 * (ps.length + 1)
    rw [List.length_append]; omega
end
section
open PySem PyProof.Rows
set_option maxRecDepth 100000
set_option maxHeartbeats 40000000
set_option linter.unusedVariables false
theorem fresh_S2 : True := by
  w_top off
  trivial
open PySem PyProof.Rows
set_option maxRecDepth 100000
set_option maxHeartbeats 40000000
set_option linter.unusedVariables false
theorem ex_push {b : Array Keyed} {i : Nat} {x : Keyed} (h : b[i]? = some x) : (b.extract 0 i).push x = b.extract 0 (i + 1) := by
  obtain ⟨hi, rfl⟩ := Array.getElem?_eq_some_iff.mp h
  exact Array.push_extract_getElem hi
theorem ex_all (b : Array Keyed) : b.extract 0 b.size = b := by simp
theorem ex_one {b : Array Keyed} {x : Keyed} (h : b[0]? = some x) : #[x] = b.extract 0 1 := by
  have := ex_push h
  rw [← this]; simp
theorem ex_join (b : Array Keyed) {i j k : Nat} (h1 : i ≤ j) (h2 : j ≤ k) : b.extract i j ++ b.extract j k = b.extract i k := by
  rw [Array.extract_append_extract]
  congr 1 <;> omega
theorem ex_nil (b : Array Keyed) {i j : Nat} (h : j ≤ i) : b.extract i j = #[] := by
  apply Array.eq_empty_of_size_eq_zero
  rw [Array.size_extract]; omega
theorem rv_push {a : Array Keyed} {i : Nat} {x : Keyed} (h : a[i]? = some x) : ((a.extract (i + 1) a.size).reverse).push x = (a.extract i a.size).reverse := by
  obtain ⟨hi, rfl⟩ := Array.getElem?_eq_some_iff.mp h
  rw [← ex_join a (Nat.le_succ i) hi]
  have : a.extract i (i + 1) = #[a[i]] := by
    apply Array.ext
    · rw [Array.size_extract]; simp; omega
    · intro j h1 h2
      have hj : j = 0 := by simpa using h2
      subst hj; simp
  rw [this, Array.reverse_append]
  simp
theorem some_done {α β : Type} {x y : α} {r : β} (h : x = y) : ∃ rest, ((some x, r) : Option α × β) = (some y, rest) := ⟨r, by rw [h]⟩
def Same (st st' : SortSt) : Prop := kindOf st' = kindOf st ∧ arrOf st' = arrOf st ∧ pendingOf st' = pendingOf st ∧ failedOf st' = failedOf st
theorem Same.rfl' {st : SortSt} : Same st st := ⟨rfl, rfl, rfl, rfl⟩
section
variable {prog : Program} {w : World} {A : Around} {E : Value → Shared → Prop} {s : Shared}
def Els (a : Array Keyed) : Prop := ∀ i, i < a.size → ∃ x, a[i]? = some x ∧ IsI x
def Over (a b : Array Keyed) : Prop := ∀ (i j : Nat) x y, a[i]? = some x → b[j]? = some y → kn y < kn x
theorem wpS_mergeLo {st : SortSt} {a b : Array Keyed} {Q : Array Keyed → SortSt → Prop} (hk : kindOf st = oneType') (ea : Els a) (eb : Els b) (ho : Over a b) (ha0 : 0 < a.size) (hb0 : 0 < b.size) (hg0 : 0 < gallopOf st)
    (h : ∀ st', Same st st' → Q (b ++ a) st') : wpS (model prog w) A E s (mergeLoS a b) Q st := by
  have d1 : b.extract 0 b.size ++ a.extract 0 a.size ++ b.extract b.size b.size = b ++ a := by rw [ex_all, ex_all, ex_nil b (Nat.le_refl _)]; simp
  obtain ⟨x0, g1, g2⟩ := ea 0 ha0
  obtain ⟨y0, f1, f2⟩ := eb 0 hb0
  unfold mergeLoS
  refine wpS_bind (wpS_lift (wpAny_rule ⟨rfl, ?_⟩))
  refine wpS_bind (wpS_elem f1 ?_)
  by_cases hb1 : 1 = b.size
  · refine wpS_pos (by simpa using hb1) ?_
    refine wpS_pure ?_
    dsimp only
    rw [ex_one f1, hb1, d1]
    exact h _ Same.rfl'
  refine wpS_neg (by simpa using hb1) ?_
  by_cases ha1 : 1 = a.size
  · refine wpS_pos (by simpa using ha1) ?_
    refine wpS_pure ?_
    dsimp only
    rw [ex_one f1, ex_join b (Nat.zero_le _) hb0, ex_all, ex_all]
    exact h _ Same.rfl'
  refine wpS_neg (by simpa using ha1) ?_
  refine wpS_bind (wpS_get ?_)
  refine wpS_bind (wpS_mono (forRange_L (I := fun x c st' => x = 0 ∧ c = (none, #[y0], 0, 1, gallopOf st) ∧ st' = st) (Q := fun c st' => (∃ rest, c = (some (b ++ a), rest)) ∧ Same st st') ?_ ?_ ⟨rfl, rfl, rfl⟩) ?_)
  · intro G hG
    rintro x c st' _ hx ⟨rfl, rfl, rfl⟩
    refine hG _ _ _ ?_
    clear hG G
    refine wpS_bind (wpS_monoL (forRange_L (I := fun x c st'' => st'' = st' ∧ ∃ ac bc, c = (none, b.extract 0 (x + 1), 0, x + 1, ac, bc) ∧ x + 1 < b.size)
      (Q := fun c st'' => st'' = st' ∧ ((∃ rest, c = (some (b ++ a), rest)) ∨ ∃ i ac bc, c = (none, b.extract 0 i, 0, i, ac, bc) ∧ i < b.size)) ?_ ?_ ⟨rfl, 0, 0, by rw [ex_one f1], by omega⟩) ?_)
    · intro G hG
      rintro i c st'' _ hi ⟨rfl, ac, bc, rfl, hib⟩
      refine hG _ _ _ ?_
      clear hG G
      obtain ⟨y, f3, f4⟩ := eb (i + 1) hib
      refine wpS_bind (wpS_elem f3 ?_)
      refine wpS_bind (wpS_elem g1 ?_)
      refine wpS_bind (wpS_lt2 hk f4 g2 ?_)
      refine wpS_pos (decide_eq_true (ho _ _ _ _ g1 f3)) ?_
      refine wpS_bind (wpS_elem f3 ?_)
      by_cases hl : i + 1 + 1 = b.size
      · refine wpS_pos (by simpa using hl) ?_
        exact wpS_pure ⟨rfl, .inl (some_done (by (try dsimp only); rw [ex_push f3, hl, d1]))⟩
      · refine wpS_neg (by simpa using hl) ?_
        refine wpS_ite (fun _ => ?_) fun _ => ?_
        · exact wpS_pure ⟨rfl, .inr ⟨i + 1 + 1, _, _, by rw [ex_push f3], by omega⟩⟩
        · exact wpS_pure ⟨rfl, _, _, by rw [ex_push f3], by omega⟩
    · rintro c st'' ⟨rfl, ac, bc, rfl, hib⟩
      exfalso
      have : max 0 (a.size + b.size) = a.size + b.size := by omega
      omega
    · intro G hG
      rintro c st'' ⟨rfl, ⟨rest, rfl⟩ | ⟨i, ac, bc, rfl, hib⟩⟩
      all_goals (refine hG _ _ ?_; clear hG G)
      · exact wpS_pure ⟨⟨_, rfl⟩, Same.rfl'⟩
      · refine wpS_bind (wpS_lift (wpAny_rule ⟨rfl, ?_⟩))
        refine wpS_bind (wpS_mono (forRange_L (I := fun x c st' => x = 0 ∧ c = (none, b.extract 0 i, 0, i, gallopOf st'' + 1, ac, bc) ∧ st' = st'') (Q := fun c st' => (∃ rest, c = (some (b ++ a), rest)) ∧ Same st'' st') ?_ ?_ ⟨rfl, rfl, rfl⟩) ?_)
        · intro G hG
          rintro x c st' _ hx ⟨rfl, rfl, rfl⟩
          refine hG _ _ _ ?_
          clear hG G
          obtain ⟨y, f3, f4⟩ := eb i hib
          refine wpS_pos (Nat.succ_lt_succ hg0) ?_
          (
            refine wpS_bind (wpS_modify ?_)
            refine wpS_bind (wpS_elem f3 ?_)
            refine wpS_bind (wpS_gallop (k := 0) hk f4 (fun j hj => ?_) (Nat.zero_le _) (by omega) ?_)
            · obtain ⟨x, e1, e2⟩ := ea j (by omega)
              refine ⟨x, by rw [Nat.zero_add]; exact e1, e2, ?_⟩
              simp only [Bool.false_eq_true, if_false, ho _ _ _ _ e1 f3, decide_true, Bool.not_true, Nat.not_lt_zero, decide_false]
            · refine wpS_neg (by omega) ?_
              refine wpS_bind (wpS_elem f3 ?_)
              by_cases hl : i + 1 = b.size
              · refine wpS_pos (by simpa using hl) ?_
                exact wpS_pure ⟨some_done (by (try dsimp only); rw [ex_push f3, hl, d1]), rfl, rfl, rfl, rfl⟩
              · refine wpS_neg (by simpa using hl) ?_
                refine wpS_bind (wpS_elem g1 ?_)
                refine wpS_bind (wpS_gallop (k := b.size - (i + 1)) hk g2 (fun j hj => ?_) (Nat.le_refl _) (by omega) ?_)
                · obtain ⟨y, e1, e2⟩ := eb (i + 1 + j) (by omega)
                  refine ⟨y, e1, e2, ?_⟩
                  simp only [if_true, ho _ _ _ _ g1 e1, decide_true, hj]
                · refine wpS_pos (by omega) ?_
                  refine wpS_pos (by simp; omega) ?_
                  refine wpS_pure ⟨some_done ?_, rfl, rfl, rfl, rfl⟩
                  (try dsimp only)
                  rw [ex_push f3, show i + 1 + (b.size - (i + 1)) = b.size by omega, ex_join b (by omega) (by omega), d1])
        · rintro c st' ⟨hx, _⟩
          exfalso
          omega
        · rintro c st' ⟨⟨rest, rfl⟩, S⟩
          exact wpS_pure ⟨⟨_, rfl⟩, S⟩
  · rintro c st' ⟨hx, _⟩
    exfalso
    omega
  · rintro c st' ⟨⟨rest, rfl⟩, S⟩
    exact wpS_pure (h _ S)
theorem wpS_mergeHi {st : SortSt} {a b : Array Keyed} {Q : Array Keyed → SortSt → Prop} (hk : kindOf st = oneType') (ea : Els a) (eb : Els b) (ho : Over a b) (ha0 : 0 < a.size) (hb0 : 0 < b.size) (hg0 : 0 < gallopOf st)
    (h : ∀ st', Same st st' → Q (b ++ a) st') : wpS (model prog w) A E s (mergeHiS a b) Q st := by
  have d1 : a.extract 0 0 ++ b.extract 0 b.size ++ (a.extract 0 a.size).reverse.reverse = b ++ a := by rw [ex_all, ex_all, ex_nil a (Nat.le_refl _), Array.reverse_reverse]; simp
  obtain ⟨xl, g1, g2⟩ := ea (a.size - 1) (by omega)
  obtain ⟨yl, f1, f2⟩ := eb (b.size - 1) (by omega)
  have e0 : #[xl] = (a.extract (a.size - 1) a.size).reverse := by
    have := rv_push g1
    rw [show a.size - 1 + 1 = a.size by omega, ex_nil a (Nat.le_refl _)] at this
    rw [← this]; simp
  unfold mergeHiS
  refine wpS_bind (wpS_lift (wpAny_rule ⟨rfl, ?_⟩))
  refine wpS_bind (wpS_elem g1 ?_)
  by_cases ha1 : a.size - 1 = 0
  · refine wpS_pos (by simpa using ha1) ?_
    refine wpS_pure ?_
    dsimp only
    rw [e0, ha1, d1]
    exact h _ Same.rfl'
  refine wpS_neg (by simpa using ha1) ?_
  by_cases hb1 : b.size = 1
  · refine wpS_pos (by simpa using hb1) ?_
    refine wpS_pure ?_
    dsimp only
    rw [e0, Array.reverse_reverse, Array.append_assoc, ex_join a (by omega) (by omega), ex_all, ex_all]
    exact h _ Same.rfl'
  refine wpS_neg (by simpa using hb1) ?_
  refine wpS_bind (wpS_get ?_)
  refine wpS_bind (wpS_mono (forRange_L (I := fun x c st' => x = 0 ∧ c = (none, a.size - 1, b.size, #[xl], gallopOf st) ∧ st' = st) (Q := fun c st' => (∃ rest, c = (some (b ++ a), rest)) ∧ Same st st') ?_ ?_ ⟨rfl, rfl, rfl⟩) ?_)
  · intro G hG
    rintro x c st' _ hx ⟨rfl, rfl, rfl⟩
    refine hG _ _ _ ?_
    clear hG G
    refine wpS_bind (wpS_monoL (forRange_L (I := fun x c st'' => st'' = st' ∧ ∃ n ac bc, c = (none, n, b.size, (a.extract n a.size).reverse, ac, bc) ∧ n + x + 1 = a.size ∧ 0 < n)
      (Q := fun c st'' => st'' = st' ∧ ((∃ rest, c = (some (b ++ a), rest)) ∨ ∃ n ac bc, c = (none, n, b.size, (a.extract n a.size).reverse, ac, bc) ∧ 0 < n ∧ n < a.size)) ?_ ?_ ⟨rfl, a.size - 1, 0, 0, by rw [e0], by omega, by omega⟩) ?_)
    · intro G hG
      rintro i c st'' _ hi ⟨rfl, n, ac, bc, rfl, hn, hn0⟩
      refine hG _ _ _ ?_
      clear hG G
      obtain ⟨x, f3, f4⟩ := ea (n - 1) (by omega)
      refine wpS_bind (wpS_elem f1 ?_)
      refine wpS_bind (wpS_elem f3 ?_)
      refine wpS_bind (wpS_lt2 hk f2 f4 ?_)
      refine wpS_pos (decide_eq_true (ho _ _ _ _ f3 f1)) ?_
      refine wpS_bind (wpS_elem f3 ?_)
      have e1 := rv_push f3
      rw [show n - 1 + 1 = n by omega] at e1
      by_cases hl : n - 1 = 0
      · refine wpS_pos (by simpa using hl) ?_
        exact wpS_pure ⟨rfl, .inl (some_done (by dsimp only; rw [e1, hl, d1]))⟩
      · refine wpS_neg (by simpa using hl) ?_
        refine wpS_ite (fun _ => ?_) fun _ => ?_
        · exact wpS_pure ⟨rfl, .inr ⟨n - 1, _, _, by rw [e1], by omega, by omega⟩⟩
        · exact wpS_pure ⟨rfl, n - 1, _, _, by rw [e1], by omega, by omega⟩
    · rintro c st'' ⟨rfl, n, ac, bc, rfl, hn, hn0⟩
      exfalso
      have : max 0 (a.size + b.size) = a.size + b.size := by omega
      omega
    · intro G hG
      rintro c st'' ⟨rfl, ⟨rest, rfl⟩ | ⟨n, ac, bc, rfl, hn0, hna⟩⟩
      all_goals (refine hG _ _ ?_; clear hG G)
      · exact wpS_pure ⟨⟨_, rfl⟩, Same.rfl'⟩
      · refine wpS_bind (wpS_lift (wpAny_rule ⟨rfl, ?_⟩))
        refine wpS_bind (wpS_mono (forRange_L (I := fun x c st' => x = 0 ∧ c = (none, n, b.size, (a.extract n a.size).reverse, gallopOf st'' + 1, ac, bc) ∧ st' = st'') (Q := fun c st' => (∃ rest, c = (some (b ++ a), rest)) ∧ Same st'' st') ?_ ?_ ⟨rfl, rfl, rfl⟩) ?_)
        · intro G hG
          rintro x c st' _ hx ⟨rfl, rfl, rfl⟩
          refine hG _ _ _ ?_
          clear hG G
          refine wpS_pos (Nat.succ_lt_succ hg0) ?_
          (
            refine wpS_bind (wpS_modify ?_)
            refine wpS_bind (wpS_elem f1 ?_)
            refine wpS_bind (wpS_gallop (k := 0) hk f2 (fun j hj => ?_) (Nat.zero_le _) (by omega) ?_)
            · obtain ⟨x, e1, e2⟩ := ea j (by omega)
              refine ⟨x, by rw [Nat.zero_add]; exact e1, e2, ?_⟩
              simp only [Bool.false_eq_true, if_false, ho _ _ _ _ e1 f1, decide_true, Bool.not_true, Nat.not_lt_zero, decide_false]
            · refine wpS_pos (Nat.sub_pos_of_lt hn0) ?_
              refine wpS_pos (by rfl) ?_
              refine wpS_pure ⟨some_done ?_, rfl, rfl, rfl, rfl⟩
              (try dsimp only)
              rw [← Array.reverse_append, ex_join a (by omega) (by omega), d1])
        · rintro c st' ⟨hx, _⟩
          exfalso
          omega
        · rintro c st' ⟨⟨rest, rfl⟩, S⟩
          exact wpS_pure ⟨⟨_, rfl⟩, S⟩
  · rintro c st' ⟨hx, _⟩
    exfalso
    omega
  · rintro c st' ⟨⟨rest, rfl⟩, S⟩
    exact wpS_pure (h _ S)
end
end
section
open PySem PyProof.Rows
set_option maxRecDepth 100000
set_option maxHeartbeats 40000000
set_option linter.unusedVariables false
theorem fresh_S3 : True := by
  w_top off
  trivial
open PySem PyProof.Rows
set_option maxRecDepth 100000
set_option maxHeartbeats 40000000
set_option linter.unusedVariables false
/-- an array whose first d + r are turned by r -/
structure RotAt (a : Array Keyed) (r d : Nat) (xs : Array Keyed) : Prop where
  sz : xs.size = a.size
  lo : ∀ i, i < d → xs[i]? = a[i + r]?
  mid : ∀ i, i < r → xs[d + i]? = a[i]?
  hi : ∀ i, d + r ≤ i → xs[i]? = a[i]?
structure RotK (a : Array Keyed) (r : Nat) : Prop where
  els : Els a
  up1 : ∀ i j, i < j → j < r → K a i < K a j
  up2 : ∀ i j, r ≤ i → i < j → j < a.size → K a i < K a j
  ov : ∀ i j, i < r → r ≤ j → j < a.size → K a j < K a i
theorem kn_K {a : Array Keyed} {i : Nat} {x : Keyed} (h : a[i]? = some x) : kn x = K a i := by unfold K kn; rw [h]
theorem RotAt.k1 {a xs : Array Keyed} {r d i : Nat} (h : RotAt a r d xs) (c : i < d) : K xs i = K a (i + r) := K_congr (h.lo i c)
theorem RotAt.k2 {a xs : Array Keyed} {r d i : Nat} (h : RotAt a r d xs) (c : i < r) : K xs (d + i) = K a i := K_congr (h.mid i c)
theorem RotAt.k3 {a xs : Array Keyed} {r d i : Nat} (h : RotAt a r d xs) (c : d + r ≤ i) : K xs i = K a i := K_congr (h.hi i c)
/-- a place is in one of the three parts -/
theorem three (d r i : Nat) : i < d ∨ (∃ j, i = d + j ∧ j < r) ∨ d + r ≤ i := by
  rcases Nat.lt_or_ge i d with c | c
  · exact .inl c
  · obtain ⟨j, rfl⟩ := Nat.exists_eq_add_of_le c
    rcases Nat.lt_or_ge j r with c2 | c2
    · exact .inr (.inl ⟨j, rfl, c2⟩)
    · exact .inr (.inr (Nat.add_le_add_left c2 d))
theorem RotAt.els {a xs : Array Keyed} {r d : Nat} (h : RotAt a r d xs) (e : Els a) (hn : d + r ≤ a.size) : Els xs := fun i hi => by
  rw [h.sz] at hi
  rcases three d r i with c | ⟨j, rfl, c⟩ | c
  · rw [h.lo i c]; exact e _ (by omega)
  · rw [h.mid j c]; exact e _ (by omega)
  · rw [h.hi i c]; exact e _ hi
theorem RotAt.start {a : Array Keyed} {r : Nat} : RotAt a r 0 a := ⟨rfl, fun i c => absurd c (Nat.not_lt_zero i), fun i _ => by rw [Nat.zero_add], fun _ _ => rfl⟩
theorem zip_get (sa : Nat) : ∀ (l : List Keyed) (k : Nat) (a : Array Keyed), sa + k + l.length ≤ a.size →
    ((l.zipIdx k).foldl (fun a x => match x with | (p, j) => a.setIfInBounds (sa + j) p) a).size = a.size ∧
    (∀ j, j < l.length → ((l.zipIdx k).foldl (fun a x => match x with | (p, j) => a.setIfInBounds (sa + j) p) a)[sa + k + j]? = l[j]?) ∧
    ∀ i, i < sa + k ∨ sa + k + l.length ≤ i → ((l.zipIdx k).foldl (fun a x => match x with | (p, j) => a.setIfInBounds (sa + j) p) a)[i]? = a[i]?
  | [], k, a, h => ⟨rfl, fun j c => absurd c (Nat.not_lt_zero _), fun i _ => rfl⟩
  | p :: l, k, a, h => by
    rw [List.length_cons] at h
    have hs : (a.setIfInBounds (sa + k) p).size = a.size := Array.size_setIfInBounds
    obtain ⟨ih1, ih2, ih3⟩ := zip_get sa l (k + 1) (a.setIfInBounds (sa + k) p) (by rw [hs]; omega)
    rw [List.zipIdx_cons, List.foldl_cons, List.length_cons]
    refine ⟨ih1.trans hs, fun j c => ?_, fun i c => ?_⟩
    · cases j with
      | zero =>
        refine (ih3 (sa + k) (.inl (Nat.lt_succ_self _))).trans ?_
        rw [Array.getElem?_setIfInBounds, if_pos rfl, if_pos (by omega)]
        rfl
      | succ j => rw [List.getElem?_cons_succ, show sa + k + (j + 1) = sa + (k + 1) + j by omega]; exact ih2 j (Nat.lt_of_succ_lt_succ c)
    · refine (ih3 i (c.elim (fun c => .inl (Nat.lt_succ_of_lt c)) fun c => .inr (by omega))).trans ?_
      rw [Array.getElem?_setIfInBounds, if_neg (by omega)]
theorem half_in {l u : Nat} (h : l < u) : l ≤ (l + u) / 2 ∧ (l + u) / 2 < u := by omega
section
variable {prog : Program} {w : World} {A : Around} {E : Value → Shared → Prop} {s : Shared}
theorem wpS_ltE {st : SortSt} {i j : Nat} {Q : Option Bool → SortSt → Prop} (hk : kindOf st = oneType') (hE : Els (arrOf st)) (hi : i < (arrOf st).size) (hj : j < (arrOf st).size)
    (h : Q (some (decide (K (arrOf st) i < K (arrOf st) j))) st) : wpS (model prog w) A E s (ltAt' i j) Q st := by
  obtain ⟨x, e1, e2⟩ := hE i hi
  obtain ⟨y, f1, f2⟩ := hE j hj
  rw [ltAt'_eq]
  refine wpS_bind (wpS_get ?_)
  refine wpS_bind (wpS_elem e1 (wpS_bind (wpS_elem f1 (wpS_lt2 hk e2 f2 ?_))))
  rw [kn_K e1, kn_K f1]
  exact h
/-- a run that goes up -/
theorem wpS_countAsc {st : SortSt} {lo nrem m : Nat} {Q : Option Nat → SortSt → Prop} (hk : kindOf st = oneType') (hE : Els (arrOf st)) (hsz : lo + nrem ≤ (arrOf st).size) (hm1 : 1 ≤ m) (hm : m ≤ nrem)
    (up : ∀ i, 1 ≤ i → i < m → ¬ K (arrOf st) (lo + i) < K (arrOf st) (lo + i - 1))
    (stop : m = nrem ∨ (m < nrem ∧ K (arrOf st) (lo + m) < K (arrOf st) (lo + m - 1) ∧ 1 < m ∧ K (arrOf st) lo < K (arrOf st) (lo + m - 1)))
    (h : Q (some m) st) : wpS (model prog w) A E s (countRun' lo nrem) Q st := by
  unfold countRun'
  refine wpS_bind (wpS_mono (forRange_L (I := fun x c st' => st' = st ∧ c = (none, x) ∧ x ≤ m) (Q := fun c st' => st' = st ∧ c = (none, m)) ?_ ?_ ⟨rfl, rfl, hm1⟩) ?_)
  · intro G hG
    rintro x c st' hx1 hx ⟨rfl, rfl, hxm⟩
    refine hG _ _ _ ?_
    clear hG G
    dsimp only
    refine wpS_bind (wpS_ltE hk hE (by omega) (by omega) ?_)
    by_cases he : x = m
    · subst he
      have hlt : K (arrOf st') (lo + x) < K (arrOf st') (lo + x - 1) := by
        rcases stop with e | ⟨_, e, _⟩
        · omega
        · exact e
      refine wpS_pos (decide_eq_true hlt) ?_
      exact wpS_pure ⟨rfl, rfl⟩
    · refine wpS_neg (dec_no (up x hx1 (by omega))) ?_
      exact wpS_pure ⟨rfl, rfl, by omega⟩
  · rintro c st' ⟨rfl, rfl, hxm⟩
    exact ⟨rfl, by congr 1; omega⟩
  · rintro c st' ⟨rfl, rfl⟩
    dsimp only
    rcases stop with e | ⟨a1, a2, a3, a4⟩
    · rw [if_pos (by simpa using e)]
      exact wpS_pure h
    · rw [if_neg (by simp; omega), if_pos a3]
      refine wpS_bind (wpS_ltE hk hE (by omega) (by omega) ?_)
      refine wpS_pos (decide_eq_true a4) ?_
      exact wpS_pure h
/-- the run of two that stands turned -/
theorem wpS_countOne {st : SortSt} {nrem : Nat} {a : Array Keyed} {Q : Option Nat → SortSt → Prop} (hk : kindOf st = oneType') (ha : arrOf st = a) (R : RotK a 1) (hsz : nrem = a.size) (h2 : 2 < nrem)
    (h : ∀ st', kindOf st' = oneType' → failedOf st' = failedOf st → pendingOf st' = pendingOf st → gallopOf st' = gallopOf st → RotAt a 1 1 (arrOf st') → Q (some 2) st') : wpS (model prog w) A E s (countRun' 0 nrem) Q st := by
  subst ha hsz
  have e := getElem?_mirror_all (xs := arrOf st) (i := 0) (j := 2) (by omega)
  have hr : RotAt (arrOf st) 1 1 (mirror (arrOf st) 0 2 1) := ⟨mirror_size _ _ _ _, fun i c => by
    obtain rfl := Nat.lt_one_iff.mp c
    exact e 0, fun i c => by
    obtain rfl := Nat.lt_one_iff.mp c
    exact e 1, fun i c => (e i).trans (if_neg fun q => Nat.not_lt.mpr c q.2)⟩
  unfold countRun'
  refine wpS_bind (wpS_mono (forRange_L (I := fun x c st' => st' = st ∧ c = (none, x) ∧ x = 1) (Q := fun c st' => st' = st ∧ c = (none, 1)) ?_ ?_ ⟨rfl, rfl, rfl⟩) ?_)
  · intro G hG
    rintro x c st' hx1 hx ⟨rfl, rfl, rfl⟩
    refine hG _ _ _ ?_
    clear hG G
    dsimp only
    refine wpS_bind (wpS_ltE hk R.els (by omega) (by omega) ?_)
    have hlt : K (arrOf st') (0 + 1) < K (arrOf st') (0 + 1 - 1) := R.ov 0 1 (by omega) (by omega) (by omega)
    refine wpS_pos (decide_eq_true hlt) ?_
    exact wpS_pure ⟨rfl, rfl⟩
  · rintro c st' ⟨rfl, rfl, hxm⟩
    omega
  · rintro c st' ⟨rfl, rfl⟩
    dsimp only
    rw [if_neg (by simp; omega), if_neg (by omega)]
    refine wpS_bind (wpS_lift (wpAny_rule ⟨rfl, ?_⟩))
    refine wpS_bind (wpS_mono (forRange_L (I := fun x c st'' => st'' = st' ∧ c = (none, 2, 0) ∧ x = 2) (Q := fun c st'' => st'' = st' ∧ c = (none, 2, 0)) ?_ ?_ ⟨rfl, rfl, rfl⟩) ?_)
    · intro G hG
      rintro x c st'' hx1 hx ⟨rfl, rfl, rfl⟩
      refine hG _ _ _ ?_
      clear hG G
      dsimp only
      have hlt : K (arrOf st'') 1 < K (arrOf st'') 2 := R.up2 1 2 (by omega) (by omega) (by omega)
      refine wpS_bind (wpS_ltE hk R.els (by omega) (by omega) ?_)
      have h3 : ¬ K (arrOf st'') (0 + 2) < K (arrOf st'') (0 + 2 - 1) := by show ¬ K _ 2 < K _ 1; omega
      refine wpS_neg (dec_no h3) ?_
      refine wpS_bind (wpS_ltE hk R.els (by omega) (by omega) ?_)
      have h4 : K (arrOf st'') (0 + 2 - 1) < K (arrOf st'') (0 + 2) := hlt
      refine wpS_pos (decide_eq_true h4) ?_
      exact wpS_pure ⟨rfl, rfl⟩
    · rintro c st'' ⟨rfl, rfl, hx⟩
      omega
    · rintro c st'' ⟨rfl, rfl⟩
      dsimp only
      rw [if_neg (by omega)]
      refine wpS_bind (wpS_modify ?_)
      have hE := hr.els R.els (by omega)
      refine wpS_bind (wpS_mono (forRange_L (I := fun x c st' => st' = setArr st'' (mirror (arrOf st'') 0 2 1) ∧ c = (none, 2) ∧ x = 2) (Q := fun c st' => st' = setArr st'' (mirror (arrOf st'') 0 2 1) ∧ c = (none, 2)) ?_ ?_ ⟨rfl, rfl, rfl⟩) ?_)
      · intro G hG
        rintro x c st' hx1 hx ⟨rfl, rfl, rfl⟩
        refine hG _ _ _ ?_
        clear hG G
        dsimp only
        refine wpS_bind (wpS_ltE hk hE (by show 0 + 2 < (mirror (arrOf st'') 0 2 1).size; rw [mirror_size]; omega) (by show 0 + 2 - 1 < (mirror (arrOf st'') 0 2 1).size; rw [mirror_size]; omega) ?_)
        have hlt : K (mirror (arrOf st'') 0 2 1) (0 + 2) < K (mirror (arrOf st'') 0 2 1) (1 + 0) := by
          rw [hr.k2 (Nat.lt_succ_self 0), hr.k3 (i := 0 + 2) (Nat.le_refl 2)]
          exact R.ov 0 2 (by omega) (by omega) (by omega)
        have hlt' : K (arrOf (setArr st'' (mirror (arrOf st'') 0 2 1))) (0 + 2) < K (arrOf (setArr st'' (mirror (arrOf st'') 0 2 1))) (0 + 2 - 1) := hlt
        refine wpS_pos (decide_eq_true hlt') ?_
        exact wpS_pure ⟨rfl, rfl⟩
      · rintro c st' ⟨rfl, rfl, hx⟩
        omega
      · rintro c st' ⟨rfl, rfl⟩
        exact wpS_pure (h _ hk rfl rfl rfl hr)
/-- what goes up is put into its place, one by one -/
theorem wpS_binaryRot {st : SortSt} {r ok n d0 d1 : Nat} {a : Array Keyed} {Q : Bool → SortSt → Prop} (hk : kindOf st = oneType') (R : RotK a r) (h0 : RotAt a r d0 (arrOf st)) (hr1 : 1 ≤ r) (hok : ok = d0 + r) (hn : n = d1 + r) (hle : d0 ≤ d1) (hsz : d1 + r ≤ a.size)
    (h : ∀ st', kindOf st' = oneType' → failedOf st' = failedOf st → pendingOf st' = pendingOf st → gallopOf st' = gallopOf st → RotAt a r d1 (arrOf st') → Q true st') : wpS (model prog w) A E s (binarySort' 0 n ok) Q st := by
  subst hok hn
  unfold binarySort'
  refine wpS_bind (wpS_mono (forRange_L (I := fun k c st' => c = (none, ()) ∧ ∃ d, k = d + r ∧ d0 ≤ d ∧ d ≤ d1 ∧ kindOf st' = oneType' ∧ failedOf st' = failedOf st ∧ pendingOf st' = pendingOf st ∧ gallopOf st' = gallopOf st ∧ RotAt a r d (arrOf st'))
    (Q := fun c st' => c = (none, ()) ∧ kindOf st' = oneType' ∧ failedOf st' = failedOf st ∧ pendingOf st' = pendingOf st ∧ gallopOf st' = gallopOf st ∧ RotAt a r d1 (arrOf st')) ?_ ?_ ⟨rfl, d0, by omega, Nat.le_refl _, hle, hk, rfl, rfl, rfl, h0⟩) ?_)
  · intro G hG
    rintro k c st' _ hkn ⟨rfl, d, rfl, g1, g2, b1, b2, b3, b5, b4⟩
    refine hG _ _ _ ?_
    clear hG G
    have hd1 : d < d1 := Nat.lt_of_add_lt_add_right hkn
    have hda : d + r < a.size := Nat.lt_of_lt_of_le hkn hsz
    have hE := b4.els R.els (Nat.le_of_lt hda)
    have hs := b4.sz
    dsimp only
    refine wpS_bind (wpS_mono (forRange_L (I := fun x c st'' => st'' = st' ∧ ∃ l u, c = (none, l, u) ∧ l ≤ d ∧ d ≤ u ∧ u ≤ d + r ∧ u + x ≤ l + (d + r))
      (Q := fun c st'' => st'' = st' ∧ ∃ u, c = (none, d, u)) ?_ ?_ ⟨rfl, 0, d + r, rfl, Nat.zero_le _, Nat.le_add_right _ _, Nat.le_refl _, by rw [Nat.zero_add]; exact Nat.le_refl _⟩) ?_)
    · intro G hG
      rintro x c st'' _ hx ⟨rfl, l, u, rfl, a1, a2, a3, a4⟩
      refine hG _ _ _ ?_
      clear hG G
      dsimp only
      by_cases hge : l ≥ u
      · refine wpS_pos hge ?_
        obtain rfl : l = d := Nat.le_antisymm a1 (Nat.le_trans a2 hge)
        exact wpS_pure ⟨rfl, _, rfl⟩
      · refine wpS_neg hge ?_
        obtain ⟨m1, m2⟩ := half_in (Nat.lt_of_not_le hge)
        generalize (l + u) / 2 = q at *
        have hqa : q < a.size := by omega
        refine wpS_bind (wpS_ltE b1 hE (by rw [hs, Nat.zero_add]; exact hda) (by rw [hs, Nat.zero_add]; exact hqa) ?_)
        rw [Nat.zero_add, Nat.zero_add, b4.k3 (Nat.le_refl (d + r))]
        by_cases hlt : q < d
        · have em : ¬ K a (d + r) < K (arrOf st'') q := by
            rw [b4.k1 hlt]
            exact Int.not_lt.mpr (Int.le_of_lt (R.up2 (q + r) (d + r) (Nat.le_add_left _ _) (Nat.add_lt_add_right hlt r) hda))
          refine wpS_neg (dec_no em) ?_
          exact wpS_pure ⟨rfl, _, _, rfl, hlt, a2, a3, by omega⟩
        · obtain ⟨j, rfl⟩ := Nat.exists_eq_add_of_le (Nat.le_of_not_lt hlt)
          have em : K a (d + r) < K (arrOf st'') (d + j) := by
            rw [b4.k2 (by omega)]
            exact R.ov _ _ (by omega) (Nat.le_add_left _ _) hda
          refine wpS_pos (decide_eq_true em) ?_
          exact wpS_pure ⟨rfl, _, _, rfl, a1, Nat.le_add_right _ _, by omega, by omega⟩
    · rintro c st'' ⟨rfl, l, u, rfl, a1, a2, a3, a4⟩
      obtain rfl : l = d := by omega
      exact ⟨rfl, _, rfl⟩
    · rintro c st'' ⟨rfl, u, rfl⟩
      dsimp only
      refine wpS_bind (wpS_modify (wpS_pure ⟨rfl, d + 1, Nat.add_right_comm d r 1, Nat.le_succ_of_le g1, hd1, b1, b2, b3, b5, ?_⟩))
      show RotAt a r (d + 1) (bubble (arrOf st'') (0 + (d + r)) (0 + (d + r) - (0 + d)))
      rw [Nat.zero_add, Nat.zero_add, Nat.add_sub_cancel_left]
      have e := getElem?_bubble (xs := arrOf st'') (src := d + r) (by rw [hs]; exact hda) r (Nat.le_add_left _ _)
      rw [Nat.add_sub_cancel] at e
      refine ⟨by rw [bubble_size]; exact hs, fun i c => ?_, fun i c => ?_, fun i c => ?_⟩
      · rw [e]
        rcases Nat.lt_or_eq_of_le (Nat.le_of_lt_succ c) with c | rfl
        · rw [if_neg (Nat.ne_of_lt c), if_neg (fun q => Nat.lt_asymm q.1 c), b4.lo i c]
        · rw [if_pos rfl, b4.hi _ (Nat.le_refl _)]
      · rw [e, if_neg (by omega), if_pos (by omega), Nat.add_right_comm, Nat.add_sub_cancel, b4.mid i c]
      · rw [e, if_neg (by omega), if_neg (by omega), b4.hi i (by omega)]
  · rintro c st' ⟨rfl, d, hd, g1, g2, b1, b2, b3, b5, b4⟩
    obtain rfl : d = d1 := by omega
    exact ⟨rfl, b1, b2, b3, b5, b4⟩
  · rintro c st' ⟨rfl, b1, b2, b3, b5, b4⟩
    exact wpS_pure (h _ b1 b2 b3 b5 b4)
/-- the merge of the two runs -/
theorem wpS_mergeRot {st : SortSt} {r d e n pw p2 : Nat} {a : Array Keyed} {Q : Bool → SortSt → Prop} (hk : kindOf st = oneType') (R : RotK a r) (h0 : RotAt a r d (arrOf st)) (hr1 : 1 ≤ r) (he1 : 1 ≤ e) (hn : n = d + r) (hae : a.size = d + r + e) (hf : failedOf st = none) (hg0 : 0 < gallopOf st)
    (hp : pendingOf st = #[(0, n, pw), (n, e, p2)])
    (h : ∀ st', kindOf st' = oneType' → failedOf st' = none → pendingOf st' = #[(0, n + e, pw)] → RotAt a r (d + e) (arrOf st') → Q true st') : wpS (model prog w) A E s (mergeAt' 0) Q st := by
  obtain ⟨q, rfl⟩ : ∃ q, r = q + 1 := ⟨r - 1, by omega⟩
  subst hn
  have hae' : (arrOf st).size = d + (q + 1) + e := h0.sz.trans hae
  have hE := h0.els R.els (by rw [hae]; exact Nat.le_add_right _ _)
  have in1 : ∀ {i}, i < d + (q + 1) → i < (arrOf st).size := fun c => by rw [hae']; exact Nat.lt_add_right _ c
  have in2 : ∀ {j}, j < e → d + (q + 1) + j < (arrOf st).size := fun c => by rw [hae']; exact Nat.add_lt_add_left c _
  have in3 : ∀ {j}, j < e → d + (q + 1) + j < a.size := fun c => by rw [hae]; exact Nat.add_lt_add_left c _
  have hov : ∀ {i j}, i < q + 1 → j < e → K a (d + (q + 1) + j) < K a i := fun ci cj => R.ov _ _ ci (by rw [Nat.add_right_comm]; exact Nat.le_add_left _ _) (in3 cj)
  unfold mergeAt'
  refine wpS_bind (wpS_get ?_)
  have e0 : ((pendingOf st)[0]?, (pendingOf st)[0 + 1]?) = (some (0, d + (q + 1), pw), some (d + (q + 1), e, p2)) := by rw [hp]; rfl
  show wpS _ _ _ _ (match ((pendingOf st)[0]?, (pendingOf st)[0 + 1]?) with | (_, _) => _) _ _
  rw [e0]
  dsimp only
  refine wpS_bind (wpS_modify ?_)
  obtain ⟨y, e1, e2⟩ := hE (d + (q + 1)) (in2 he1)
  refine wpS_bind (wpS_elem e1 ?_)
  have hky : kn y = K a (d + (q + 1)) := by rw [kn_K e1, h0.k3 (Nat.le_refl _)]
  refine wpS_bind (wpS_gallop (k := d) hk e2 (fun j hj => ?_) (Nat.le_add_right _ _) (by omega) ?_)
  · obtain ⟨x, f1, f2⟩ := hE j (in1 hj)
    refine ⟨x, by rw [Nat.zero_add]; exact f1, f2, ?_⟩
    rw [if_neg (by decide), hky, kn_K f1]
    by_cases hlt : j < d
    · rw [h0.k1 hlt, decide_eq_true hlt, decide_eq_false (Int.not_lt.mpr (Int.le_of_lt (R.up2 (j + (q + 1)) _ (Nat.le_add_left _ _) (Nat.add_lt_add_right hlt _) (in3 he1))))]
      rfl
    · obtain ⟨i, rfl⟩ := Nat.exists_eq_add_of_le (Nat.le_of_not_lt hlt)
      have hi : i < q + 1 := Nat.lt_of_add_lt_add_left hj
      have ho : K a (d + (q + 1)) < K a i := hov hi he1
      rw [h0.k2 hi, decide_eq_false hlt, decide_eq_true ho]
      rfl
  dsimp only
  rw [Nat.add_sub_cancel_left]
  rw [if_neg (by simp)]
  rw [show 0 + d + (q + 1) - 1 = d + q by omega]
  obtain ⟨z, g1, g2⟩ := hE (d + q) (in1 (Nat.lt_succ_self _))
  refine wpS_bind (wpS_elem g1 ?_)
  have hkz : kn z = K a q := by rw [kn_K g1, h0.k2 (Nat.lt_succ_self q)]
  refine wpS_bind (wpS_gallop (k := e) hk g2 (fun j hj => ?_) (Nat.le_refl _) (Nat.sub_lt he1 Nat.one_pos) ?_)
  · obtain ⟨x, f1, f2⟩ := hE (d + (q + 1) + j) (in2 hj)
    refine ⟨x, f1, f2, ?_⟩
    rw [if_pos rfl, hkz, kn_K f1, h0.k3 (Nat.le_add_right _ _), decide_eq_true (hov (Nat.lt_succ_self q) hj), decide_eq_true hj]
  dsimp only
  rw [if_neg (by simp; omega)]
  rw [Nat.zero_add]
  obtain ⟨xs, hxs⟩ : ∃ xs, xs = (arrOf st).extract d (d + (q + 1)) := ⟨_, rfl⟩
  obtain ⟨ys, hys⟩ : ∃ ys, ys = (arrOf st).extract (d + (q + 1)) (d + (q + 1) + e) := ⟨_, rfl⟩
  rw [← hxs, ← hys]
  have zx : xs.size = q + 1 := by rw [hxs, Array.size_extract, hae', Nat.min_eq_left (Nat.le_add_right _ _), Nat.add_sub_cancel_left]
  have zy : ys.size = e := by rw [hys, Array.size_extract, hae', Nat.min_self, Nat.add_sub_cancel_left]
  have gx : ∀ {j}, j < q + 1 → xs[j]? = (arrOf st)[d + j]? := fun c => by rw [hxs, Array.getElem?_extract, if_pos (by rw [hae', Nat.min_eq_left (Nat.le_add_right _ _), Nat.add_sub_cancel_left]; exact c)]
  have gy : ∀ {j}, j < e → ys[j]? = (arrOf st)[d + (q + 1) + j]? := fun c => by rw [hys, Array.getElem?_extract, if_pos (by rw [hae', Nat.min_self, Nat.add_sub_cancel_left]; exact c)]
  clear hxs hys
  have elx : Els xs := fun j hj => by
    rw [zx] at hj
    obtain ⟨x, f1, f2⟩ := hE (d + j) (in1 (Nat.add_lt_add_left hj d))
    exact ⟨x, (gx hj).trans f1, f2⟩
  have ely : Els ys := fun j hj => by
    rw [zy] at hj
    obtain ⟨x, f1, f2⟩ := hE _ (in2 hj)
    exact ⟨x, (gy hj).trans f1, f2⟩
  have ov : Over xs ys := fun i j x y hx hy => by
    have ci : i < q + 1 := zx ▸ (Array.getElem?_eq_some_iff.mp hx).1
    have cj : j < e := zy ▸ (Array.getElem?_eq_some_iff.mp hy).1
    rw [kn_K ((gx ci).symm.trans hx), kn_K ((gy cj).symm.trans hy), h0.k2 ci, h0.k3 (Nat.le_add_right _ _)]
    exact hov ci cj
  have hl : (ys ++ xs).toList.length = e + (q + 1) := by rw [Array.length_toList, Array.size_append, zx, zy]
  have hfin : RotAt a (q + 1) (d + e) (((ys ++ xs).toList.zipIdx 0).foldl (fun a x => match x with | (p, j) => a.setIfInBounds (d + j) p) (arrOf st)) := by
    obtain ⟨z1, z2, z3⟩ := zip_get d (ys ++ xs).toList 0 (arrOf st) (by rw [hl, hae']; omega)
    rw [hl] at z2 z3
    refine ⟨z1.trans h0.sz, fun i c => ?_, fun i c => ?_, fun i c => ?_⟩
    · rcases Nat.lt_or_ge i d with c2 | c2
      · exact (z3 i (.inl c2)).trans (h0.lo i c2)
      · obtain ⟨j, rfl⟩ := Nat.exists_eq_add_of_le c2
        have cj : j < e := Nat.lt_of_add_lt_add_left c
        refine (z2 j (Nat.lt_add_right _ cj)).trans ?_
        rw [Array.getElem?_toList, Array.getElem?_append, if_pos (zy.symm ▸ cj), gy cj, h0.hi _ (Nat.le_add_right _ _), Nat.add_right_comm]
    · have := z2 (e + i) (Nat.add_lt_add_left c e)
      rw [Nat.add_assoc]
      refine this.trans ?_
      rw [Array.getElem?_toList, Array.getElem?_append, zy, if_neg (Nat.not_lt.mpr (Nat.le_add_right _ _)), Nat.add_sub_cancel_left, gx c, h0.mid i c]
    · exact (z3 i (.inr (by rw [← Nat.add_assoc]; exact c))).trans (h0.hi i (by omega))
  have hpe : (((pendingOf st).setIfInBounds 0 (0, d + (q + 1) + e, pw)).eraseIdxIfInBounds (0 + 1)) = #[(0, d + (q + 1) + e, pw)] := by
    rw [hp]
    unfold Array.eraseIdxIfInBounds
    rw [dif_pos (by simp)]
    apply Array.toList_inj.mp
    rw [Array.toList_eraseIdx]
    rfl
  have fin : ∀ st' : SortSt, kindOf st' = oneType' → failedOf st' = none → pendingOf st' = #[(0, d + (q + 1) + e, pw)] → arrOf st' = arrOf st →
      Q (Option.isNone (failedOf st')) (setArr st' (((ys ++ xs).toList.zipIdx 0).foldl (fun a x => match x with | (p, j) => a.setIfInBounds (d + j) p) (arrOf st'))) := by
    intro st' c1 c2 c3 c4
    rw [c2, c4]
    exact h _ c1 c2 c3 hfin
  split
  · refine wpS_bind (wpS_mergeLo hk elx ely ov (by rw [zx]; exact Nat.succ_pos q) (by rw [zy]; exact he1) hg0 fun st' S => ?_)
    refine wpS_bind (wpS_modify (wpS_bind (wpS_get (wpS_pure ?_))))
    exact fin st' (S.1.trans hk) (S.2.2.2.trans hf) (S.2.2.1.trans hpe) S.2.1
  · refine wpS_bind (wpS_mergeHi hk elx ely ov (by rw [zx]; exact Nat.succ_pos q) (by rw [zy]; exact he1) hg0 fun st' S => ?_)
    refine wpS_bind (wpS_modify (wpS_bind (wpS_get (wpS_pure ?_))))
    exact fin st' (S.1.trans hk) (S.2.2.2.trans hf) (S.2.2.1.trans hpe) S.2.1
theorem minrun_256 : minRun' 256 256 0 = 32 := by
  rw [minRun'_succ, if_neg (by omega)]
  rw [show (255 : Nat) = 254 + 1 from rfl, minRun'_succ, if_neg (by omega)]
  rw [show (254 : Nat) = 253 + 1 from rfl, minRun'_succ, if_neg (by omega)]
  rw [show (253 : Nat) = 252 + 1 from rfl, minRun'_succ, if_pos (by omega)]
  rfl
theorem wpS_binaryNone {st : SortSt} {lo n : Nat} {Q : Bool → SortSt → Prop} (hn : 1 ≤ n) (h : Q true st) : wpS (model prog w) A E s (binarySort' lo n n) Q st := by
  unfold binarySort'
  refine wpS_bind (wpS_mono (forRange_L (I := fun k c st' => c = (none, ()) ∧ st' = st) (Q := fun c st' => c = (none, ()) ∧ st' = st) (fun G hG k c st' h1 h2 => by omega) (fun c st' h => h) ⟨rfl, rfl⟩) ?_)
  rintro c st' ⟨rfl, rfl⟩
  exact wpS_pure h
theorem wpS_join {p : Prop} [Decidable p] {α : Type} {x y : StateT SortSt Sem α} {Q : α → SortSt → Prop} {st : SortSt} (hy : wpS (model prog w) A E s y Q st) (hx : p → wpS (model prog w) A E s y Q st → wpS (model prog w) A E s x Q st) :
    wpS (model prog w) A E s (if p then x else y) Q st := by
  by_cases h : p
  · rw [if_pos h]; exact hx h hy
  · rw [if_neg h]; exact hy
theorem wpS_sortRot {st : SortSt} {r d : Nat} {a : Array Keyed} {Q : Unit → SortSt → Prop} (hk : kindOf st = oneType') (R : RotK a r) (ha : arrOf st = a) (hsz : a.size = 256) (hr : r < 256) (hd : d + r = 256) (hf : failedOf st = none) (hg0 : 0 < gallopOf st) (hp : pendingOf st = #[])
    (h : ∀ st', failedOf st' = none → RotAt a r d (arrOf st') → Q () st') : wpS (model prog w) A E s sortRuns' Q st := by
  subst ha
  obtain ⟨n1, d1, e, hn, hd1, he⟩ : ∃ n1 d1 e, ((r = 0 ∧ n1 = 256) ∨ (1 ≤ r ∧ r < 32 ∧ n1 = 32) ∨ (32 ≤ r ∧ n1 = r)) ∧ n1 = d1 + r ∧ n1 + e = 256 := by
    rcases (show r = 0 ∨ (1 ≤ r ∧ r < 32) ∨ 32 ≤ r by omega) with h | h | h
    · exact ⟨256, 256, 0, .inl ⟨h, rfl⟩, by rw [h], rfl⟩
    · exact ⟨32, 32 - r, 224, .inr (.inl ⟨h.1, h.2, rfl⟩), by omega, rfl⟩
    · exact ⟨r, 0, d, .inr (.inr ⟨h, rfl⟩), (Nat.zero_add r).symm, by rw [Nat.add_comm]; exact hd⟩
  have ee : 256 - n1 = e := by rw [← he, Nat.add_sub_cancel_left]
  rw [sortRuns'_eq]
  refine wpS_bind (wpS_get ?_)
  dsimp only
  simp only [hsz, minrun_256]
  refine wpS_bind (wpS_mono (forRange_L
    (I := fun x c st' => (x = 0 ∧ c = (none, 0) ∧ st' = st) ∨ (kindOf st' = oneType' ∧ failedOf st' = none ∧ 0 < gallopOf st' ∧ RotAt (arrOf st) r d1 (arrOf st') ∧ ((x = 1 ∧ n1 < 256 ∧ c = (none, n1) ∧ pendingOf st' = #[(0, n1, 0)]) ∨
      (1 ≤ x ∧ c = (none, 256) ∧ ((n1 = 256 ∧ pendingOf st' = #[(0, 256, 0)]) ∨ (1 ≤ r ∧ n1 < 256 ∧ ∃ pw, pendingOf st' = #[(0, n1, pw), (n1, e, 0)]))))))
    (Q := fun c st' => kindOf st' = oneType' ∧ failedOf st' = none ∧ 0 < gallopOf st' ∧ RotAt (arrOf st) r d1 (arrOf st') ∧ c = (none, 256) ∧ ((n1 = 256 ∧ pendingOf st' = #[(0, 256, 0)]) ∨ (1 ≤ r ∧ n1 < 256 ∧ ∃ pw, pendingOf st' = #[(0, n1, pw), (n1, e, 0)]))) ?step ?fin (.inl ⟨rfl, rfl, rfl⟩)) ?post)
  case fin =>
    rintro c st' (⟨hx, _⟩ | ⟨k1, k2, kg, k3, ⟨hx, _⟩ | ⟨_, k4, k5⟩⟩)
    · exact absurd hx (by decide)
    · exact absurd hx (by decide)
    · exact ⟨k1, k2, kg, k3, k4, k5⟩
  case step =>
    intro G hG
    rintro x c st' _ hx (⟨rfl, rfl, rfl⟩ | ⟨k1, k2, kg, k3, ⟨rfl, hlt, rfl, k4⟩ | ⟨hx1, rfl, k5⟩⟩)
    all_goals (refine hG _ _ _ ?_; clear hG G)
    · dsimp only
      rw [if_neg (by decide)]
      refine wpS_bind (wpS_mono (Q := fun o st'' => ∃ m d', o = some m ∧ kindOf st'' = oneType' ∧ failedOf st'' = none ∧ gallopOf st'' = gallopOf st' ∧ pendingOf st'' = #[] ∧ m = d' + r ∧ RotAt (arrOf st') r d' (arrOf st'') ∧ ((r = 0 ∧ m = 256) ∨ (1 ≤ r ∧ r ≤ m ∧ m < 256 ∧ (m = r ∨ m = 2)))) ?_ ?_)
      · rcases (show r = 0 ∨ r = 1 ∨ 2 ≤ r by omega) with rfl | rfl | hr2
        · refine wpS_countAsc (m := 256) hk R.els (Nat.le_of_eq hsz.symm) (by decide) (Nat.le_refl _) (fun i h1 h2 => ?_) (.inl rfl) ⟨256, 256, rfl, hk, hf, rfl, hp, rfl, ⟨rfl, fun i _ => rfl, fun i c => absurd c (Nat.not_lt_zero i), fun _ _ => rfl⟩, .inl ⟨rfl, rfl⟩⟩
          obtain ⟨i, rfl⟩ := Nat.exists_eq_add_of_le' h1
          exact Int.not_lt.mpr (Int.le_of_lt (R.up2 (0 + i) (0 + (i + 1)) (Nat.zero_le _) (Nat.lt_succ_self _) (by rw [hsz, Nat.zero_add]; exact h2)))
        · exact wpS_countOne hk rfl R hsz.symm (by decide) fun st'' c1 c2 c3 cg c4 => ⟨2, 1, rfl, c1, c2.trans hf, cg, c3.trans hp, rfl, c4, .inr ⟨Nat.le_refl _, by decide, by decide, .inr rfl⟩⟩
        · refine wpS_countAsc (m := r) hk R.els (Nat.le_of_eq hsz.symm) (Nat.le_of_succ_le hr2) (Nat.le_of_lt hr) (fun i h1 h2 => ?_) (.inr ⟨hr, ?_, hr2, ?_⟩) ⟨r, 0, rfl, hk, hf, rfl, hp, (Nat.zero_add r).symm, RotAt.start, .inr ⟨Nat.le_of_succ_le hr2, Nat.le_refl _, hr, .inl rfl⟩⟩
          · obtain ⟨i, rfl⟩ := Nat.exists_eq_add_of_le' h1
            exact Int.not_lt.mpr (Int.le_of_lt (R.up1 (0 + i) (0 + (i + 1)) (Nat.lt_succ_self _) (by rw [Nat.zero_add]; exact h2)))
          · exact R.ov _ _ (by omega) (by omega) (by omega)
          · exact R.up1 _ _ (by omega) (by omega)
      · rintro o st'' ⟨m, d', rfl, c1, c2, cg, c3, hm', c4, c5⟩
        dsimp only
        by_cases hm : m < 32
        · refine wpS_pos hm ?_
          refine wpS_bind (wpS_lift (wpAny_rule ⟨rfl, ?_⟩))
          rw [show min (256 - 0) 32 = 32 from rfl]
          have e32 : n1 = 32 := by omega
          refine wpS_bind (wpS_binaryRot c1 R c4 (by omega) hm' (e32.symm.trans hd1) (by omega) (by omega) fun st3 d1 d2 d3 dg d4 => ?_)
          refine wpS_neg (show ¬ ((!true) = true) by decide) ?_
          refine wpS_bind (wpS_get ?_)
          rw [show (pendingOf st3).back? = none by rw [d3, c3]; rfl]
          dsimp only
          refine wpS_bind (wpS_modify (wpS_pure (.inr ⟨d1, d2.trans c2, dg.trans cg ▸ hg0, d4, .inl ⟨rfl, by rw [e32]; decide, ?_, ?_⟩⟩)))
          · rw [e32]
          · show (pendingOf st3).push (0, 32, 0) = _
            rw [d3, c3, e32]; rfl
        · refine wpS_neg hm ?_
          refine wpS_bind (wpS_get ?_)
          rw [show (pendingOf st'').back? = none by rw [c3]; rfl]
          dsimp only
          have em : n1 = m := by omega
          subst em
          obtain rfl : d' = d1 := Nat.add_right_cancel (hm'.symm.trans hd1)
          have hpp : (pendingOf st'').push (0, n1, 0) = #[(0, n1, 0)] := by rw [c3]; rfl
          by_cases hm2 : n1 = 256
          · refine wpS_bind (wpS_modify (wpS_pure (.inr ⟨c1, c2, cg ▸ hg0, c4, .inr ⟨Nat.le_refl _, ?_, .inl ⟨hm2, ?_⟩⟩⟩)))
            · rw [hm2]
            · rw [hm2] at hpp; rw [hm2]; exact hpp
          · exact wpS_bind (wpS_modify (wpS_pure (.inr ⟨c1, c2, cg ▸ hg0, c4, .inl ⟨rfl, by omega, by rw [Nat.zero_add], hpp⟩⟩)))
    · have hr1 : 1 ≤ r := by omega
      have he1 : 1 ≤ e := by omega
      have hs : (arrOf st').size = n1 + e := k3.sz.trans (hsz.trans he.symm)
      have hE := k3.els R.els (by rw [hsz, ← hd1]; exact Nat.le_of_lt hlt)
      dsimp only
      refine wpS_neg (Nat.not_le.mpr hlt) ?_
      simp only [ee]
      refine wpS_bind (wpS_countAsc (m := e) k1 hE (Nat.le_of_eq hs.symm) he1 (Nat.le_refl _) (fun i h1 h2 => ?_) (.inl rfl) ?_)
      · obtain ⟨i, rfl⟩ := Nat.exists_eq_add_of_le' h1
        show ¬ K _ (n1 + (i + 1)) < K _ (n1 + i)
        rw [k3.k3 (by omega), k3.k3 (by omega)]
        exact Int.not_lt.mpr (Int.le_of_lt (R.up2 _ _ (by omega) (Nat.lt_succ_self _) (by omega)))
      · dsimp only
        have hpb : (pendingOf st').back? = some (0, n1, 0) := by rw [k4]; rfl
        have back : ∀ pw, (((pendingOf st').modify ((pendingOf st').size - 1) fun x => (x.1, x.2.1, pw))).push (n1, e, 0) = #[(0, n1, pw), (n1, e, 0)] := by
          intro pw
          rw [k4]
          apply Array.toList_inj.mp
          simp
        refine wpS_join ?_ fun hm hy => ?_
        rotate_left
        · refine wpS_bind (wpS_lift (wpAny_rule ⟨rfl, ?_⟩))
          rw [Nat.min_eq_left (Nat.le_of_lt hm)]
          refine wpS_bind (wpS_binaryNone he1 ?_)
          refine wpS_neg (show ¬ ((!true) = true) by decide) ?_
          exact hy
        · refine wpS_bind (wpS_get ?_)
          rw [hpb]
          dsimp only
          refine wpS_bind (wpS_mono (forRange_L (I := fun x c st'' => x = 0 ∧ st'' = st' ∧ c = (none, ())) (Q := fun c st'' => st'' = st' ∧ c = (none, ())) ?_ ?_ ⟨rfl, rfl, rfl⟩) ?_)
          · intro G hG
            rintro x c st'' _ _ ⟨rfl, rfl, rfl⟩
            refine hG _ _ _ ?_
            clear hG G
            refine wpS_bind (wpS_get ?_)
            (try dsimp only)
            rw [k4]
            exact wpS_pure ⟨rfl, rfl⟩
          · rintro c st'' ⟨hx, _⟩
            exact absurd hx (by decide)
          · rintro c st'' ⟨rfl, rfl⟩
            dsimp only
            refine wpS_bind (wpS_modify (wpS_bind (wpS_modify (wpS_pure (.inr ⟨k1, k2, kg, k3, .inr ⟨Nat.le_succ _, ?_, .inr ⟨hr1, hlt, _, back _⟩⟩⟩)))))
            rw [he]
    · dsimp only
      refine wpS_pos (Nat.le_refl _) ?_
      exact wpS_pure ⟨k1, k2, kg, k3, rfl, k5⟩
  case post =>
    rintro c st' ⟨k1, k2, kg, k3, rfl, k5⟩
    dsimp only
    refine wpS_bind (wpS_mono (forRange_L
      (I := fun x c st'' => c = (none, ()) ∧ failedOf st'' = none ∧ ((x = 0 ∧ st'' = st' ∧ 1 ≤ r ∧ n1 < 256 ∧ ∃ pw, pendingOf st'' = #[(0, n1, pw), (n1, e, 0)]) ∨ (RotAt (arrOf st) r d (arrOf st'') ∧ ∃ q, pendingOf st'' = #[(0, 256, q)])))
      (Q := fun c st'' => c = (none, ()) ∧ failedOf st'' = none ∧ RotAt (arrOf st) r d (arrOf st'')) ?_ ?_ ?_) ?_)
    · intro G hG
      rintro x c st'' _ hx ⟨rfl, j1, ⟨rfl, rfl, j2, j3, pw, j4⟩ | ⟨j2, q, j4⟩⟩
      all_goals (refine hG _ _ _ ?_; clear hG G)
      · refine wpS_bind (wpS_get ?_)
        (try dsimp only)
        rw [j4]
        refine wpS_neg (by show ¬ 2 ≤ 1; decide) ?_
        refine wpS_bind (wpS_mergeRot (pw := pw) (p2 := 0) k1 R k3 j2 (by omega) hd1 (by omega) k2 kg j4 fun st3 d1 d2 d3 d4 => ?_)
        refine wpS_neg (show ¬ ((!true) = true) by decide) ?_
        rw [he] at d3
        rw [show d = _ from Nat.add_right_cancel (hd.trans (he.symm.trans (by rw [hd1]; exact Nat.add_right_comm _ _ _)))]
        exact wpS_pure ⟨rfl, d2, .inr ⟨d4, _, d3⟩⟩
      · refine wpS_bind (wpS_get ?_)
        (try dsimp only)
        rw [j4]
        refine wpS_pos (by show 1 ≤ 1; decide) ?_
        exact wpS_pure ⟨rfl, j1, j2⟩
    · rintro c st'' ⟨rfl, j1, ⟨hx, _⟩ | ⟨j2, _⟩⟩
      · exact absurd hx (by decide)
      · exact ⟨rfl, j1, j2⟩
    · refine ⟨rfl, k2, ?_⟩
      rcases k5 with ⟨e, k6⟩ | ⟨hr1, hlt, pw, k6⟩
      · obtain rfl : d1 = d := Nat.add_right_cancel (hd1.symm.trans (e.trans hd.symm))
        exact .inr ⟨k3, _, k6⟩
      · exact .inl ⟨rfl, rfl, hr1, hlt, pw, k6⟩
    · rintro c st'' ⟨rfl, j1, j2⟩
      exact wpS_pure (h _ j1 j2)
end
end
section
open PySem PySem.W PyProof.Rows PySem.Spec PySem.Calls
set_option maxRecDepth 100000
set_option maxHeartbeats 40000000
set_option linter.unusedVariables false
theorem fresh_S4 : True := by
  w_top off
  trivial
open PySem PySem.W PyProof.Rows PySem.Spec PySem.Calls
set_option maxRecDepth 100000
set_option maxHeartbeats 40000000
set_option linter.unusedVariables false
theorem pairs_get (vs : List Value) (i : Nat) : (pairsOf vs)[i]? = vs[i]?.map fun v => (v, v) := by
  rw [← Array.getElem?_toList, pairsOf_toList]
  induction vs generalizing i with
  | nil => simp
  | cons v vs ih => cases i with
    | zero => simp
    | succ i => simpa using ih i
theorem pairs_els {vs : List Value} {ns : List Int} (hI : IntsAre vs ns) : Els (pairsOf vs) := fun i hi => by
  rw [pairsOf_size] at hi
  obtain ⟨n, t, e⟩ := hI.all vs[i] (List.getElem_mem hi)
  exact ⟨(vs[i], vs[i]), by rw [pairs_get, List.getElem?_eq_getElem hi]; rfl, n, t, e⟩
theorem pairs_K {vs : List Value} {ns : List Int} (hI : IntsAre vs ns) {i : Nat} (hi : i < ns.length) : K (pairsOf vs) i = ns.getD i 0 := by
  have hl := hI.length
  have e : vs[i]? = some (vs[i]'(by omega)) := List.getElem?_eq_getElem _
  unfold K
  rw [pairs_get, e]
  show numOf (vs[i]'(by omega)) = _
  have := hI.nums
  subst this
  simp at hi ⊢
  simp [hi]
theorem turned_out {vs : List Value} {ns : List Int} {r d : Nat} {xs : Array Keyed} (hI : IntsAre vs ns) (hn : ns.length = d + r) (h : RotAt (pairsOf vs) r d xs) : IntsAre (xs.map (·.2)).toList (ns.drop r ++ ns.take r) := by
  have hl : vs.length = d + r := hI.length.trans hn
  have hld : (vs.drop r).length = d := by rw [List.length_drop, hl, Nat.add_sub_cancel]
  have hp : ∀ i, ((pairsOf vs)[i]?).map (fun x : Keyed => x.2) = vs[i]? := fun i => by rw [pairs_get]; cases vs[i]? <;> rfl
  have e : (xs.map (·.2)).toList = vs.drop r ++ vs.take r := by
    apply List.ext_getElem?
    intro i
    rw [Array.getElem?_toList, Array.getElem?_map]
    rcases three d r i with c | ⟨j, rfl, c⟩ | c
    · rw [h.lo i c, hp, List.getElem?_append_left (hld.symm ▸ c), List.getElem?_drop, Nat.add_comm]
    · rw [h.mid j c, hp, List.getElem?_append_right (by rw [hld]; exact Nat.le_add_right _ _), hld, Nat.add_sub_cancel_left, List.getElem?_take_of_lt c]
    · rw [h.hi i c, hp, List.getElem?_eq_none (by rw [hl]; exact c), List.getElem?_eq_none (by rw [List.length_append, hld, List.length_take, hl, Nat.min_eq_left (Nat.le_add_left _ _)]; exact c)]
  rw [e]
  have := intsAre_map (vs.drop r ++ vs.take r) (fun v hv => by
    rcases List.mem_append.mp hv with h | h
    · exact hI.all _ (List.mem_of_mem_drop h)
    · exact hI.all _ (List.mem_of_mem_take h))
  rw [List.map_append, List.map_drop, List.map_take, hI.nums] at this
  exact this
/-- two rows that go up, all of the first over all of the second -/
structure Turned (ns : List Int) (r : Nat) : Prop where
  up1 : ∀ i j, i < j → j < r → ns.getD i 0 < ns.getD j 0
  up2 : ∀ i j, r ≤ i → i < j → j < ns.length → ns.getD i 0 < ns.getD j 0
  ov : ∀ i j, i < r → r ≤ j → j < ns.length → ns.getD j 0 < ns.getD i 0
theorem Turned.rot {vs : List Value} {ns : List Int} {r : Nat} (T : Turned ns r) (hI : IntsAre vs ns) (hr : r ≤ ns.length) : RotK (pairsOf vs) r := by
  have hs : (pairsOf vs).size = ns.length := by rw [pairsOf_size, hI.length]
  refine ⟨pairs_els hI, fun i j h1 h2 => ?_, fun i j h1 h2 h3 => ?_, fun i j h1 h2 h3 => ?_⟩
  · rw [pairs_K hI (by omega), pairs_K hI (by omega)]; exact T.up1 i j h1 h2
  · rw [pairs_K hI (by omega), pairs_K hI (by omega)]; exact T.up2 i j h1 h2 (by omega)
  · rw [pairs_K hI (by omega), pairs_K hI (by omega)]; exact T.ov i j h1 h2 (by omega)
section
variable {prog : Program} {w : World} {A : Around} {E : Value → Shared → Prop} {s : Shared}
theorem sort_tree_rot {a : Addr} {vs : List Value} {ns : List Int} {n r : Nat} {P : Fin → Shared → Prop} (ho : s.heap.get? a = some (seqObj "list" vs.toArray n))
    (hI : IntsAre vs ns) (hlen : ns.length = 256) (hr : r < 256) (T : Turned ns r)
    (h : ∀ out : Array Value, IntsAre out.toList (ns.drop r ++ ns.take r) → P (.done (.ret .none)) { s with heap := sortedHeap s.heap a vs out }) :
    wpAny (model prog w) A (Builtin.«list.sort» ⟨[.ref a], []⟩) P E s := by
  have hl : vs.length = 256 := by rw [← hI.length] at hlen; exact hlen
  rw [list_sort_plain]
  have ha : a < s.heap.objs.size := Heap.lt_size ho
  refine wpAny_bind (listItems_at ho rfl ?_)
  refine wpAny_bind (listUpdate_at ho rfl ?_ (hsz := by simp only [List.size_toArray, sizeLine_eq]; omega))
  obtain ⟨e1, ho1⟩ : ∃ e1, (s.heap.update a (Obj.mapSeq fun _ => #[])).get? a = some (seqObj "list" #[] e1) := ⟨_, get?_update_seq ho (fun _ => #[])⟩
  refine wpAny_bind (seqEpoch_at ho1 rfl ?_)
  refine wpAny_bind (wpAny_newTuple ?_)
  refine wpAny_bind (wpAny_newList ?_)
  refine wpAny_holding ?_
  have ho6 : (((s.heap.update a (Obj.mapSeq fun _ => #[])).push (seqObj "tuple" vs.toArray 0)).push (seqObj "list" #[] 0)).get? a = some (seqObj "list" #[] e1) := by
    rw [Heap.get?_push_ne _ _ _ (by rw [size_push', Heap.size_update]; exact Nat.ne_of_lt (Nat.lt_succ_of_lt ha)), Heap.get?_push_ne _ _ _ (by rw [Heap.size_update]; exact Nat.ne_of_lt ha)]
    exact ho1
  show wpAny (model prog w) A _ P E { s with heap := ((s.heap.update a (Obj.mapSeq fun _ => #[])).push (seqObj "tuple" vs.toArray 0)).push (seqObj "list" #[] 0) }
  dsimp only
  have hsz : vs.toArray.size = 256 := by simp [hl]
  have h2 : ¬ vs.toArray.size < 2 := by omega
  have hps : (pairsOf vs).size = 256 := by rw [pairsOf_size, hl]
  rw [if_neg h2, if_neg h2]
  have hkk : keyKind' vs.toArray = pure oneType' := by
    match vs, hI, hl with
    | v₁ :: v₂ :: rest, hI, _ => exact keyKind_ints hI
  rw [hkk]
  refine wpAny_bind (wpAny_pure ?_)
  obtain ⟨d, hd⟩ : ∃ d, d + r = 256 := ⟨256 - r, Nat.sub_add_cancel (Nat.le_of_lt hr)⟩
  refine wpAny_bind (wpAny_mono (wpS_sortRot (a := pairsOf vs) (r := r) (st := SortSt.mk' oneType' (vs.toArray.zip vs.toArray) #[] 7 none)
    (Q := fun _ st' => RotAt (pairsOf vs) r d (arrOf st') ∧ failedOf st' = none) rfl (T.rot hI (by omega)) rfl hps hr hd rfl (show 0 < 7 by decide) rfl fun st' a1 a2 => ⟨a2, a1⟩) ?_ fun _ _ e => e)
  rintro ⟨⟨⟩, st'⟩ s' ⟨rfl, hp, hf⟩
  dsimp only
  refine wpAny_bind (seqEpoch_at ho6 rfl ?_)
  refine wpAny_bind (listUpdate_at ho6 rfl ?_ (hsz2 := by rw [Array.size_map, hp.sz, hps, sizeLine_eq]; omega))
  rw [hf]
  simp only [bne_self_eq_false, Bool.false_eq_true, if_false]
  exact wpAny_pure (h _ (turned_out hI (hlen.trans hd.symm) hp))
theorem sorted_rot {h₀ : Heap} {L : Addr} {m : Str → Option Value} {news : List (Addr × Obj)} {l : Addr} {vs : List Value} {ns : List Int} {r : Nat} {Q : Value → Shared → Prop}
    (F : Fr h₀ L s.heap m) (N : News h₀ L s.heap news) (hl : s.heap.IsList l vs.toArray) (hI : IntsAre vs ns) (hlen : ns.length = 256) (hr : r < 256) (T : Turned ns r)
    (h : ∀ (D : Addr) (h' : Heap) (vs' : List Value) (e : Nat), Fr h₀ L h' m → News h₀ L h' ((D, seqObj "list" vs'.toArray e) :: news) → (∀ q ∈ news, q.1 < D) →
      IntsAre vs' (ns.drop r ++ ns.take r) → Q (.ref D) { s with heap := h' }) :
    wpAny (model prog w) A (call (.builtin "sorted") [.ref l]) Q E s := by
  have hvl : vs.length = 256 := by rw [← hI.length] at hlen; exact hlen
  refine Calls.call_function_entry kind_sorted plain_sorted entry_sorted (args_sorted1 _) ?_
  unfold Builtin.«sorted»
  refine wpAny_bind (m := checkCount "sorted" 1 1 _) (wpAny_pure ?_)
  refine wpAny_bind (collect_list hl ?_ (hsz := by rw [hvl, sizeLine_eq]; omega))
  refine wpAny_bind (wpAny_newList ?_)
  have hsz : ((s.heap.push (seqObj "list" #[] 0)).update s.heap.objs.size (Obj.mapSeq (· ++ vs.toArray))).objs.size = s.heap.objs.size + 1 := by
    rw [Heap.size_update, size_push']
  have hoL : (((s.heap.push (seqObj "list" #[] 0)).update s.heap.objs.size (Obj.mapSeq (· ++ vs.toArray))).push (seqObj "list" vs.toArray 0)).get? (s.heap.objs.size + 1) = some (seqObj "list" vs.toArray 0) := by
    rw [← hsz]; exact Heap.get?_push_size _ rfl
  show wpAny _ _ _ _ _ { s with heap := ((s.heap.push (seqObj "list" #[] 0)).update s.heap.objs.size (Obj.mapSeq (· ++ vs.toArray))).push (seqObj "list" vs.toArray 0) }
  rw [hsz]
  refine wpAny_bind (wpAny_holding (wpAny_call_entry slot_list_sort ⟨_, hoL, rfl⟩ entry_list_sort (sort_tree_rot hoL hI hlen hr T fun out a1 => ⟨_, rfl, ?_⟩) (args_list_sort _)))
  refine wpAny_pure ⟨_, rfl, ?_⟩
  obtain ⟨e, he⟩ := sortedAll_at s.heap vs out
  exact h _ _ out.toList e (F.kept fun _ _ => sortedAll_old) (N.kept_cons F (fun _ _ => sortedAll_old) (Nat.le_succ _) he) (fun p hp => Nat.lt_succ_of_lt (Heap.lt_size (N p hp).1)) a1
end
end
section
open PySem PySem.W PyProof.Rows PySem.Spec PySem.Calls
set_option maxRecDepth 100000
set_option maxHeartbeats 8000000
theorem fresh_C1 : True := by
  w_top off
  trivial
open PySem PySem.W PyProof.Rows PySem.Spec PySem.Calls
set_option maxRecDepth 100000
set_option maxHeartbeats 8000000
theorem fill_dummy : (∃ K : Params → Frag, K = MineH.hd.heap_39) ∧ PySem.Challenge.rw_pb0522_01 = PySem.Challenge.rw_pb0522_01 := by
  k_fill
  exact ⟨⟨_, rfl⟩, rfl⟩
end
open PySem PySem.W PyProof.Rows PySem.Spec PySem.Calls
local macro_rules | `(tactic| k_all) => `(tactic| assumption)
section
open PySem PySem.W PyProof.Rows PySem.Spec PySem.Calls
set_option maxRecDepth 100000
set_option maxHeartbeats 8000000
end
local macro_rules | `(tactic| walk_at "my news") => `(tactic| (first | k_asm | exact news_rot ‹_› | exact news_pull2 ‹_› | exact news_pull3 ‹_› | exact news_pull4 ‹_› | exact news_pull5 ‹_›))
section
open PySem PySem.W PyProof.Rows PySem.Spec PySem.Calls
set_option maxRecDepth 100000
set_option maxHeartbeats 8000000
end
local macro_rules | `(tactic| walk_at "my off") => `(tactic| (repeat (first | assumption | refine all_ne1 (by k_ne) ?_)))
section
open PySem PySem.W PyProof.Rows PySem.Spec PySem.Calls
set_option maxRecDepth 100000
set_option maxHeartbeats 8000000
end
local macro_rules | `(tactic| walk_at "my end") => `(tactic| (k_whole; intros; (try dsimp only); (try k_fold)))
section
open PySem PySem.W PyProof.Rows PySem.Spec PySem.Calls
set_option maxRecDepth 100000
set_option maxHeartbeats 8000000
end
local macro_rules | `(tactic| walk_at "my ends") => `(tactic| ((k_whole; intros; (try dsimp only)); rotate_left; (k_whole; intros; (try dsimp only [List.cons_append, List.nil_append]); (try k_fold)); rotate_left))
section
open PySem PySem.W PyProof.Rows PySem.Spec PySem.Calls
set_option maxRecDepth 100000
set_option maxHeartbeats 8000000
theorem take_spec {w : World} {mean : ExcName → Option Value} {mg mb : Str → Option Value} {dp un : Nat} {gd : Option (List Code)} {cn : Str} {cs : Scope} {a : Addr} {ccd : Value} {cl : List (Str × Addr)} {outer : List Env} {A₀ : Around} {base h₀ : Heap} {L : Addr} {m : Str → Option Value} {s : Shared} {Q E : Value → Shared → Prop}
    {bx l : Nat} {vs : List Value} {ns : List Int} {k many : Int} {tk tm : Tok} {e1 e2 : Nat} {news : List (Addr × Obj)}
    (B : Below A₀ base outer h₀ := by k_asm) (F : Fr h₀ L s.heap m := by k_asm) (X : (MineH.hd.heap_39 w.params).In h₀ := by k_asm) (T : Top MineH.hd.view_39 (looseW MineH.hd.view_39 []) mean mg mb h₀ := by k_asm) (hk : cs.kind = .function := by first | exact rfl | assumption) (N : News h₀ L s.heap ((bx, listOf #[.ref l, .int k tk] e1) :: (l, listOf vs.toArray e2) :: news) := by walk_at "my news")
    (hI : IntsAre vs ns := by assumption) (hl : ns.length ≤ 24 := by assumption) (hk0 : 0 ≤ k := by omega) (hk1 : k < 2 ^ 40 := by omega) (hm : 0 < many := by first | decide | omega) (hm1 : many < 2 ^ 40 := by first | decide | omega) (hbl : bx ≠ l := by assumption) (hbl2 : l ≠ bx := by assumption) (hn : ∀ p ∈ news, p.1 ≠ bx := by walk_at "my off")
    (hd : dp + 2 < recursionLimit := by ktr_room) (hu : un + 16 < cLine := by ktr_units)
    (hret : ∀ (r : Int) (t tk2 : Tok) (h' : Heap) (tk' : Nat), 0 ≤ r → r < many → Fr h₀ L h' m → News h₀ L h' ((bx, listOf #[.ref l, .int (k + 1) tk2] e1) :: (l, listOf vs.toArray e2) :: news) → Q (.int r t) { s with heap := h', toks := tk' }) :
    wpAny (model PySem.Challenge.rw_pb0522_01.row.prog w) (ktrTop dp un gd cn cs L a ccd cl outer) (call (.ref 181) [.ref bx, .int many tm]) Q E s := by
  refine wpAny_call ?_
  k_dflt cell_enter
  refine wpAny_never ?_
  k_steps
  all_goals (refine' hret _ _ _ _ _ ?p1 ?p2 ?p3 ?p4; (case p4 => k_asm); (case p3 => k_asm); (case p1 => exact Int.fmod_nonneg_of_pos _ hm); (case p2 => exact Int.fmod_lt_of_pos _ hm))
end
section
open PySem PySem.W PyProof.Rows PySem.Spec PySem.Calls
set_option maxRecDepth 100000
set_option maxHeartbeats 8000000
theorem fresh_C2 : True := by
  w_top off
  trivial
open PySem PySem.W PyProof.Rows PySem.Spec PySem.Calls
set_option maxRecDepth 100000
set_option maxHeartbeats 8000000
theorem fill_dummy2 : (∃ K : Params → Frag, K = MineH.hd.heap_39) ∧ PySem.Challenge.rw_pb0522_01 = PySem.Challenge.rw_pb0522_01 := by
  k_fill
  exact ⟨⟨_, rfl⟩, rfl⟩
/-- what restore_number answers -/
def restoreI (t win coming : Int) : Int :=
  let found := Int.fdiv coming win * win + t
  if found ≤ coming - Int.fdiv win 2 ∧ found < 2 ^ 62 - win then found + win
  else if found > coming + Int.fdiv win 2 ∧ found ≥ win then found - win
  else found
def SeenV (v : Value) (coming : Int) : Prop := (v = .none ∧ coming = 0) ∨ ∃ n t, v = .int n t ∧ coming = n + 1 ∧ 0 ≤ n ∧ n < 2 ^ 62
section
variable {t w c : Int}
theorem e62 : (1 : Int) * 2 ^ Int.toNat 62 = 2 ^ 62 := by decide +kernel
theorem rest1 (h1 : Int.fdiv c w * w + t ≤ c - Int.fdiv w 2) (h2 : Int.fdiv c w * w + t < 1 * 2 ^ Int.toNat 62 - w) : restoreI t w c = Int.fdiv c w * w + t + w := if_pos ⟨h1, by rw [← e62]; exact h2⟩
theorem rest2 (hh : 0 ≤ Int.fdiv w 2) (h1 : Int.fdiv c w * w + t ≤ c - Int.fdiv w 2) (h2 : ¬ Int.fdiv c w * w + t < 1 * 2 ^ Int.toNat 62 - w) : restoreI t w c = Int.fdiv c w * w + t :=
  (if_neg fun z => h2 (by rw [e62]; exact z.2)).trans (if_neg fun z => by have := z.1; omega)
theorem rest3 (h1 : ¬ Int.fdiv c w * w + t ≤ c - Int.fdiv w 2) (h2 : c + Int.fdiv w 2 < Int.fdiv c w * w + t) (h3 : w ≤ Int.fdiv c w * w + t) : restoreI t w c = Int.fdiv c w * w + t - w := (if_neg fun z => h1 z.1).trans (if_pos ⟨h2, h3⟩)
theorem rest4 (h1 : ¬ Int.fdiv c w * w + t ≤ c - Int.fdiv w 2) (h2 : c + Int.fdiv w 2 < Int.fdiv c w * w + t) (h3 : ¬ w ≤ Int.fdiv c w * w + t) : restoreI t w c = Int.fdiv c w * w + t := (if_neg fun z => h1 z.1).trans (if_neg fun z => h3 z.2)
theorem rest5 (h1 : ¬ Int.fdiv c w * w + t ≤ c - Int.fdiv w 2) (h2 : ¬ c + Int.fdiv w 2 < Int.fdiv c w * w + t) : restoreI t w c = Int.fdiv c w * w + t := (if_neg fun z => h1 z.1).trans (if_neg fun z => h2 z.1)
end
theorem restore_spec {w : World} {mean : ExcName → Option Value} {mg mb : Str → Option Value} {dp un : Nat} {gd : Option (List Code)} {cn : Str} {cs : Scope} {a : Addr} {ccd : Value} {cl : List (Str × Addr)} {outer : List Env} {A₀ : Around} {base h₀ : Heap} {L : Addr} {m : Str → Option Value} {s : Shared} {Q E : Value → Shared → Prop}
    {x : Int} {size coming : Int} {v : Value} {tk tm : Tok} {news : List (Addr × Obj)}
    (B : Below A₀ base outer h₀ := by k_asm) (F : Fr h₀ L s.heap m := by k_asm) (X : (MineH.hd.heap_39 w.params).In h₀ := by k_asm) (T : Top MineH.hd.view_39 (looseW MineH.hd.view_39 []) mean mg mb h₀ := by k_asm) (hk : cs.kind = .function := by first | exact rfl | assumption) (N : News h₀ L s.heap news := by walk_at "my news")
    (hs1 : 1 ≤ size := by decide) (hs2 : size ≤ 2 := by decide) (hv : SeenV v coming := by assumption) (hx : 0 ≤ x := by omega) (hx1 : x < 65536 := by omega)
    (hd : dp + 2 < recursionLimit := by ktr_room) (hu : un + 16 < cLine := by ktr_units)
    (hret : ∀ (t : Tok) (h' : Heap) (tk' : Nat), Fr h₀ L h' m → News h₀ L h' news → Q (.int (restoreI x (1 * 2 ^ (8 * size).toNat) coming) t) { s with heap := h', toks := tk' }) :
    wpAny (model PySem.Challenge.rw_pb0522_01.row.prog w) (ktrTop dp un gd cn cs L a ccd cl outer) (call (.ref 118) [.int x tk, .int size tm, v]) Q E s := by
  have hW : (2 : Int) ^ (8 * size).toNat = 256 ∨ (2 : Int) ^ (8 * size).toNat = 65536 := by
    rcases (show size = 1 ∨ size = 2 by omega) with rfl | rfl
    · exact .inl rfl
    · exact .inr rfl
  have hWh : 0 ≤ Int.fdiv (1 * (2 : Int) ^ (8 * size).toNat) 2 := by rcases hW with h | h <;> rw [h] <;> decide
  have hW0 : 0 < (2 : Int) ^ (8 * size).toNat := by omega
  have hW1 : (2 : Int) ^ (8 * size).toNat ≤ 65536 := by omega
  refine wpAny_call ?_
  k_dflt cell_enter
  refine wpAny_never ?_
  (with_reducible rename Fr _ _ _ _ => kF)
  (with_reducible rename News _ _ _ _ => kN)
  refine join_int kF kN (Str.ofString "expected") coming ?_ ?_
  · rcases hv with ⟨rfl, rfl⟩ | ⟨n, t, rfl, rfl, hn0, hn1⟩
    all_goals (
      k_steps
      unfold Halt
      (with_reducible rename Fr _ _ _ _ => kF1)
      (with_reducible rename News _ _ _ _ => kN1)
      exact ⟨rfl, _, _, _, rfl, kF1, kN1⟩)
  clear kF kN hv
  intro h2 tk2 t2 kF kN
  (try dsimp only)
  k_steps
  all_goals (refine' cb_retI (Q := Q) (x := restoreI _ _ _) hret ?e1 ?e2 ?e3; (case e2 => k_asm); (case e3 => k_asm); (case e1 => first | exact (rest1 (by assumption) (by assumption)).symm | exact (rest2 hWh (by assumption) (by assumption)).symm | exact (rest3 (by assumption) (by assumption) (by assumption)).symm | exact (rest4 (by assumption) (by assumption) (by assumption)).symm | exact (rest5 (by assumption) (by assumption)).symm))
end
section
open PySem PySem.W PyProof.Rows PySem.Spec PySem.Calls
set_option maxRecDepth 100000
set_option maxHeartbeats 40000000
set_option linter.unusedVariables false
theorem fresh_M8 : True := by
  w_top off
  trivial
open PySem PySem.W PyProof.Rows PySem.Spec PySem.Calls
set_option maxRecDepth 100000
set_option maxHeartbeats 40000000
set_option linter.unusedVariables false
/-- where the restored number stands: one of three, within a window from low on -/
theorem restore_in {A t W H low c : Int} (hW : 2 * H = W) (hH : 1 ≤ H) (t0 : 0 ≤ t) (t1 : t < W) (a0 : 0 ≤ A) (a1 : A ≤ c) (a2 : c < A + W) (a3 : A + W ≤ 4611686018427387904)
    (l0 : 0 ≤ low) (l1 : low ≤ 4611686018427387904 - W) (l2 : low ≤ c - H + 1 ∨ low = 0) (l3 : c - H + 1 ≤ low ∨ low = 4611686018427387904 - W) :
    ∃ R, (R = A + t ∨ R = A + t + W ∨ R = A + t - W) ∧ low ≤ R ∧ R < low + W ∧ (if A + t ≤ c - H ∧ A + t < 4611686018427387904 - W then A + t + W else if A + t > c + H ∧ A + t ≥ W then A + t - W else A + t) = R := by
  subst hW
  by_cases b1 : A + t ≤ c - H ∧ A + t < 4611686018427387904 - 2 * H
  · refine ⟨_, .inr (.inl rfl), ?_, ?_, if_pos b1⟩
    · have : 0 ≤ A + t + 2 * H ∧ c - H + 1 ≤ A + t + 2 * H := by clear l0 l1 l2 l3 b1; omega
      exact l2.elim (fun h => Int.le_trans h this.2) fun h => h ▸ this.1
    · exact Int.add_lt_add_right (l3.elim (fun h => Int.lt_of_lt_of_le (Int.lt_add_one_of_le b1.1) h) fun h => h ▸ b1.2) _
  · by_cases b2 : A + t > c + H ∧ A + t ≥ 2 * H
    · refine ⟨_, .inr (.inr rfl), ?_, ?_, (if_neg b1).trans (if_pos b2)⟩
      · have : c - H + 1 ≤ A + t - 2 * H := by clear l0 l1 l2 l3 b1; have := b2.1; clear b2; omega
        exact l2.elim (fun h => Int.le_trans h this) fun h => h ▸ Int.sub_nonneg_of_le b2.2
      · have : A + t - 2 * H < 0 + 2 * H + c ∧ A + t - 2 * H < c - H + 1 + 2 * H ∧ A + t - 2 * H < 4611686018427387904 - 2 * H + 2 * H := by clear l0 l1 l2 l3 b1 b2; omega
        exact l3.elim (fun h => Int.lt_of_lt_of_le this.2.1 (Int.add_le_add_right h _)) fun h => h ▸ this.2.2
    · refine ⟨_, .inl rfl, ?_, ?_, (if_neg b1).trans (if_neg b2)⟩
      · by_cases c1 : A + t ≤ c - H
        · exact Int.le_trans l1 (Int.not_lt.mp fun q => b1 ⟨c1, q⟩)
        · exact l2.elim (fun h => Int.le_trans h (Int.add_one_le_of_lt (Int.not_le.mp c1))) fun h => h ▸ Int.add_nonneg a0 t0
      · by_cases c1 : A + t > c + H
        · exact Int.lt_of_lt_of_le (Int.not_le.mp fun q => b2 ⟨c1, q⟩) (Int.le_add_of_nonneg_left l0)
        · have : A + t < c - H + 1 + 2 * H ∧ A + t < 4611686018427387904 - 2 * H + 2 * H := by clear l0 l1 l2 l3 b1 b2; omega
          exact l3.elim (fun h => Int.lt_of_lt_of_le this.1 (Int.add_le_add_right h _)) fun h => h ▸ this.2
/-- low, as the law says it -/
theorem low_facts {H W c low : Int} (hH : 1 ≤ H) (hW : W = 2 * H) (hM : W ≤ 65536) (h0 : 0 ≤ c) (h : low = if c < H then 0 else min (c - (H - 1)) (4611686018427387904 - W)) :
    0 ≤ low ∧ low ≤ 4611686018427387904 - W ∧ (low ≤ c - H + 1 ∨ low = 0) ∧ (c - H + 1 ≤ low ∨ low = 4611686018427387904 - W) := by
  by_cases hc : c < H
  · rw [if_pos hc] at h
    subst h
    exact ⟨Int.le_refl _, by omega, .inr rfl, .inl (by omega)⟩
  · rw [if_neg hc, Int.min_def] at h
    split at h
    · subst h; exact ⟨by omega, by assumption, .inl (by omega), .inl (by omega)⟩
    · subst h; exact ⟨by omega, Int.le_refl _, .inl (by omega), .inr rfl⟩
theorem two62 : (2 : Int) ^ 62 = 4611686018427387904 := rfl
end
section
open PySem PySem.W PyProof.Rows PySem.Spec PySem.Calls
set_option maxRecDepth 100000
set_option maxHeartbeats 40000000
set_option linter.unusedVariables false
theorem fresh_M5 : True := by
  w_top off
  trivial
open PySem PySem.W PyProof.Rows PySem.Spec PySem.Calls
set_option maxRecDepth 100000
set_option maxHeartbeats 40000000
set_option linter.unusedVariables false
def lowI (c : Int) : Int := if c < 128 then 0 else min (c - 127) 4611686018427387648
theorem lowI_1 {c : Int} (h : c < 128) : lowI c = 0 := if_pos h
theorem lowI_2 {c : Int} (h : ¬ c < 128) : lowI c = if 4611686018427387648 < c - 127 then 4611686018427387648 else c - 127 := by
  unfold lowI
  rw [if_neg h, Int.min_def]
  (repeat' split) <;> omega
theorem lowI_bnd {c : Int} (h0 : 0 ≤ c) : 0 ≤ lowI c ∧ lowI c ≤ 4611686018427387648 := by
  by_cases h : c < 128
  · rw [lowI_1 h]; decide
  · rw [lowI_2 h]; split <;> omega
theorem restore_byte {c o : Int} (h0 : 0 ≤ c) (h1 : c ≤ 4611686018427387903) (hx0 : 0 ≤ o) (hx1 : o ≤ 255) : restoreI o 256 c = lowI c + (o - lowI c) % 256 := by
  obtain ⟨l0, l1, l2, l3⟩ := low_facts (H := 128) (W := 256) (by decide) (by decide) (by decide) h0 (low := lowI c) rfl
  obtain ⟨R, hR, r0, r1, e⟩ := restore_in (A := c / 256 * 256) (W := 256) (H := 128) (by decide) (by decide) hx0 (Int.lt_add_one_of_le hx1) (by omega) (by omega) (by omega) (by omega) l0 l1 l2 l3
  unfold restoreI
  rw [two62, Int.fdiv_eq_ediv_of_nonneg _ (by decide : (0:Int) ≤ 256), Int.fdiv_eq_ediv_of_nonneg _ (by decide : (0:Int) ≤ 2)]
  refine Eq.trans e ?_
  clear e l0 l1 l2 l3
  generalize lowI c = low at *
  omega
/-- what the 256 octets are restored to -/
def toldI (c : Int) : List Int := (rangeKs 0 256).map fun k => restoreI k 256 c
theorem toldI_length (c : Int) : (toldI c).length = 256 := by unfold toldI; rw [List.length_map, rangeKs_length]
theorem toldI_getD {c : Int} (h0 : 0 ≤ c) (h1 : c ≤ 4611686018427387903) {i : Nat} (hi : i < 256) : (toldI c).getD i 0 = lowI c + ((i : Int) - lowI c) % 256 := by
  have e : (toldI c).getD i 0 = restoreI (i : Int) 256 c := by
    unfold toldI rangeKs
    simp [hi]
  rw [e]
  exact restore_byte h0 h1 (by omega) (by omega)
theorem toldI_mod {c : Int} (h0 : 0 ≤ c) (h1 : c ≤ 4611686018427387903) {i : Nat} (hi : i < 256) : Int.fmod ((toldI c).getD i 0) 256 = (i : Int) := by
  rw [toldI_getD h0 h1 hi, Int.fmod_eq_emod_of_nonneg _ (by decide : (0:Int) ≤ 256)]
  omega
def turnI (c : Int) : Nat := (lowI c % 256).toNat
theorem turnI_lt (c : Int) : turnI c < 256 := by unfold turnI; omega
theorem turnI_eq (c : Int) : (turnI c : Int) = lowI c % 256 := by unfold turnI; omega
theorem told_at {c : Int} (h0 : 0 ≤ c) (h1 : c ≤ 4611686018427387903) {i : Nat} (hi : i < 256) {v : Int} (e : lowI c + ((i : Int) - lowI c) % 256 = v) : (toldI c)[i]? = some v := by
  have hl := toldI_length c
  have := toldI_getD h0 h1 hi
  rw [List.getD_eq_getElem?_getD, List.getElem?_eq_getElem (hl.symm ▸ hi)] at this
  rw [List.getElem?_eq_getElem (hl.symm ▸ hi), ← e, ← this]
  rfl
theorem told_hi {c : Int} (h0 : 0 ≤ c) (h1 : c ≤ 4611686018427387903) {k : Nat} (h : turnI c + k < 256) : (toldI c)[turnI c + k]? = some (lowI c + (k : Int)) := told_at h0 h1 h (by
  have := turnI_eq c
  omega)
theorem told_lo {c : Int} (h0 : 0 ≤ c) (h1 : c ≤ 4611686018427387903) {d i : Nat} (hd : d + turnI c = 256) (h : i < turnI c) : (toldI c)[i]? = some (lowI c + ((d + i : Nat) : Int)) := told_at h0 h1 (Nat.lt_trans h (turnI_lt c)) (by
  have := turnI_eq c
  omega)
theorem getD_of {l : List Int} {i : Nat} {v : Int} (h : l[i]? = some v) : l.getD i 0 = v := by rw [List.getD_eq_getElem?_getD, h]; rfl
theorem toldI_turned {c : Int} (h0 : 0 ≤ c) (h1 : c ≤ 4611686018427387903) : Turned (toldI c) (turnI c) := by
  have hl := toldI_length c
  obtain ⟨d, hd⟩ : ∃ d, d + turnI c = 256 := ⟨256 - turnI c, Nat.sub_add_cancel (Nat.le_of_lt (turnI_lt c))⟩
  refine ⟨fun i j h2 h3 => ?_, fun i j h2 h3 h4 => ?_, fun i j h2 h3 h4 => ?_⟩
  · rw [getD_of (told_lo h0 h1 hd (Nat.lt_trans h2 h3)), getD_of (told_lo h0 h1 hd h3)]
    exact Int.add_lt_add_left (Int.ofNat_lt.mpr (Nat.add_lt_add_left h2 d)) _
  · rw [hl] at h4
    obtain ⟨k, rfl⟩ := Nat.exists_eq_add_of_le h2
    obtain ⟨m, rfl⟩ := Nat.exists_eq_add_of_le (Nat.le_trans h2 (Nat.le_of_lt h3))
    rw [getD_of (told_hi h0 h1 (Nat.lt_trans h3 h4)), getD_of (told_hi h0 h1 h4)]
    exact Int.add_lt_add_left (Int.ofNat_lt.mpr (Nat.lt_of_add_lt_add_left h3)) _
  · rw [hl] at h4
    obtain ⟨m, rfl⟩ := Nat.exists_eq_add_of_le h3
    rw [getD_of (told_hi h0 h1 h4), getD_of (told_lo h0 h1 hd h2)]
    exact Int.add_lt_add_left (Int.ofNat_lt.mpr (by omega)) _
theorem toldI_sorted {c : Int} (h0 : 0 ≤ c) (h1 : c ≤ 4611686018427387903) : (toldI c).drop (turnI c) ++ (toldI c).take (turnI c) = rangeKs (lowI c) 256 := by
  have hl := toldI_length c
  obtain ⟨d, hd⟩ : ∃ d, d + turnI c = 256 := ⟨256 - turnI c, Nat.sub_add_cancel (Nat.le_of_lt (turnI_lt c))⟩
  have hld : ((toldI c).drop (turnI c)).length = d := by rw [List.length_drop, hl, ← hd, Nat.add_sub_cancel]
  have er : ∀ {i : Nat}, i < 256 → (rangeKs (lowI c) 256)[i]? = some (lowI c + (i : Int)) := fun hi => by
    unfold rangeKs
    simp [hi]
  apply List.ext_getElem?
  intro i
  rcases three d (turnI c) i with h | ⟨j, rfl, h⟩ | h
  · rw [List.getElem?_append_left (hld.symm ▸ h), List.getElem?_drop, told_hi h0 h1 (by omega), er (by omega)]
  · rw [List.getElem?_append_right (by rw [hld]; exact Nat.le_add_right _ _), hld, Nat.add_sub_cancel_left, List.getElem?_take_of_lt h, told_lo h0 h1 hd h, er (by omega)]
  · rw [List.getElem?_eq_none (by rw [List.length_append, hld, List.length_take, hl]; omega), List.getElem?_eq_none (by rw [rangeKs_length, ← hd]; exact h)]
end
section
open PySem PySem.W PyProof.Rows PySem.Spec PySem.Calls
set_option maxRecDepth 100000
set_option maxHeartbeats 8000000
theorem fresh_C3 : True := by
  w_top off
  trivial
open PySem PySem.W PyProof.Rows PySem.Spec PySem.Calls
set_option maxRecDepth 100000
set_option maxHeartbeats 8000000
theorem fill_dummy3 : (∃ K : Params → Frag, K = MineH.hd.heap_39) ∧ PySem.Challenge.rw_pb0522_01 = PySem.Challenge.rw_pb0522_01 := by
  k_fill
  exact ⟨⟨_, rfl⟩, rfl⟩
end
local macro_rules | `(tactic| walk_at "setItem ref int") => `(tactic| (k_here; (with_reducible show wpAny _ _ (setItem (Value.ref _) (Value.int _ _) (Value.int _ _)) _ _ _); k_dflt (refine' baK_set (by k_asm) (by k_asm) (by k_upd) (by omega) (by (rw [baAt_size (by omega)]; omega)) (by (rw [baAt_size (by omega)]; omega)) (by exact Int.fmod_nonneg_of_pos _ (by decide)) (by exact Int.fmod_lt_of_pos _ (by decide)) ?_; k_whole); intro h' F' N'; (try k_sweep)))
section
open PySem PySem.W PyProof.Rows PySem.Spec PySem.Calls
set_option maxRecDepth 100000
set_option maxHeartbeats 8000000
end
local macro_rules | `(tactic| walk_at "call type:bytes") => `(tactic| (k_here; k_dflt (refine' baK_bytes (by k_asm) (by k_mem) (by (rw [List.size_toArray, beL_length]; omega)) ?_; k_whole); intro t' k'))
section
open PySem PySem.W PyProof.Rows PySem.Spec PySem.Calls
set_option maxRecDepth 100000
set_option maxHeartbeats 8000000
theorem put_spec {w : World} {mean : ExcName → Option Value} {mg mb : Str → Option Value} {dp un : Nat} {gd : Option (List Code)} {cn : Str} {cs : Scope} {a : Addr} {ccd : Value} {cl : List (Str × Addr)} {outer : List Env} {A₀ : Around} {base h₀ : Heap} {L : Addr} {m : Str → Option Value} {s : Shared} {Q E : Value → Shared → Prop}
    {n : Int} {size : Int} {tk tm : Tok} {news : List (Addr × Obj)}
    (B : Below A₀ base outer h₀ := by k_asm) (F : Fr h₀ L s.heap m := by k_asm) (X : (MineH.hd.heap_39 w.params).In h₀ := by k_asm) (T : Top MineH.hd.view_39 (looseW MineH.hd.view_39 []) mean mg mb h₀ := by k_asm) (hk : cs.kind = .function := by first | exact rfl | assumption) (N : News h₀ L s.heap news)
    (hs : size = 1 ∨ size = 2 ∨ size = 3 ∨ size = 4 ∨ size = 8) (hn0 : 0 ≤ n) (hn1 : n < 256 ^ size.toNat)
    (hd : dp + 2 < recursionLimit) (hu : un + 16 < cLine)
    (hret : ∀ (t : Tok) (h' : Heap) (tk' : Nat), Fr h₀ L h' m → News h₀ L h' news → Q (.bytes (beL size.toNat n).toArray t) { s with heap := h', toks := tk' }) :
    wpC (model PySem.Challenge.rw_pb0522_01.row.prog w) (ktrTop dp un gd cn cs L a ccd cl outer) (call (.ref 69) [.int n tk, .int size tm]) Q E s := by
  have hs1 : 1 ≤ size := by omega
  have hs2 : size ≤ 8 := by omega
  have hq : n.fdiv (2 ^ (8 * size).toNat) = 0 := by
    have e : (2 : Int) ^ (8 * size).toNat = 256 ^ size.toNat := by
      rcases hs with rfl | rfl | rfl | rfl | rfl <;> rfl
    rw [e, Int.fdiv_eq_ediv_of_nonneg _ (by rcases hs with rfl | rfl | rfl | rfl | rfl <;> decide)]
    exact Int.ediv_eq_zero_of_lt hn0 hn1
  refine wpC_call ?_
  k_dflt (refine' codeC_K ?k1 ?k2 ?k3 ?k4 ?k5 ?kA ?kF ?kK ?k6 ?k7 ?k8 ?k9 ?kB ?_ ?c2 ?c3 ?c4 ?c5; (case kA => exact rfl); (case kF => exact rfl); (case kK => assumption); (case k1 => k_asm); (case k2 => k_asm); (case k3 => k_asm); (case k4 => k_asm); (case k5 => k_asm); (case k6 => k_is); (case k7 => k_is); (case k8 => ktr_room); (case k9 => exact BindsTo.of_eq rfl); (case c5 => decide); (case kB => exact locs rfl); (case c2 => exact rfl); (case c3 => exact rfl); (case c4 => exact rfl); k_whole; intro g' L' h' FG' F' N' B' X' T'; (try dsimp only); (try k_lift B'))
  refine wpC_never ?_
  refine wpC_execs_safe ?_
  k_steps
  all_goals (try (exfalso; contradiction))
  dsimp only
  refine wpC_execs_cons (wpC_Assign (wpC_Call ?_))
  k_steps
  dsimp only
  refine callWithC_type (fun _ => ⟨_, .inr (.inl rfl), Looks.of_pure rfl⟩) ?_
  k_steps
  refine baK_new (by k_asm) (by k_asm) (by omega) (by omega) ?_
  intro D h' F' N' hD
  have hDn : ∀ p ∈ news, p.1 ≠ D := fun p hp => Nat.ne_of_lt (hD p hp)
  clear hD
  k_steps
  dsimp only
  refine wpC_any ?_
  rw [baAt_zero _ n] at *
  refine wpAny_execs_cons ?_
  (rename Fr _ _ _ _ => lF')
  (with_unfolding_all refine' For_invVF lF' ?k1 ?k2 ?_; (case k1 => exact rfl); (case k2 => exact rfl))
  refine wpAny_halt ?_
  k_steps
  unfold Halt
  (rename IsRange _ _ _ _ _ _ _ _ => hR)
  (with_reducible rename Fr _ _ _ _ => kF)
  (with_reducible rename News _ _ _ _ => kN)
  have hrs : Builtin.Range.rangeSize (size - 1) (-1) (-1) = ((size.toNat : Nat) : Int) := by
    unfold Builtin.Range.rangeSize
    rw [if_neg (by decide), if_pos (by omega)]
    show (size - 1 - -1 - 1) / 1 + 1 = _
    rw [Int.ediv_one]; omega
  have hsm : Builtin.Range.small (size - 1) (-1) (-1) = true := by
    unfold Builtin.Range.small
    rw [hrs]
    simp only [Builtin.Range.rangeFitsLong, Bool.and_eq_true, Bool.or_eq_true, decide_eq_true_eq]
    refine ⟨⟨⟨⟨⟨?_, ?_⟩, ?_⟩, ?_⟩, ?_⟩, .inr (by decide)⟩ <;> omega
  refine range_inv (fun i m' news' => (∃ u t, m' = fun y => if y = Str.ofString "place" then u else if y = Str.ofString "n" then some (.int (divN n i) t) else (fun y => if y = Str.ofString "found" then some (.ref D) else if y = Str.ofString "size" then some (.int size tm) else none) y) ∧ news' = (D, baOf (baAt size.toNat i n)) :: news) (by rfl) hR hsm hrs kF kN ?_ ?_ ?_
  · refine' ⟨⟨none, ?tt, ?ff⟩, rfl⟩
    case' ff => skip
    funext y
    by_cases e1 : y = Str.ofString "place"
    · subst e1; rfl
    by_cases e2 : y = Str.ofString "n"
    · subst e2; rfl
    by_cases e3 : y = Str.ofString "found"
    · subst e3; rfl
    by_cases e4 : y = Str.ofString "size"
    · subst e4; rfl
    simp only [if_neg e1, if_neg e2, if_neg e3, if_neg e4]
    show List.lookup y [(Str.ofString "size", _), (Str.ofString "n", _)] = none
    simp only [List.lookup, beq_eq_false_iff_ne.mpr e2, beq_eq_false_iff_ne.mpr e4]
  · rintro i t m₁ news₁ I it h tk hi off jj F₁ N₁
    refine hide fun G hG => ?_
    obtain ⟨⟨u, t', qe0⟩, qe1⟩ := jj
    refine hG ?_
    clear hG G
    subst qe0
    subst qe1
    clear kF kN hR
    have hDI : @Ne Nat I D := fun e => off _ (.head _) e.symm
    k_steps
    (with_reducible rename Fr _ _ _ _ => kF)
    (with_reducible rename News _ _ _ _ => kN)
    rw [baAt_set hi n _ (by omega)] at kN
    refine' UnrEnd.intro kF kN ((D, baOf (baAt size.toNat (i + 1) n)) :: news) (fun p hp => hp) ?oo ⟨⟨some (.int (size - 1 + ↑i * -1) t), ?tt2, ?ff2⟩, rfl⟩
    case' oo =>
      intro p hp
      rcases List.mem_cons.mp hp with rfl | hp
      · exact fun e => hDI e.symm
      · exact off p (.tail _ hp)
    case' ff2 =>
      funext y
      by_cases e1 : y = Str.ofString "place"
      · subst e1; rfl
      by_cases e2 : y = Str.ofString "n"
      · subst e2; rfl
      simp only [if_neg e1, if_neg e2]
  · rintro m₁ news₁ h tk jj F₁ N₁
    refine hide fun G hG => ?_
    obtain ⟨⟨u, t', qe0⟩, qe1⟩ := jj
    refine hG ?_
    clear hG G
    subst qe0
    subst qe1
    clear kF kN hR
    rw [baAt_last] at N₁
    k_steps
    exact hret _ _ _ (by k_asm) (cb_drop (by assumption) fun p hp => .tail _ hp)
end
section
open PySem PySem.W PyProof.Rows PySem.Spec PySem.Calls
set_option maxRecDepth 100000
set_option maxHeartbeats 8000000
set_option linter.unusedVariables false
theorem fresh_C4 : True := by
  w_top off
  trivial
open PySem PySem.W PyProof.Rows PySem.Spec PySem.Calls
set_option maxRecDepth 100000
set_option maxHeartbeats 8000000
set_option linter.unusedVariables false
theorem fill_dummy4 : (∃ K : Params → Frag, K = MineH.hd.heap_39) ∧ PySem.Challenge.rw_pb0522_01 = PySem.Challenge.rw_pb0522_01 := by
  k_fill
  exact ⟨⟨_, rfl⟩, rfl⟩
/-- the least size in which a number has room -/
def leastI (n : Int) : Int := if n < 64 then 1 else if n < 16384 then 2 else if n < 1073741824 then 4 else 8
theorem least_2 {n : Int} (h : ¬ n < 64) : 2 ≤ leastI n := by unfold leastI; rw [if_neg h]; (repeat' split) <;> decide
theorem least_4 {n : Int} (h : ¬ n < 16384) : 4 ≤ leastI n := by unfold leastI; rw [if_neg fun c => h (Int.lt_trans c (by decide)), if_neg h]; split <;> decide
theorem least_8 {n : Int} (h : ¬ n < 1073741824) : 8 ≤ leastI n := by unfold leastI; rw [if_neg fun c => h (Int.lt_trans c (by decide)), if_neg fun c => h (Int.lt_trans c (by decide)), if_neg h]; decide
theorem size_pow {n size : Int} (hn1 : n < 4611686018427387904) (hs : size = 1 ∨ size = 2 ∨ size = 4 ∨ size = 8) (hl : leastI n ≤ size) : n < 2 ^ (8 * size - 2).toNat := by
  rcases hs with rfl | rfl | rfl | rfl
  · exact Decidable.byContradiction fun c => absurd (Int.le_trans (least_2 c) hl) (by decide)
  · exact Decidable.byContradiction fun c => absurd (Int.le_trans (least_4 c) hl) (by decide)
  · exact Decidable.byContradiction fun c => absurd (Int.le_trans (least_8 c) hl) (by decide)
  · exact hn1
/-- the sizes in their order, and where each ends -/
def szI : Nat → Int
  | 0 => 1
  | 1 => 2
  | 2 => 4
  | _ => 8
def thI (i : Nat) : Int := 1 * 2 ^ (8 * szI i - 2).toNat
theorem szI_in : ∀ i, 0 ≤ 8 * szI i - 2 ∧ 8 * szI i - 2 ≤ 62
  | 0 => by decide
  | 1 => by decide
  | 2 => by decide
  | _ + 3 => (by decide : 0 ≤ 8 * (8 : Int) - 2 ∧ 8 * (8 : Int) - 2 ≤ 62)
theorem th0 : thI 0 = 64 := by decide +kernel
theorem th1 : thI 1 = 16384 := by decide +kernel
theorem th2 : thI 2 = 1073741824 := by decide +kernel
theorem th3 : thI 3 = 4611686018427387904 := by decide +kernel
theorem least_of {n : Int} : ∀ {i : Nat}, i < 4 → (∀ j, j < i → thI j ≤ n) → n < thI i → szI i = leastI n
  | 0, _, _, h => (if_pos (th0 ▸ h)).symm
  | 1, _, a, h => ((if_neg (Int.not_lt.mpr (th0 ▸ a 0 (by decide)))).trans (if_pos (th1 ▸ h))).symm
  | 2, _, a, h => ((if_neg (Int.not_lt.mpr (th0 ▸ a 0 (by decide)))).trans ((if_neg (Int.not_lt.mpr (th1 ▸ a 1 (by decide)))).trans (if_pos (th2 ▸ h)))).symm
  | 3, _, a, _ => ((if_neg (Int.not_lt.mpr (th0 ▸ a 0 (by decide)))).trans ((if_neg (Int.not_lt.mpr (th1 ▸ a 1 (by decide)))).trans (if_neg (Int.not_lt.mpr (th2 ▸ a 2 (by decide)))))).symm
theorem size_spec {w : World} {mean : ExcName → Option Value} {mg mb : Str → Option Value} {dp un : Nat} {gd : Option (List Code)} {cn : Str} {cs : Scope} {a : Addr} {ccd : Value} {cl : List (Str × Addr)} {outer : List Env} {A₀ : Around} {base h₀ : Heap} {L : Addr} {m : Str → Option Value} {s : Shared} {Q E : Value → Shared → Prop}
    {n : Int} {tk : Tok} {news : List (Addr × Obj)}
    (B : Below A₀ base outer h₀ := by k_asm) (F : Fr h₀ L s.heap m := by k_asm) (X : (MineH.hd.heap_39 w.params).In h₀ := by k_asm) (T : Top MineH.hd.view_39 (looseW MineH.hd.view_39 []) mean mg mb h₀ := by k_asm) (hk : cs.kind = .function := by first | exact rfl | assumption) (N : News h₀ L s.heap news := by walk_at "my news")
    (hn0 : 0 ≤ n := by first | assumption | omega) (hn1 : n < 4611686018427387904 := by first | assumption | omega)
    (hd : dp + 2 < recursionLimit := by ktr_room) (hu : un + 16 < cLine := by ktr_units)
    (hret : ∀ (t : Tok) (h' : Heap) (tk' : Nat), Fr h₀ L h' m → News h₀ L h' news → Q (.int (leastI n) t) { s with heap := h', toks := tk' }) :
    wpAny (model PySem.Challenge.rw_pb0522_01.row.prog w) (ktrTop dp un gd cn cs L a ccd cl outer) (call (.ref 83) [.int n tk]) Q E s := by
  refine wpAny_call ?_
  k_dflt cell_enter
  refine wpAny_never ?_
  refine wpAny_execs_cons ?_
  (rename Fr _ _ _ _ => lF')
  (with_unfolding_all refine' For_invVF lF' ?k1 ?k2 ?_; (case k1 => exact rfl); (case k2 => exact rfl))
  refine wpAny_halt ?_
  k_steps
  unfold Halt
  (with_reducible rename Fr _ _ _ _ => kF)
  (with_reducible rename News _ _ _ _ => kN)
  (with_reducible rename Frag.In _ _ => kX)
  have ht := kX 62 _ (by k_is)
  refine tuple_inv (fun i m' news' => (∃ u, m' = fun y => if y = Str.ofString "size" then u else if y = Str.ofString "n" then some (.int n tk) else none) ∧ news' = news ∧ (∀ j, j < i → thI j ≤ n) ∧ i ≤ 4) (by rfl) ht rfl ⟨_, rfl⟩ kF kN ?_ ?_ ?_
  · refine' ⟨⟨none, ?ff⟩, rfl, fun j hj => absurd hj (Nat.not_lt_zero j), by decide⟩
    case' ff =>
      funext y
      by_cases e1 : y = Str.ofString "size"
      · subst e1; rfl
      by_cases e2 : y = Str.ofString "n"
      · subst e2; rfl
      simp only [if_neg e1, if_neg e2]
      show List.lookup y [(Str.ofString "n", _)] = none
      simp only [List.lookup, beq_eq_false_iff_ne.mpr e2]
  · rintro i v m₁ news₁ I it h tk' hi off ⟨⟨u, rfl⟩, rfl, j1, j5⟩ F₁ N₁
    clear kF kN
    obtain ⟨sz, t, rfl, hsz, hi4⟩ : ∃ sz t, v = .int sz t ∧ sz = szI i ∧ i < 4 := by
      match i, hi with
      | 0, hi => cases hi; exact ⟨_, _, rfl, rfl, by decide⟩
      | 1, hi => cases hi; exact ⟨_, _, rfl, rfl, by decide⟩
      | 2, hi => cases hi; exact ⟨_, _, rfl, rfl, by decide⟩
      | 3, hi => cases hi; exact ⟨_, _, rfl, rfl, by decide⟩
      | i + 4, hi => rw [Array.getElem?_eq_none (Nat.le_add_left 4 i)] at hi; cases hi
    clear hi
    obtain ⟨hb0, hb1⟩ : 0 ≤ 8 * sz - 2 ∧ 8 * sz - 2 ≤ 62 := by rw [hsz]; exact szI_in i
    have hth : thI i = 1 * 2 ^ (8 * sz - 2).toNat := by rw [hsz]; rfl
    k_steps
    · refine' cb_retI (Q := Q) (x := leastI n) hret ?e1 ?e2 ?e3
      case e2 => k_asm
      case e3 => first | k_asm | exact cb_drop (by assumption) fun p hp => .tail _ hp
      case e1 => exact hsz.trans (least_of hi4 j1 (by rw [hth]; assumption))
    all_goals (
      (with_reducible rename Fr _ _ _ _ => kF)
      (with_reducible rename News _ _ _ _ => kN)
      refine UnrEnd.intro kF kN _ (fun p hp => hp) off ⟨⟨some (.int sz t), ?_⟩, rfl, fun j hj => ?_, hi4⟩
      · funext y
        by_cases e1 : y = Str.ofString "size"
        · subst e1; rfl
        simp only [if_neg e1]
      · rcases Nat.lt_or_eq_of_le (Nat.le_of_lt_succ hj) with h | rfl
        · exact j1 j h
        · rw [hth]; exact Int.not_lt.mp (by assumption))
  · rintro m₁ news₁ h tk' ⟨⟨u, rfl⟩, rfl, j1, j5⟩ F₁ N₁
    exact absurd hn1 (Int.not_lt.mpr (th3 ▸ j1 3 (by decide)))
end
section
open PySem PySem.W PyProof.Rows PySem.Spec PySem.Calls
set_option maxRecDepth 100000
set_option maxHeartbeats 8000000
set_option linter.unusedVariables false
theorem fresh_C5 : True := by
  w_top off
  trivial
open PySem PySem.W PyProof.Rows PySem.Spec PySem.Calls
set_option maxRecDepth 100000
set_option maxHeartbeats 8000000
set_option linter.unusedVariables false
theorem fill_dummy5 : (∃ K : Params → Frag, K = MineH.hd.heap_39) ∧ PySem.Challenge.rw_pb0522_01 = PySem.Challenge.rw_pb0522_01 := by
  k_fill
  exact ⟨⟨_, rfl⟩, rfl⟩
def SizeV (v : Value) (n size : Int) : Prop := (v = .none ∧ size = leastI n) ∨ ∃ t, v = .int size t ∧ leastI n ≤ size ∧ (size = 1 ∨ size = 2 ∨ size = 4 ∨ size = 8)
end
local macro_rules | `(tactic| walk_at "call ref") => `(tactic| (k_here; (show wpAny _ _ (call (Value.ref 83) _) _ _ _); k_dflt (refine' size_spec (hret := ?_)); walk_at "my end"))
section
open PySem PySem.W PyProof.Rows PySem.Spec PySem.Calls
set_option maxRecDepth 100000
set_option maxHeartbeats 8000000
set_option linter.unusedVariables false
end
local macro_rules | `(tactic| walk_at "compareOp NotIn int ref") => `(tactic| (k_here; k_dflt (refine' sizes_notin (by k_asm) ‹_› ‹_› ?_; k_whole)))
section
open PySem PySem.W PyProof.Rows PySem.Spec PySem.Calls
set_option maxRecDepth 100000
set_option maxHeartbeats 8000000
set_option linter.unusedVariables false
end
local macro_rules | `(tactic| walk_at "getMethod ref") => `(tactic| (k_here; (with_reducible show wpAny _ _ (getMethod (Value.ref 62) (Str.ofString "index") _) _ _ _); k_dflt (refine' sizes_method (by k_asm) ‹_› ?_; k_whole)))
section
open PySem PySem.W PyProof.Rows PySem.Spec PySem.Calls
set_option maxRecDepth 100000
set_option maxHeartbeats 8000000
set_option linter.unusedVariables false
end
local macro_rules | `(tactic| walk_at "call builtin:tuple.index") => `(tactic| (k_here; k_dflt (refine' sizes_index (by k_asm) ‹_› ‹_› ?_; k_whole)))
section
open PySem PySem.W PyProof.Rows PySem.Spec PySem.Calls
set_option maxRecDepth 100000
set_option maxHeartbeats 8000000
set_option linter.unusedVariables false
theorem putv_spec {w : World} {mean : ExcName → Option Value} {mg mb : Str → Option Value} {dp un : Nat} {gd : Option (List Code)} {cn : Str} {cs : Scope} {a : Addr} {ccd : Value} {cl : List (Str × Addr)} {outer : List Env} {A₀ : Around} {base h₀ : Heap} {L : Addr} {m : Str → Option Value} {s : Shared} {Q E : Value → Shared → Prop}
    {n : Int} {size : Int} {v : Value} {tk : Tok} {news : List (Addr × Obj)}
    (B : Below A₀ base outer h₀ := by k_asm) (F : Fr h₀ L s.heap m := by k_asm) (X : (MineH.hd.heap_39 w.params).In h₀ := by k_asm) (T : Top MineH.hd.view_39 (looseW MineH.hd.view_39 []) mean mg mb h₀ := by k_asm) (hk : cs.kind = .function := by first | exact rfl | assumption) (N : News h₀ L s.heap news)
    (hn0 : 0 ≤ n) (hn1 : n < 4611686018427387904) (hv : SizeV v n size)
    (hd : dp + 6 < recursionLimit) (hu : un + 64 < cLine)
    (hret : ∀ (t : Tok) (h' : Heap) (tk' : Nat), Fr h₀ L h' m → News h₀ L h' news → Q (.bytes (beL size.toNat (idxI size * 2 ^ (8 * size - 2).toNat + n)).toArray t) { s with heap := h', toks := tk' }) :
    wpC (model PySem.Challenge.rw_pb0522_01.row.prog w) (ktrTop dp un gd cn cs L a ccd cl outer) (call (.ref 90) [.int n tk, v]) Q E s := by
  have hl : leastI n = 1 ∨ leastI n = 2 ∨ leastI n = 4 ∨ leastI n = 8 := by unfold leastI; (repeat' split) <;> omega
  refine wpC_call ?_
  k_dflt (refine' codeC_K ?k1 ?k2 ?k3 ?k4 ?k5 ?kA ?kF ?kK ?k6 ?k7 ?k8 ?k9 ?kB ?_ ?c2 ?c3 ?c4 ?c5; (case kA => exact rfl); (case kF => exact rfl); (case kK => assumption); (case k1 => k_asm); (case k2 => k_asm); (case k3 => k_asm); (case k4 => k_asm); (case k5 => k_asm); (case k6 => k_is); (case k7 => k_is); (case k8 => ktr_room); (case k9 => exact BindsTo.of_eq rfl); (case c5 => decide); (case kB => exact locs rfl); (case c2 => exact rfl); (case c3 => exact rfl); (case c4 => exact rfl); k_whole; intro g' L' h' FG' F' N' B' X' T'; (try dsimp only); (try k_lift B'))
  refine wpC_never ?_
  have ht := X' 62 _ (by k_is)
  refine wpC_execs_safe ?_
  k_steps
  (try dsimp only)
  have put : ∀ (size : Int), (size = 1 ∨ size = 2 ∨ size = 4 ∨ size = 8) → leastI n ≤ size → Builtin.bitOr (idxI size * 2 ^ (8 * size - 2).toNat) n = idxI size * 2 ^ (8 * size - 2).toNat + n ∧ 0 ≤ idxI size * 2 ^ (8 * size - 2).toNat + n ∧ idxI size * 2 ^ (8 * size - 2).toNat + n < 256 ^ size.toNat := by
    intro size hs hl
    have hn : n < 2 ^ (8 * size - 2).toNat := size_pow hn1 hs hl
    refine ⟨or_shift (by unfold idxI; (repeat' split) <;> decide) hn0 hn, ?_⟩
    rcases hs with rfl | rfl | rfl | rfl
    · have h : n < 64 := hn
      show 0 ≤ 0 * 64 + n ∧ 0 * 64 + n < 256
      omega
    · have h : n < 16384 := hn
      show 0 ≤ 1 * 16384 + n ∧ 1 * 16384 + n < 65536
      omega
    · have h : n < 1073741824 := hn
      show 0 ≤ 2 * 1073741824 + n ∧ 2 * 1073741824 + n < 4294967296
      omega
    · have h : n < 4611686018427387904 := hn
      show 0 ≤ 3 * 4611686018427387904 + n ∧ 3 * 4611686018427387904 + n < 18446744073709551616
      omega
  have hidx : ∀ z, 0 ≤ idxI z ∧ idxI z ≤ 3 := by intro z; unfold idxI; (repeat' split) <;> decide
  rcases hv with ⟨rfl, rfl⟩ | ⟨t, rfl, hs1, hs2⟩
  case' inl => have hs1 := Int.le_refl (leastI n); have hs2 := hl; have hi := hidx (leastI n)
  case' inr => have hi := hidx size
  all_goals (
    obtain ⟨p1, p2, p3⟩ := put _ hs2 hs1
    clear put hidx
    refine wpC_execs_safe ?_
    k_steps
    (try dsimp only)
    refine wpC_execs_safe ?_
    k_steps
    all_goals (try (exfalso; omega))
    (try dsimp only)
    refine wpC_execs_cons (wpC_Return (wpC_Call ?_))
    k_steps
    (try dsimp only)
    refine callWithC_K (K := (MineH.hd.heap_39 w.params)) (by k_is) ?_
    k_steps
    rw [p1]
    refine' put_spec ?k1 ?k2 ?k3 ?k4 ?k5 ?k6 ?h0 ?h1 ?h2 ?kd ?ku ?_
    (case k1 => k_asm); (case k2 => k_asm); (case k3 => k_asm); (case k4 => k_asm); (case k5 => first | exact rfl | assumption); (case k6 => k_asm)
    (case h0 => omega)
    (case h1 => exact p2)
    (case h2 => exact p3)
    (case kd => ktr_room)
    (case ku => ktr_units)
    intro t9 h9 tk9 F9 N9
    k_steps
    exact hret _ _ _ (by k_asm) (by k_asm))
end
section
open PySem PySem.W PyProof.Rows PySem.Spec PySem.Calls
set_option maxRecDepth 100000
set_option maxHeartbeats 40000000
set_option linter.unusedVariables false
theorem fresh_M6 : True := by
  w_top off
  trivial
open PySem PySem.W PyProof.Rows PySem.Spec PySem.Calls
set_option maxRecDepth 100000
set_option maxHeartbeats 40000000
set_option linter.unusedVariables false
/-- how things stand between two turns -/
def Again (d g : List UInt8) (a : Int) (b : Bool) : Prop := 0 ≤ a ∧ a ≤ d.length ∧ (g.length : Int) ≤ a ∧ (b = true ↔ (g.length : Int) = a) ∧ ((g.length : Int) = a → g = d.take a.toNat)
theorem vOct_same {l : List UInt8} {c : UInt8} {r : List UInt8} (hl : l = c :: r) (hz : szOf c = (l.length : Int)) : vOct (szOf c) (beI l % 2 ^ (8 * szOf c - 2).toNat) = l := by
  have hb : beI l = (c.toNat : Int) * 256 ^ r.length + beI r := by rw [hl, beI_cons]
  have hn := beI_nonneg r
  have hlt := beI_lt r
  have hc : c.toNat < 256 := c.toNat_lt
  have hr : (r.length : Int) + 1 = l.length := by rw [hl, List.length_cons]; omega
  have cs : (c.toNat < 64 ∧ szOf c = 1) ∨ (64 ≤ c.toNat ∧ c.toNat < 128 ∧ szOf c = 2) ∨ (128 ≤ c.toNat ∧ c.toNat < 192 ∧ szOf c = 4) ∨ (192 ≤ c.toNat ∧ szOf c = 8) := by
    rcases Nat.lt_or_ge c.toNat 64 with h | h
    · exact .inl ⟨h, szOf_1 h⟩
    rcases Nat.lt_or_ge c.toNat 128 with h2 | h2
    · exact .inr (.inl ⟨h, h2, szOf_2 h h2⟩)
    rcases Nat.lt_or_ge c.toNat 192 with h3 | h3
    · exact .inr (.inr (.inl ⟨h2, h3, szOf_4 h2 h3⟩))
    · exact .inr (.inr (.inr ⟨h3, szOf_8 h3⟩))
  have key : idxI (szOf c) * 2 ^ (8 * szOf c - 2).toNat + beI l % 2 ^ (8 * szOf c - 2).toNat = beI l := by
    rw [hb]
    rcases cs with ⟨h1, e⟩ | ⟨h1, h2, e⟩ | ⟨h1, h2, e⟩ | ⟨h1, e⟩ <;> rw [e] at hz ⊢
    · have hr0 : r.length = 0 := by omega
      rw [hr0] at hlt ⊢
      have hlt' : beI r < 1 := hlt
      show 0 * 64 + ((c.toNat : Int) * 1 + beI r) % 64 = (c.toNat : Int) * 1 + beI r
      omega
    · have hr0 : r.length = 1 := by omega
      rw [hr0] at hlt ⊢
      have hlt' : beI r < 256 := hlt
      show 1 * 16384 + ((c.toNat : Int) * 256 + beI r) % 16384 = (c.toNat : Int) * 256 + beI r
      omega
    · have hr0 : r.length = 3 := by omega
      rw [hr0] at hlt ⊢
      have hlt' : beI r < 16777216 := hlt
      show 2 * 1073741824 + ((c.toNat : Int) * 16777216 + beI r) % 1073741824 = (c.toNat : Int) * 16777216 + beI r
      omega
    · have hr0 : r.length = 7 := by omega
      rw [hr0] at hlt ⊢
      have hlt' : beI r < 72057594037927936 := hlt
      show 3 * 4611686018427387904 + ((c.toNat : Int) * 72057594037927936 + beI r) % 4611686018427387904 = (c.toNat : Int) * 72057594037927936 + beI r
      omega
  unfold vOct
  rw [key, hz, Int.toNat_natCast, beL_beI]
/-- the number that is read -/
def numAt (d : List UInt8) (a : Int) (c : UInt8) : Int := beI ((d.drop a.toNat).take (szOf c).toNat) % 2 ^ (8 * szOf c - 2).toNat
theorem numAt_bnd (d : List UInt8) (a : Int) (c : UInt8) : 0 ≤ numAt d a c ∧ numAt d a c < 4611686018427387904 ∧ leastI (numAt d a c) ≤ szOf c := by
  have hb := beI_nonneg ((d.drop a.toNat).take (szOf c).toNat)
  unfold numAt
  rcases szOf_cases c with e | e | e | e <;> rw [e]
  · show 0 ≤ _ % 64 ∧ _ % 64 < 4611686018427387904 ∧ leastI (_ % 64) ≤ 1
    unfold leastI
    refine ⟨by omega, by omega, ?_⟩
    rw [if_pos (by omega)]; decide
  · show 0 ≤ _ % 16384 ∧ _ % 16384 < 4611686018427387904 ∧ leastI (_ % 16384) ≤ 2
    unfold leastI
    refine ⟨by omega, by omega, ?_⟩
    (repeat' split) <;> omega
  · show 0 ≤ _ % 1073741824 ∧ _ % 1073741824 < 4611686018427387904 ∧ leastI (_ % 1073741824) ≤ 4
    unfold leastI
    refine ⟨by omega, by omega, ?_⟩
    (repeat' split) <;> omega
  · show 0 ≤ _ % 4611686018427387904 ∧ _ % 4611686018427387904 < 4611686018427387904 ∧ leastI (_ % 4611686018427387904) ≤ 8
    refine ⟨by omega, by omega, ?_⟩
    unfold leastI
    (repeat' split) <;> decide
theorem leastI_pos (n : Int) : 1 ≤ leastI n ∧ leastI n ≤ 8 := by unfold leastI; (repeat' split) <;> decide
theorem Again.start (d : List UInt8) : Again d [] 0 true := ⟨Int.le_refl _, by omega, Int.le_refl _, ⟨fun _ => rfl, fun _ => rfl⟩, fun _ => rfl⟩
theorem Again.turn {d g : List UInt8} {a : Int} {b : Bool} {c : UInt8} (h : Again d g a b) (hc : d[a.toNat]? = some c) (hz : a + szOf c ≤ d.length) :
    Again d (g ++ vOct (leastI (numAt d a c)) (numAt d a c)) (a + szOf c) (b && decide (((g ++ vOct (leastI (numAt d a c)) (numAt d a c)).length : Int) = a + szOf c)) := by
  obtain ⟨h0, h1, h2, h3, h4⟩ := h
  obtain ⟨n0, n1, n2⟩ := numAt_bnd d a c
  have hlp := leastI_pos (numAt d a c)
  have hs1 : 0 ≤ szOf c := Int.le_trans (Int.le_trans (by decide) hlp.1) n2
  have hSN : ((szOf c).toNat : Int) = szOf c := Int.toNat_of_nonneg hs1
  have hvl := vOct_length (size := leastI (numAt d a c)) (n := numAt d a c)
  have hal : a.toNat < d.length := (List.getElem?_eq_some_iff.mp hc).1
  have hgl : ((g ++ vOct (leastI (numAt d a c)) (numAt d a c)).length : Int) = (g.length : Int) + leastI (numAt d a c) := by
    rw [List.length_append, hvl, Int.natCast_add, Int.toNat_of_nonneg (Int.le_trans (by decide) hlp.1)]
  have up : (g.length : Int) + leastI (numAt d a c) ≤ a + szOf c := Int.add_le_add h2 n2
  refine ⟨Int.add_nonneg h0 hs1, hz, hgl ▸ up, ?_, ?_⟩
  · rw [Bool.and_eq_true, decide_eq_true_eq, h3]
    exact ⟨fun q => q.2, fun q => ⟨by rw [hgl] at q; omega, q⟩⟩
  · intro e
    rw [hgl] at e
    have e1 : (g.length : Int) = a := by omega
    have e2 : leastI (numAt d a c) = szOf c := by omega
    have hl : ((d.drop a.toNat).take (szOf c).toNat).length = (szOf c).toNat := by
      rw [List.length_take, List.length_drop, Nat.min_eq_left (by omega)]
    have hcons : ∃ r, (d.drop a.toNat).take (szOf c).toNat = c :: r := by
      rw [List.drop_eq_getElem_cons hal]
      have : d[a.toNat] = c := (List.getElem?_eq_some_iff.mp hc).2
      rw [this]
      obtain ⟨k, hk⟩ : ∃ k, (szOf c).toNat = k + 1 := Nat.exists_eq_succ_of_ne_zero (by omega)
      rw [hk]
      exact ⟨_, rfl⟩
    obtain ⟨r, hr⟩ := hcons
    have hv := vOct_same hr (by rw [hl]; exact hSN.symm)
    have e3 : vOct (leastI (numAt d a c)) (numAt d a c) = (d.drop a.toNat).take (szOf c).toNat := by
      rw [e2]; exact hv
    rw [e3, h4 e1, Int.toNat_add h0 hs1, List.take_add]
theorem Again.fin {d g : List UInt8} {a : Int} {b : Bool} (h : Again d g a b) : (decide (g = d.take a.toNat) == b) = true := by
  obtain ⟨h0, h1, h2, h3, h4⟩ := h
  by_cases e : (g.length : Int) = a
  · rw [decide_eq_true (h4 e), h3.mpr e]; rfl
  · have hb : b = false := by
      cases b with
      | false => rfl
      | true => exact absurd (h3.mp rfl) e
    have hne : ¬ g = d.take a.toNat := by
      intro h
      apply e
      rw [h, List.length_take]
      omega
    rw [decide_eq_false hne, hb]; rfl
end
section
open PySem
set_option linter.unusedVariables false
theorem fresh_M7 : True := by
  w_top off
  trivial
open PySem
set_option linter.unusedVariables false
theorem rowOf_snoc (ps : List Part) (p : Part) : rowOf (ps ++ [p]) = rowOf ps ++ p.data := by
  unfold rowOf
  rw [List.map_append, List.flatten_append]
  simp
theorem endsL_snoc : ∀ (ps : List Part) (a : Nat) (p : Part), endsL a (ps ++ [p]) = endsL a ps ++ [a + (rowOf (ps ++ [p])).length]
  | [], a, p => by simp [endsL, rowOf]
  | q :: ps, a, p => by
    show (a + q.data.length) :: endsL (a + q.data.length) (ps ++ [p]) = (a + q.data.length) :: (endsL (a + q.data.length) ps ++ [a + (rowOf (q :: (ps ++ [p]))).length])
    rw [endsL_snoc ps _ p]
    have : (rowOf (q :: (ps ++ [p]))).length = q.data.length + (rowOf (ps ++ [p])).length := by
      show (q.data ++ rowOf (ps ++ [p])).length = _
      rw [List.length_append]
    rw [this, Nat.add_assoc]
theorem endsL_length : ∀ (ps : List Part) (a : Nat), (endsL a ps).length = ps.length
  | [], _ => rfl
  | q :: ps, a => by show (endsL _ ps).length + 1 = ps.length + 1; rw [endsL_length ps]
def endsI (ps : List Part) : List Int := (endsL 0 ps).map fun (e : Nat) => (e : Int)
theorem endsI_snoc (ps : List Part) (p : Part) : endsI (ps ++ [p]) = endsI ps ++ [((rowOf (ps ++ [p])).length : Int)] := by
  unfold endsI
  rw [endsL_snoc, List.map_append]
  simp
theorem ends_count (ps : List Part) {cut : Int} (h : 0 ≤ cut) : ((endsI ps).filter fun e => decide (e ≤ cut)).length = ((endsL 0 ps).filter fun e => decide (e ≤ 0 + cut.toNat)).length := by
  unfold endsI
  rw [List.filter_map, List.length_map]
  congr 1
  apply List.filter_congr
  intro e _
  show decide ((e : Int) ≤ cut) = _
  apply Bool.eq_iff_iff.mpr
  simp only [decide_eq_true_eq]
  omega
end
section
open PySem PySem.W PyProof.Rows PySem.Spec PySem.Calls
set_option maxRecDepth 100000
set_option maxHeartbeats 8000000
set_option linter.unusedVariables false
theorem fresh_C6 : True := by
  w_top off
  trivial
open PySem PySem.W PyProof.Rows PySem.Spec PySem.Calls
set_option maxRecDepth 100000
set_option maxHeartbeats 8000000
set_option linter.unusedVariables false
theorem fill_dummy6 : (∃ K : Params → Frag, K = MineH.hd.heap_39) ∧ PySem.Challenge.rw_pb0522_01 = PySem.Challenge.rw_pb0522_01 := by
  k_fill
  exact ⟨⟨_, rfl⟩, rfl⟩
end
local macro_rules | `(tactic| walk_at "call type:range") => `(tactic| ((rename Fr _ _ _ _ => F'); (rename News _ _ _ _ => N'); first | (with_unfolding_all refine range1_rows F' N' ?_; intro _ _ _ _ _ _ _ _ _) | (with_unfolding_all refine range2_rows F' N' ?_; intro _ _ _ _ _ _ _ _ _)))
section
open PySem PySem.W PyProof.Rows PySem.Spec PySem.Calls
set_option maxRecDepth 100000
set_option maxHeartbeats 8000000
set_option linter.unusedVariables false
def AckV (v : Value) (full apart : Int) : Prop := (v = .none ∧ apart = full + 1) ∨ ∃ t acked, v = .int acked t ∧ apart = full - acked
theorem range1_size : Builtin.Range.rangeSize 1 (4 + 1) 1 = ((4 : Nat) : Int) := by decide
theorem numsize_spec {w : World} {mean : ExcName → Option Value} {mg mb : Str → Option Value} {dp un : Nat} {gd : Option (List Code)} {cn : Str} {cs : Scope} {a : Addr} {ccd : Value} {cl : List (Str × Addr)} {outer : List Env} {A₀ : Around} {base h₀ : Heap} {L : Addr} {m : Str → Option Value} {s : Shared} {Q E : Value → Shared → Prop}
    {full apart : Int} {v : Value} {tk : Tok} {news : List (Addr × Obj)}
    (B : Below A₀ base outer h₀ := by k_asm) (F : Fr h₀ L s.heap m := by k_asm) (X : (MineH.hd.heap_39 w.params).In h₀ := by k_asm) (T : Top MineH.hd.view_39 (looseW MineH.hd.view_39 []) mean mg mb h₀ := by k_asm) (hk : cs.kind = .function := by first | exact rfl | assumption) (N : News h₀ L s.heap news := by walk_at "my news")
    (hv : AckV v full apart := by assumption) (ha0 : 0 ≤ apart := by assumption) (ha : apart < 1000000 := by assumption) (hf0 : 0 ≤ full := by assumption) (hf1 : full < 1000000 := by assumption)
    (hd : dp + 2 < recursionLimit := by ktr_room) (hu : un + 16 < cLine := by ktr_units)
    (hret : ∀ (r : Int) (t : Tok) (h' : Heap) (tk' : Nat), 1 ≤ r → r ≤ 4 → Fr h₀ L h' m → News h₀ L h' news → Q (.int r t) { s with heap := h', toks := tk' }) :
    wpAny (model PySem.Challenge.rw_pb0522_01.row.prog w) (ktrTop dp un gd cn cs L a ccd cl outer) (call (.ref 104) [.int full tk, v]) Q E s := by
  refine wpAny_call ?_
  k_dflt cell_enter
  refine wpAny_never ?_
  (with_reducible rename Fr _ _ _ _ => kF)
  (with_reducible rename News _ _ _ _ => kN)
  refine join_int kF kN (Str.ofString "apart") apart ?_ ?_
  · rcases hv with ⟨rfl, hap⟩ | ⟨t, acked, rfl, hap⟩
    all_goals (
      k_steps
      unfold Halt
      (with_reducible rename Fr _ _ _ _ => kF1)
      (with_reducible rename News _ _ _ _ => kN1)
      rw [hap]
      exact ⟨rfl, _, _, _, rfl, kF1, kN1⟩)
  clear kF kN hv
  intro h2 tk2 t2 kF kN
  (try dsimp only)
  refine wpAny_execs_cons ?_
  (rename Fr _ _ _ _ => lF')
  (with_unfolding_all refine' For_invVF lF' ?k1 ?k2 ?_; (case k1 => exact rfl); (case k2 => exact rfl))
  refine wpAny_halt ?_
  k_steps
  unfold Halt
  (rename IsRange _ _ _ _ _ _ _ _ => hR)
  (with_reducible rename Fr _ _ _ _ => kF)
  (with_reducible rename News _ _ _ _ => kN)
  refine range_inv0 (fun i news' => news' = news ∧ (4 ≤ i → 4294967296 < 2 * apart)) (by rfl) hR (by decide) (n := 4) (by decide) kF kN ⟨rfl, by omega⟩ ?_ ?_
  · rintro i t news₁ I it h tk hi off ⟨rfl, j⟩ F₁ N₁
    clear kF kN hR
    have hb0 : 0 ≤ 8 * (1 + (i : Int) * 1) := by omega
    have hb1 : 8 * (1 + (i : Int) * 1) ≤ 64 := by omega
    have hP : i = 3 → (2 : Int) ^ (8 * (1 + (i : Int) * 1)).toNat = 4294967296 := by rintro rfl; rfl
    k_steps
    · exact hret _ _ _ _ (by omega) (by omega) (by k_asm) (by first | k_asm | exact cb_drop (by assumption) fun p hp => .tail _ hp)
    all_goals (
      (with_reducible rename Fr _ _ _ _ => kF)
      (with_reducible rename News _ _ _ _ => kN)
      exact UnrEnd.intro kF kN _ (fun p hp => hp) off ⟨⟨_, rfl⟩, rfl, by omega⟩)
  · rintro u news₁ h tk ⟨rfl, j⟩ F₁ N₁
    exact absurd (j (Nat.le_refl 4)) (by omega)
end
local macro_rules | `(tactic| walk_at "call ref") => `(tactic| (k_here; (show wpAny _ _ (call (Value.ref 104) _) _ _ _); k_dflt (refine' numsize_spec (hret := ?_)); walk_at "my end"))
section
open PySem PySem.W PyProof.Rows PySem.Spec PySem.Calls
set_option maxRecDepth 100000
set_option maxHeartbeats 8000000
set_option linter.unusedVariables false
/-- what cut_number answers -/
theorem cut_spec {w : World} {mean : ExcName → Option Value} {mg mb : Str → Option Value} {dp un : Nat} {gd : Option (List Code)} {cn : Str} {cs : Scope} {a : Addr} {ccd : Value} {cl : List (Str × Addr)} {outer : List Env} {A₀ : Around} {base h₀ : Heap} {L : Addr} {m : Str → Option Value} {s : Shared} {Q E : Value → Shared → Prop}
    {full apart : Int} {v : Value} {tk : Tok} {news : List (Addr × Obj)}
    (B : Below A₀ base outer h₀ := by k_asm) (F : Fr h₀ L s.heap m := by k_asm) (X : (MineH.hd.heap_39 w.params).In h₀ := by k_asm) (T : Top MineH.hd.view_39 (looseW MineH.hd.view_39 []) mean mg mb h₀ := by k_asm) (hk : cs.kind = .function := by first | exact rfl | assumption) (N : News h₀ L s.heap news)
    (hv : AckV v full apart) (ha0 : 0 ≤ apart) (ha : apart < 1000000) (hf0 : 0 ≤ full) (hf1 : full < 1000000)
    (hd : dp + 6 < recursionLimit) (hu : un + 64 < cLine)
    (hret : ∀ (l : List UInt8) (t : Tok) (h' : Heap) (tk' : Nat), 1 ≤ l.length → l.length ≤ 4 → Fr h₀ L h' m → News h₀ L h' news → Q (.bytes l.toArray t) { s with heap := h', toks := tk' }) :
    wpC (model PySem.Challenge.rw_pb0522_01.row.prog w) (ktrTop dp un gd cn cs L a ccd cl outer) (call (.ref 111) [.int full tk, v]) Q E s := by
  refine wpC_call ?_
  k_dflt (refine' codeC_K ?k1 ?k2 ?k3 ?k4 ?k5 ?kA ?kF ?kK ?k6 ?k7 ?k8 ?k9 ?kB ?_ ?c2 ?c3 ?c4 ?c5; (case kA => exact rfl); (case kF => exact rfl); (case kK => assumption); (case k1 => k_asm); (case k2 => k_asm); (case k3 => k_asm); (case k4 => k_asm); (case k5 => k_asm); (case k6 => k_is); (case k7 => k_is); (case k8 => ktr_room); (case k9 => exact BindsTo.of_eq rfl); (case c5 => decide); (case kB => exact locs rfl); (case c2 => exact rfl); (case c3 => exact rfl); (case c4 => exact rfl); k_whole; intro g' L' h' FG' F' N' B' X' T'; (try dsimp only); (try k_lift B'))
  refine wpC_never ?_
  refine wpC_execs_safe ?_
  k_steps
  (try dsimp only)
  rename Int => r
  (rename 1 ≤ r => q1)
  (rename r ≤ 4 => q2)
  have hP : (2 : Int) ^ (8 * r).toNat = 256 ^ r.toNat ∧ 0 < (2 : Int) ^ (8 * r).toNat ∧ (2 : Int) ^ (8 * r).toNat ≤ 4294967296 := by
    rcases (show r = 1 ∨ r = 2 ∨ r = 3 ∨ r = 4 by omega) with rfl | rfl | rfl | rfl <;> decide
  obtain ⟨hP1, hP0, hP2⟩ := hP
  have hP3 : (0 : Int) < 1 * 2 ^ (8 * r).toNat := by omega
  refine wpC_execs_cons (wpC_Return (wpC_Call ?_))
  k_steps
  (try dsimp only)
  refine callWithC_K (K := (MineH.hd.heap_39 w.params)) (by k_is) ?_
  k_steps
  refine' put_spec ?k1 ?k2 ?k3 ?k4 ?k5 ?k6 ?h0 ?h1 ?h2 ?kd ?ku ?_
  (case k1 => k_asm); (case k2 => k_asm); (case k3 => k_asm); (case k4 => k_asm); (case k5 => first | exact rfl | assumption); (case k6 => k_asm)
  (case h0 => omega)
  (case h1 => exact Int.fmod_nonneg_of_pos _ hP3)
  (case h2 => rw [← hP1]; exact Int.lt_of_lt_of_le (Int.fmod_lt_of_pos _ hP3) (by omega))
  (case kd => ktr_room)
  (case ku => ktr_units)
  intro t9 h9 tk9 F9 N9
  k_steps
  exact hret _ _ _ _ (by rw [beL_length]; omega) (by rw [beL_length]; omega) (by k_asm) (by k_asm)
end
section
open PySem PySem.W PyProof.Rows PySem.Spec PySem.Calls
set_option maxRecDepth 100000
set_option maxHeartbeats 8000000
set_option linter.unusedVariables false
theorem fresh_X1 : True := by
  w_top off
  trivial
open PySem PySem.W PyProof.Rows PySem.Spec PySem.Calls
set_option maxRecDepth 100000
set_option maxHeartbeats 8000000
set_option linter.unusedVariables false
theorem fill_dummyX1 : (∃ K : Params → Frag, K = MineH.hd.heap_39) ∧ PySem.Challenge.rw_pb0522_01 = PySem.Challenge.rw_pb0522_01 := by
  k_fill
  exact ⟨⟨_, rfl⟩, rfl⟩
theorem ns_some_of {K : Frag} {h : Heap} {N : Addr} {mg : Str → Option Value} {n : Str} {v : Value} (X : K.In h) (G : h.Ns N mg) (e : nsIn K N n = some (some v)) : mg n = some v := by
  obtain ⟨o, es, ep, ho, hd, _, hf⟩ := G
  unfold nsIn at e
  split at e
  · rename_i c d es' n' sl q
    have := X _ _ q
    rw [ho] at this
    cases this
    cases hd
    split at e
    · rename_i en he
      cases e
      rw [← hf]
      unfold nsFind findBy
      rw [← Array.find?_toList, he]
      rfl
    · split at e <;> cases e
  · cases e
/-- a new exception of an own class -/
structure NewX (h h' : Heap) (e : Addr) (cls : Value) : Prop where
  keeps : ∀ b o, h.get? b = some o → h'.get? b = some o
  new : h.get? e = none
  there : ∃ ob t, h'.get? e = some ob ∧ ob.cls = cls ∧ ob.data = .fields #[t, .none, .none, .none, .bool false, .none]
end
local macro_rules | `(tactic| walk_at "getMethod type:Exception") => `(tactic| (k_here; refine' method_type (by k_asm) (by k_asm) (by exact XI.type_exc) (by decide +kernel) (by k_dflt k_is) (by k_handed) ?_))
section
open PySem PySem.W PyProof.Rows PySem.Spec PySem.Calls
set_option maxRecDepth 100000
set_option maxHeartbeats 8000000
set_option linter.unusedVariables false
theorem short_make {w : World} {mean : ExcName → Option Value} {mg mb : Str → Option Value} {dp un : Nat} {gd : Option (List Code)} {cn : Str} {cs : Scope} {a : Addr} {ccd : Value} {cl : List (Str × Addr)} {outer : List Env} {A₀ : Around} {base h₀ : Heap} {L : Addr} {m : Str → Option Value} {s : Shared} {Q E : Value → Shared → Prop} {text : Str} {tk : Tok} {news : List (Addr × Obj)} (B : Below A₀ base outer h₀ := by k_asm) (F : Fr h₀ L s.heap m := by k_asm) (X : (MineH.hd.heap_39 w.params).In h₀ := by k_asm) (T : Top MineH.hd.view_39 (looseW MineH.hd.view_39 []) mean mg mb h₀ := by k_asm) (hk : cs.kind = .function := by first | exact rfl | assumption) (N : News h₀ L s.heap news := by walk_at "my news")
    (hd : dp + 6 < recursionLimit := by ktr_room) (hu : un + 64 < cLine := by ktr_units)
    (hret : ∀ h h' e tk', Fr h₀ L h m → News h₀ L h news → NewX h h' e (.ref 58) → Q (.ref e) { s with heap := h', toks := tk' }) :
    wpAny (model PySem.Challenge.rw_pb0522_01.row.prog w) (ktrTop dp un gd cn cs L a ccd cl outer) (call (.ref 58) [.str text tk]) Q E s := by
  have h1 := X 58 _ (by k_is)
  have h2 := X 57 _ (by k_is)
  have h4 := X 55 _ (by k_is)
  have G := Heap.Ns.of_isNs (h := h₀) (a := 57) (by unfold Heap.isNs; rw [h2]; simp)
  have hi := ns_some_of (n := "__init__") X G (by k_is)
  have hsa := ns_none_of (n := "__setattr__") X G (by k_is)
  have htx := ns_none_of (n := "text") X G (by k_is)
  obtain ⟨hp, gn, dr, tk0, os⟩ := s
  refine wpAny_call_exc_init PySem.F.excBase_Exception (F.keep _ _ h1) (G.keeps F.keep) hi (F.keep _ _ h4) rfl (fun h' e M => ?_) (by size_fits)
  obtain ⟨t, he, htn, ht⟩ := M.there
  have F1 := F.keeps M.keeps
  have N1 : News h₀ L h' ((e, _) :: news) := News.more F1 (N.grown M.keeps) he (by simp) (kts_none F.keep M.new)
  have hne : ∀ p ∈ news, p.1 ≠ e := fun p hp z => by have := (N p hp).1; rw [z, M.new] at this; cases this
  clear h2 h4 hi ht htn N
  refine wpAny_call ?_
  k_dflt cell_enter
  rename Frag.In _ _ => X2
  (with_reducible rename Fr _ _ _ _ => F2)
  (with_reducible rename News _ _ _ _ => N2)
  rename_i g2 L2 h5 FG2 B2 T2
  have h1' := FG2.keep _ _ h1
  k_steps
  have E2 := N2 (e, _) (.head _)
  refine XI.init_call PySem.F.excBase_Exception (F2.keep _ _ h1') E2.1 (fun h6 t6 k6 e6 => ?_) (by size_fits)
  have F3 := XI.fr_but F2 E2.2.1 E2.2.2 k6
  have N3 : News g2 L2 h6 ((e, _) :: news) := fun p hp => by
    rcases List.mem_cons.mp hp with rfl | hp'
    · exact ⟨e6, E2.2⟩
    · exact XI.news_but (fun p hp => N2 p (.tail _ hp)) hne k6 p hp'
  clear k6 N2 F2 E2
  k_steps
  have E3 := (N3 (e, _) (.head _)).2
  have hC := F3.keep _ _ h1'
  have hN := (G.keeps FG2.keep).keeps F3.keep
  refine store_attr (mA := fun _ => none) PySem.F.store_Exception hC hN hsa htx (by rw [typeLookup_type, builtinLookup_eq_fast]; kernel_rfl) (fun z => by have := E3.2; rw [z, h1'] at this; cases this) ⟨_, e6, rfl, (fun c => by nofun), .inl ⟨rfl, fun _ => rfl⟩⟩ (fun h7 tk7 I7 k7 same7 => ?_)
  obtain ⟨oe, e7, hcls7, hdat7, _⟩ := same7 _ e6
  have k7' : ∀ b o, b ≠ e → h6.get? b = some o → h7.get? b = some o := fun b o hb q => k7 b o hb (fun o₀ dx q₀ q₁ => by rw [e6] at q₀; cases q₀; cases q₁) q
  have F4 := XI.fr_but F3 E3.1 E3.2 k7'
  have N4 : News g2 L2 h7 ((e, oe) :: news) := fun p hp => by
    rcases List.mem_cons.mp hp with rfl | hp'
    · exact ⟨e7, E3⟩
    · exact XI.news_but (fun p hp => N3 p (.tail _ hp)) hne k7' p hp'
  clear N3 F3 k7 same7 k7' I7 e6 hN hC
  k_steps
  rename Fr h₀ L h7 m => F5
  rename News h₀ L h7 _ => N5
  have E5 := N5 (e, oe) (.head _)
  refine hret (hideAll h7 [e]) h7 e tk7 ?_ ?_ ⟨fun b o q => of_hideAll _ q, hideAll_none _ (.head _), ⟨oe, .ref t6, e7, hcls7, hdat7⟩⟩
  · refine ⟨F5.ns.at fun o q => hideAll_get _ q (fun z => ?_), fun b o q => hideAll_get _ (F5.keep _ _ q) (fun z => ?_), ?_⟩
    · rcases List.mem_cons.mp z with z | z
      · exact E5.2.1 z.symm
      · cases z
    · rcases List.mem_cons.mp z with z | z
      · rw [z, E5.2.2] at q; cases q
      · cases z
    · exact F5.above
  · intro p hp
    have h := N5 p (.tail _ hp)
    refine ⟨hideAll_get _ h.1 (fun z => ?_), h.2⟩
    rcases List.mem_cons.mp z with z | z
    · exact hne p hp z
    · cases z
theorem leave_newX {M : Model} {A : Around} {E : Value → Shared → Prop} {s' : Shared} {base g h : Heap} {outer : List Env} {L a e : Addr} {m : Str → Option Value} {name : Str} {scope : Scope} {cd : Value} {Q : Unit → Shared → Prop} {news : List (Addr × Obj)} {cls : Value}
    (K : Below A base outer g) (hx : NewX h s'.heap e cls) (F : Fr g L h m) (N : News g L h news)
    (hQ : ∀ h', RaisedSN base g outer e cls news h' → g.UpToSlots h' → Q () { s' with heap := h' }) (hk : scope.kind = .function := by rfl) :
    wpAny M (A.deeper (envOf name scope L a cd)) (leaving (envOf name scope L a cd) (.ref e)) Q E s' := by
  have K' := K.push (name := name) (a := a) (cd := cd) F hk
  have hin : ∀ env ∈ (envOf name scope L a cd :: outer), ∀ b, env.frame = some b → b ∈ (envOf name scope L a cd :: outer).filterMap (·.frame) := fun env he b hb => List.mem_filterMap.mpr ⟨env, he, hb⟩
  have st : base.StaysIn (hideAll h ((envOf name scope L a cd :: outer).filterMap (·.frame))) := fun b o q => hideAll_get _ (K'.stays b o q) fun hm => by
    rw [(K'.frames.mem hm).1] at q; cases q
  have sg : ∀ b o, g.get? b = some o → b ∉ outer.filterMap (·.frame) → (hideAll h ((envOf name scope L a cd :: outer).filterMap (·.frame))).get? b = some o := fun b o q nm => hideAll_get _ (F.keep b o q) fun hm => by
    rcases kts_mem hm with z | z
    · rw [z, kts_self F] at q
      cases q
    · exact nm z
  have hl : ∀ q ∈ news, (hideAll h ((envOf name scope L a cd :: outer).filterMap (·.frame))).get? q.1 = some q.2 ∧ g.get? q.1 = none ∧ base.get? q.1 = none := fun q hq => by
    refine ⟨hideAll_get _ (N q hq).1 fun hm => ?_, (N q hq).2.2, fresh_of_stays K.stays (N q hq).2.2⟩
    obtain ⟨env, he, hf⟩ := List.mem_filterMap.mp hm
    rcases List.mem_cons.mp he with rfl | he
    · exact (N q hq).2.1 (Option.some.inj hf).symm
    · obtain ⟨o, ho, _⟩ := (K.frames.mem (List.mem_filterMap.mpr ⟨env, he, hf⟩)).2
      rw [(N q hq).2.2] at ho; cases ho
  obtain ⟨ob, tp, he, hcls, hd⟩ := hx.there
  have hen : (hideAll h ((envOf name scope L a cd :: outer).filterMap (·.frame))).get? e = none := by
    cases q : (hideAll h ((envOf name scope L a cd :: outer).filterMap (·.frame))).get? e with
    | none => rfl
    | some o => have := of_hideAll _ q; rw [hx.new] at this; cases this
  refine wpAny_leaving_firstW (a0 := tp) K'.stack ((funFrames_hide K'.frames hin).of_keeps fun b o hb _ => ⟨o, hx.keeps b o hb, rfl⟩) rfl he (fun b o hb => hx.keeps b o (of_hideAll _ hb)) hen hd rfl rfl fun h' hL => ?_
  obtain ⟨k1, ⟨_, _, k2⟩, k3, k4⟩ := hL
  have R : RaisedSN base g outer e cls news h' := ⟨_, tp, st, sg, hl, k1, hen, k2, by rw [← hcls]; exact k3⟩
  exact hQ h' R (((Heap.UpToSlots.of_keeps F.keep).trans (Heap.UpToSlots.of_keeps hx.keeps)).trans k4)
/-- an exception of an own class is being thrown -/
def Throws (C : Addr) (E : Value → Shared → Prop) (v : Value) (s₁ : Shared) : Prop :=
  ∃ e ob t, v = .ref e ∧ (∃ nm q N bs bm hdct sn sub ab col dd k0 k1 k2 k3 k5 newId, s₁.heap.get? C = some (excClassObj nm q C N bs bm hdct sn sub ab col dd k0 k1 k2 k3 k5 newId) ∧ bm.contains (.type "BaseException") = true) ∧
    s₁.heap.get? e = some ob ∧ ob.cls = .ref C ∧ ob.data = .fields #[t, .none, .none, .none, .bool false, .none] ∧ E (.ref e) s₁
theorem raiseX {M : Model} {A : Around} {E : Value → Shared → Prop} {s : Shared} {env : Env} {ce : Expr} {pos : Pos} {C : Addr} {Q : Flow → Shared → Prop} (hh : A.handled = none)
    (h : wpAny M A (eval ce env) (fun v s₁ => Throws C E v s₁) E s) : wpAny M A (exec (.Raise (some ce) none pos) env) Q E s := by
  show wpAny M A (do standAt pos; raiseStmt env (some (do let v ← eval ce env; standAt pos; pure v)) none) Q E s
  refine wpAny_bind (wpAny_standAt ?_)
  unfold raiseStmt
  dsimp only
  refine wpAny_bind (wpAny_bind (wpAny_mono h (fun v s₁ h₁ => wpAny_bind (wpAny_standAt (wpAny_pure ?_))) fun _ _ e => e))
  refine hide fun G hG => ?_
  obtain ⟨e, ob, t, qe0, ⟨nm, q, N, bs, bm, hdct, sn, sub, ab, col, dd, k0, k1, k2, k3, k5, newId, hC, hbase⟩, he, hcls, hdat, hE⟩ := h₁
  refine hG ?_
  clear hG G
  subst qe0
  have hcB : (Value.ref C :: bm).contains (.type "BaseException") = true := by rw [List.contains_cons, hbase, Bool.or_true]
  obtain ⟨hp, g, d, tk, os⟩ := s₁
  obtain ⟨oc, od, odt, osl⟩ := ob
  obtain rfl : oc = .ref C := hcls
  obtain rfl : odt = _ := hdat
  repeat (first | (with_reducible refine wpAny_loadPart_at he ?_) | with_reducible refine wpAny_loadPart_at hC ?_ | (with_reducible refine wpAny_isSubtype_exc hC ?_; rw [hcB]) | wp_step)
  exact wpAny_raiseNew_none hh hE
theorem throws_short {w : World} {g h : Heap} {L e : Addr} {m : Str → Option Value} {E : Value → Shared → Prop} {s₁ : Shared} (X : (MineH.hd.heap_39 w.params).In g) (F : Fr g L h m) (NX : NewX h s₁.heap e (.ref 58)) (hE : E (.ref e) s₁) : Throws 58 E (.ref e) s₁ := by
  have h1 := X 58 _ (by k_is)
  obtain ⟨ob, t, h2, h3, h4⟩ := NX.there
  exact ⟨e, ob, t, rfl, ⟨_, _, _, _, _, _, _, _, _, _, _, _, _, _, _, _, _, NX.keeps _ _ (F.keep _ _ h1), by decide⟩, h2, h3, h4, hE⟩
end
section
open PySem PySem.W PyProof.Rows PySem.Spec PySem.Calls
set_option maxRecDepth 100000
set_option maxHeartbeats 8000000
set_option linter.unusedVariables false
theorem fresh_C7 : True := by
  w_top off
  trivial
open PySem PySem.W PyProof.Rows PySem.Spec PySem.Calls
set_option maxRecDepth 100000
set_option maxHeartbeats 8000000
set_option linter.unusedVariables false
theorem fill_dummyC7 : (∃ K : Params → Frag, K = MineH.hd.heap_39) ∧ PySem.Challenge.rw_pb0522_01 = PySem.Challenge.rw_pb0522_01 := by
  k_fill
  exact ⟨⟨_, rfl⟩, rfl⟩
end
local macro_rules | `(tactic| walk_at "exec Raise some none") => `(tactic| (k_here; k_dflt (refine' raiseX (C := 58) (by exact rfl) ?_; k_whole)))
section
open PySem PySem.W PyProof.Rows PySem.Spec PySem.Calls
set_option maxRecDepth 100000
set_option maxHeartbeats 8000000
set_option linter.unusedVariables false
end
local macro_rules | `(tactic| walk_at "call ref") => `(tactic| (k_here; (show wpAny _ _ (call (Value.ref 58) _) _ _ _); k_dflt (refine' short_make (hret := ?_)); walk_at "my end"))
section
open PySem PySem.W PyProof.Rows PySem.Spec PySem.Calls
set_option maxRecDepth 100000
set_option maxHeartbeats 8000000
set_option linter.unusedVariables false
theorem whole_spec {w : World} {mean : ExcName → Option Value} {mg mb : Str → Option Value} {dp un : Nat} {gd : Option (List Code)} {cn : Str} {cs : Scope} {a : Addr} {ccd : Value} {cl : List (Str × Addr)} {outer : List Env} {A₀ : Around} {base h₀ : Heap} {L : Addr} {m : Str → Option Value} {s : Shared} {Q E : Value → Shared → Prop}
    {d : List UInt8} {at_ size : Int} {td ta ts : Tok} {news : List (Addr × Obj)}
    (B : Below A₀ base outer h₀ := by k_asm) (F : Fr h₀ L s.heap m := by k_asm) (X : (MineH.hd.heap_39 w.params).In h₀ := by k_asm) (T : Top MineH.hd.view_39 (looseW MineH.hd.view_39 []) mean mg mb h₀ := by k_asm) (hk : cs.kind = .function := by first | exact rfl | assumption) (N : News h₀ L s.heap news := by walk_at "my news")
    (ha : 0 ≤ at_ := by assumption) (ha1 : at_ ≤ d.length := by assumption) (hs : 0 ≤ size := by assumption) (hs1 : size ≤ 8 := by assumption) (hdl : d.length ≤ 1000 := by assumption)
    (hd : dp + 10 < recursionLimit := by ktr_room) (hu : un + 128 < cLine := by ktr_units)
    (hE : (d.length : Int) < at_ + size → ∀ G h' e tk', Fr h₀ L G m → RaisedSN base G (envOf cn cs L a ccd :: outer) e (.ref 58) news h' → G.UpToSlots h' → E (.ref e) { s with heap := h', toks := tk' })
    (hret : at_ + size ≤ d.length → ∀ (t : Tok) (h' : Heap) (tk' : Nat), Fr h₀ L h' m → News h₀ L h' news → Q (.int (beI ((d.drop at_.toNat).take size.toNat)) t) { s with heap := h', toks := tk' }) :
    wpAny (model PySem.Challenge.rw_pb0522_01.row.prog w) (ktrTop dp un gd cn cs L a ccd cl outer) (call (.ref 76) [.bytes d.toArray td, .int at_ ta, .int size ts]) Q E s := by
  refine wpAny_call ?_
  k_dflt cell_enter
  have hb : KBw.bInts d.toArray = d.map fun c => (c.toNat : Int) := KBw.ints_list d
  have hbl : (d.map fun c => (c.toNat : Int)).length = d.length := List.length_map _
  refine wpAny_execs_cons ?_
  refine wpAny_halt ?_
  k_steps
  · rename_i hgt _ _ _ _ _ _
    (rename NewX _ _ _ _ => NX)
    (with_reducible rename Fr _ _ _ _ => kF)
    (with_reducible rename News _ _ _ _ => kN)
    (with_reducible rename Frag.In _ _ => kX)
    (with_reducible rename Below _ _ _ _ => kB)
    refine throws_short kX kF NX ?_
    refine leave_newX kB NX kF kN (fun h' R U => ?_)
    exact hE (by omega) _ _ _ _ (by assumption) R U
  rename_i hle
  unfold Halt
  (try dsimp only)
  refine wpAny_execs_cons ?_
  refine wpAny_halt ?_
  k_steps
  unfold Halt
  (try dsimp only)
  refine wpAny_execs_cons ?_
  (rename Fr _ _ _ _ => lF')
  (with_unfolding_all refine' For_invVF lF' ?k1 ?k2 ?_; (case k1 => exact rfl); (case k2 => exact rfl))
  refine wpAny_halt ?_
  k_steps
  unfold Halt
  (with_reducible rename Fr _ _ _ _ => kF)
  (with_reducible rename News _ _ _ _ => kN)
  have hsl := picked_in d (lo := at_) (hi := at_ + size) ha (by omega) (by omega)
  rw [show (at_ + size).toNat - at_.toNat = size.toNat by omega] at hsl
  rw [hsl]
  refine bytes_inv (fun i m' news' => (∃ u t, m' = fun y => if y = Str.ofString "octet" then u else if y = Str.ofString "found" then some (.int (beI (((d.drop at_.toNat).take size.toNat).take i)) t) else if y = Str.ofString "size" then some (.int size ts) else if y = Str.ofString "at" then some (.int at_ ta) else if y = Str.ofString "data" then some (.bytes d.toArray td) else none) ∧ news' = news) (by rfl) kF kN ⟨⟨none, _, by (funext y; (by_cases e0 : y = Str.ofString "octet"); (subst e0; rfl); (by_cases e1 : y = Str.ofString "found"); (subst e1; rfl); (by_cases e2 : y = Str.ofString "size"); (subst e2; rfl); (by_cases e3 : y = Str.ofString "at"); (subst e3; rfl); (by_cases e4 : y = Str.ofString "data"); (subst e4; rfl); (try simp only [if_neg e0, if_neg e1, if_neg e2, if_neg e3, if_neg e4]); (show List.lookup y [(Str.ofString "size", _), (Str.ofString "at", _), (Str.ofString "data", _)] = none); (simp only [List.lookup, beq_eq_false_iff_ne.mpr e2, beq_eq_false_iff_ne.mpr e3, beq_eq_false_iff_ne.mpr e4]))⟩, rfl⟩ ?_ ?_
  · rintro i c u m₁ news₁ I it h tk hi off jj F₁ N₁
    refine hide fun G hG => ?_
    obtain ⟨⟨u0, t0, qe0⟩, qe1⟩ := jj
    refine hG ?_
    clear hG G
    subst qe0
    subst qe1
    clear kF kN
    have hlt : i < ((d.drop at_.toNat).take size.toNat).length := by
      false_or_by_contra
      rename_i hc
      rw [Array.getElem?_eq_none (by simpa using hc)] at hi
      cases hi
    have hst : ((d.drop at_.toNat).take size.toNat).take (i + 1) = ((d.drop at_.toNat).take size.toNat).take i ++ [c] := by
      rw [List.take_add_one]
      congr 1
      rw [List.getElem?_toArray] at hi
      rw [hi]; rfl
    k_steps
    (with_reducible rename Fr _ _ _ _ => kF)
    (with_reducible rename News _ _ _ _ => kN)
    refine' UnrEnd.intro kF kN _ (fun p hp => hp) off ⟨⟨some (.int (c.toNat : Int) u), _, ?ff⟩, rfl⟩
    case ff =>
      rw [hst, beI_append]
      (funext y; (by_cases e0 : y = Str.ofString "found"); (subst e0; rfl); (by_cases e1 : y = Str.ofString "octet"); (subst e1; rfl); (try simp only [if_neg e0, if_neg e1]))
  · rintro m₁ news₁ h tk' jj F₁ N₁
    refine hide fun G hG => ?_
    obtain ⟨⟨u, t, qe0⟩, qe1⟩ := jj
    refine hG ?_
    clear hG G
    subst qe0
    subst qe1
    clear kF kN
    rw [List.take_of_length_le (by simp)] at F₁
    k_steps
    exact hret (by omega) _ _ _ (by k_asm) (by k_asm)
end
section
open PySem PySem.W PyProof.Rows PySem.Spec PySem.Calls
set_option maxRecDepth 100000
set_option maxHeartbeats 8000000
set_option linter.unusedVariables false
theorem fresh_C8 : True := by
  w_top off
  trivial
open PySem PySem.W PyProof.Rows PySem.Spec PySem.Calls
set_option maxRecDepth 100000
set_option maxHeartbeats 8000000
set_option linter.unusedVariables false
theorem fill_dummyC8 : (∃ K : Params → Frag, K = MineH.hd.heap_39) ∧ PySem.Challenge.rw_pb0522_01 = PySem.Challenge.rw_pb0522_01 := by
  k_fill
  exact ⟨⟨_, rfl⟩, rfl⟩
end
local macro_rules | `(tactic| walk_at "call ref") => `(tactic| (k_here; (show wpAny _ _ (call (Value.ref 76) _) _ _ _); k_dflt (refine' whole_spec (hE := ?_) (hret := ?_)); walk_at "my ends"))
section
open PySem PySem.W PyProof.Rows PySem.Spec PySem.Calls
set_option maxRecDepth 100000
set_option maxHeartbeats 8000000
set_option linter.unusedVariables false
end
local macro_rules | `(tactic| walk_at "subscriptTail") => `(tactic| (k_here; k_dflt (refine' sizes_item (by k_asm) ‹_› ‹_› ‹_› ?_; k_whole); intro t9; (try dsimp only)))
section
open PySem PySem.W PyProof.Rows PySem.Spec PySem.Calls
set_option maxRecDepth 100000
set_option maxHeartbeats 8000000
set_option linter.unusedVariables false
theorem varint_spec {w : World} {mean : ExcName → Option Value} {mg mb : Str → Option Value} {dp un : Nat} {gd : Option (List Code)} {cn : Str} {cs : Scope} {a : Addr} {ccd : Value} {cl : List (Str × Addr)} {outer : List Env} {A₀ : Around} {base h₀ : Heap} {L : Addr} {m : Str → Option Value} {s : Shared} {Q E : Value → Shared → Prop}
    {d : List UInt8} {at_ : Int} {td ta : Tok} {news : List (Addr × Obj)}
    (B : Below A₀ base outer h₀ := by k_asm) (F : Fr h₀ L s.heap m := by k_asm) (X : (MineH.hd.heap_39 w.params).In h₀ := by k_asm) (T : Top MineH.hd.view_39 (looseW MineH.hd.view_39 []) mean mg mb h₀ := by k_asm) (hk : cs.kind = .function := by first | exact rfl | assumption) (N : News h₀ L s.heap news := by walk_at "my news")
    (ha : 0 ≤ at_ := by assumption) (ha1 : at_ ≤ d.length := by assumption) (hdl : d.length ≤ 1000 := by assumption)
    (hd : dp + 14 < recursionLimit := by ktr_room) (hu : un + 256 < cLine := by ktr_units)
    (hE : (∀ c, d[at_.toNat]? = some c → (d.length : Int) < at_ + szOf c) → ∀ G h' e tk', Fr h₀ L G m → RaisedSN base G (envOf cn cs L a ccd :: outer) e (.ref 58) news h' → G.UpToSlots h' → E (.ref e) { s with heap := h', toks := tk' })
    (hret : ∀ c, d[at_.toNat]? = some c → at_ + szOf c ≤ d.length → ∀ (p : Addr) (t1 t2 : Tok) (h' : Heap) (tk' : Nat), Fr h₀ L h' m → News h₀ L h' ((p, { cls := .type "tuple", data := .seq #[.int (beI ((d.drop at_.toNat).take (szOf c).toNat) % 2 ^ (8 * szOf c - 2).toNat) t1, .int (at_ + szOf c) t2] }) :: news) → (∀ q ∈ news, q.1 < p) → Q (.ref p) { s with heap := h', toks := tk' }) :
    wpAny (model PySem.Challenge.rw_pb0522_01.row.prog w) (ktrTop dp un gd cn cs L a ccd cl outer) (call (.ref 97) [.bytes d.toArray td, .int at_ ta]) Q E s := by
  refine wpAny_call ?_
  k_dflt cell_enter
  have hb : KBw.bInts d.toArray = d.map fun c => (c.toNat : Int) := KBw.ints_list d
  have hbl : (d.map fun c => (c.toNat : Int)).length = d.length := List.length_map _
  refine wpAny_execs_cons ?_
  refine wpAny_halt ?_
  k_steps
  · (rename NewX _ _ _ _ => NX)
    (with_reducible rename Fr _ _ _ _ => kF)
    (with_reducible rename News _ _ _ _ => kN)
    (with_reducible rename Frag.In _ _ => kX)
    (with_reducible rename Below _ _ _ _ => kB)
    refine throws_short kX kF NX ?_
    refine leave_newX kB NX kF kN (fun h' R U => ?_)
    refine hE (fun c hc => ?_) _ _ _ _ (by assumption) R U
    have := (List.getElem?_eq_some_iff.mp hc).1
    exfalso; omega
  rename_i hlt
  unfold Halt
  (try dsimp only)
  obtain ⟨c, hc⟩ : ∃ c, d[at_.toNat]? = some c := ⟨d[at_.toNat]'(by omega), by simp⟩
  have hgd : (d.map fun c => (c.toNat : Int)).getD at_.toNat 0 = (c.toNat : Int) := by
    rw [List.getD_eq_getElem?_getD, List.getElem?_map, hc]; rfl
  have hq := first_place c
  rw [← hgd] at hq
  obtain ⟨hq0, hq1, hq2⟩ := hq
  (with_reducible rename Frag.In _ _ => kX)
  have ht := kX 62 _ (by k_is)
  refine wpAny_execs_cons ?_
  refine wpAny_halt ?_
  k_steps
  unfold Halt
  (try dsimp only)
  rw [hq2] at *
  have hz := szOf_cases c
  have hz0 : 0 ≤ szOf c := by omega
  have hz1 : szOf c ≤ 8 := by omega
  have hb0 : 0 ≤ 8 * szOf c - 2 := by omega
  have hb1 : 8 * szOf c - 2 ≤ 62 := by omega
  k_steps
  · (rename RaisedSN _ _ _ _ _ _ _ => R)
    refine' leave_onSN ?kB ?kF R ?kU ?kk
    case kB => assumption
    case kF => assumption
    case kU => assumption
    intro h' R' _ U'
    rename ↑d.length < at_ + szOf c => w1
    refine hE (fun c' hc' => ?_) _ _ _ _ (by assumption) R' U'
    rw [hc] at hc'
    cases hc'
    exact w1
  · (with_reducible rename News _ _ _ _ => kN)
    refine' hret c hc ?w _ _ _ _ _ ?f ?n ?l
    case l => assumption
    case w => assumption
    case f => assumption
    case n =>
      rw [Int.one_mul, and_mask (beI_nonneg _)] at kN
      exact kN
end
section
open PySem PySem.W PyProof.Rows PySem.Spec PySem.Calls
set_option maxRecDepth 100000
set_option maxHeartbeats 8000000
set_option linter.unusedVariables false
theorem fresh_C9 : True := by
  w_top off
  trivial
open PySem PySem.W PyProof.Rows PySem.Spec PySem.Calls
set_option maxRecDepth 100000
set_option maxHeartbeats 8000000
set_option linter.unusedVariables false
theorem fill_dummyC9 : (∃ K : Params → Frag, K = MineH.hd.heap_39) ∧ PySem.Challenge.rw_pb0522_01 = PySem.Challenge.rw_pb0522_01 := by
  k_fill
  exact ⟨⟨_, rfl⟩, rfl⟩
theorem reader_spec {w : World} {mean : ExcName → Option Value} {mg mb : Str → Option Value} {dp un : Nat} {gd : Option (List Code)} {cn : Str} {cs : Scope} {a : Addr} {ccd : Value} {cl : List (Str × Addr)} {outer : List Env} {A₀ : Around} {base h₀ : Heap} {L : Addr} {m : Str → Option Value} {s : Shared} {Q E : Value → Shared → Prop}
    {d : List UInt8} {td : Tok} {news : List (Addr × Obj)}
    (B : Below A₀ base outer h₀ := by k_asm) (F : Fr h₀ L s.heap m := by k_asm) (X : (MineH.hd.heap_39 w.params).In h₀ := by k_asm) (T : Top MineH.hd.view_39 (looseW MineH.hd.view_39 []) mean mg mb h₀ := by k_asm) (hk : cs.kind = .function := by first | exact rfl | assumption) (N : News h₀ L s.heap news := by walk_at "my news")
    (hd : dp + 6 < recursionLimit := by ktr_room) (hu : un + 64 < cLine := by ktr_units)
    (hret : ∀ (x dx : Nat) (ta k1 k2 : Tok) (h' : Heap) (tk' : Nat), Fr h₀ L h' m → News h₀ L h' ((x, instObj 170 dx) :: (dx, dictOf [{ hash := PyData.keyHash w.params (Str.ofString "data"), key := .str (Str.ofString "data") k1, val := .bytes (List.toArray (d)) td }, { hash := PyData.keyHash w.params (Str.ofString "at"), key := .str (Str.ofString "at") k2, val := .int (0) ta }] 2) :: news) → (∀ p ∈ news, p.1 < dx) → dx < x → Q (.ref x) { s with heap := h', toks := tk' }) :
    wpAny (model PySem.Challenge.rw_pb0522_01.row.prog w) (ktrTop dp un gd cn cs L a ccd cl outer) (call (.ref 170) [.bytes d.toArray td]) Q E s := by
  k_dflt (refine' call_cls ?k1 ?k2 ?k3 ?k4 ?k5 ?k6 ?_; (case k1 => k_asm); (case k2 => k_asm); (case k3 => k_asm); (case k4 => k_is); (case k5 => k_is); (case k6 => k_is); k_whole)
  intro x d' h' F' N' l1 l2
  clear F N
  have hn1 : ∀ p ∈ news, p.1 ≠ d' := fun p hp => Nat.ne_of_lt (l1 p hp)
  have hn2 : ∀ p ∈ news, p.1 ≠ x := fun p hp => Nat.ne_of_lt (Nat.lt_trans (l1 p hp) l2)
  have hxd : x ≠ d' := Nat.ne_of_gt l2
  have hdx : d' ≠ x := Nat.ne_of_lt l2
  k_dflt cell_enter
  k_steps
  exact hret _ _ _ _ _ _ _ (by k_asm) (by k_asm) l1 l2
theorem left_spec {w : World} {mean : ExcName → Option Value} {mg mb : Str → Option Value} {dp un : Nat} {gd : Option (List Code)} {cn : Str} {cs : Scope} {a : Addr} {ccd : Value} {cl : List (Str × Addr)} {outer : List Env} {A₀ : Around} {base h₀ : Heap} {L : Addr} {m : Str → Option Value} {s : Shared} {Q E : Value → Shared → Prop}
    {d : List UInt8} {at_ : Int} {x dx : Nat} {td ta k1 k2 : Tok} {news : List (Addr × Obj)}
    (B : Below A₀ base outer h₀ := by k_asm) (F : Fr h₀ L s.heap m := by k_asm) (X : (MineH.hd.heap_39 w.params).In h₀ := by k_asm) (T : Top MineH.hd.view_39 (looseW MineH.hd.view_39 []) mean mg mb h₀ := by k_asm) (hk : cs.kind = .function := by first | exact rfl | assumption) (N : News h₀ L s.heap ((x, instObj 170 dx) :: (dx, dictOf [{ hash := PyData.keyHash w.params (Str.ofString "data"), key := .str (Str.ofString "data") k1, val := .bytes (List.toArray (d)) td }, { hash := PyData.keyHash w.params (Str.ofString "at"), key := .str (Str.ofString "at") k2, val := .int (at_) ta }] 2) :: news) := by walk_at "my news")
    (hdl : d.length ≤ 1000 := by assumption)
    (hd : dp + 2 < recursionLimit := by ktr_room) (hu : un + 16 < cLine := by ktr_units)
    (hret : ∀ (t : Tok) (h' : Heap) (tk' : Nat), Fr h₀ L h' m → News h₀ L h' ((x, instObj 170 dx) :: (dx, dictOf [{ hash := PyData.keyHash w.params (Str.ofString "data"), key := .str (Str.ofString "data") k1, val := .bytes (List.toArray (d)) td }, { hash := PyData.keyHash w.params (Str.ofString "at"), key := .str (Str.ofString "at") k2, val := .int (at_) ta }] 2) :: news) → Q (.int ((d.length : Int) - at_) t) { s with heap := h', toks := tk' }) :
    wpAny (model PySem.Challenge.rw_pb0522_01.row.prog w) (ktrTop dp un gd cn cs L a ccd cl outer) (call (.ref 139) [.ref x]) Q E s := by
  have hb : KBw.bInts d.toArray = d.map fun c => (c.toNat : Int) := KBw.ints_list d
  have hbl : (d.map fun c => (c.toNat : Int)).length = d.length := List.length_map _
  refine wpAny_call ?_
  k_dflt cell_enter
  k_steps
  exact hret _ _ _ (by k_asm) (by k_asm)
end
local macro_rules | `(tactic| walk_at "call ref") => `(tactic| (k_here; (show wpAny _ _ (call (Value.ref 139) _) _ _ _); k_dflt (refine' left_spec (hret := ?_)); walk_at "my end"))
section
open PySem PySem.W PyProof.Rows PySem.Spec PySem.Calls
set_option maxRecDepth 100000
set_option maxHeartbeats 8000000
set_option linter.unusedVariables false
theorem rtake_spec {w : World} {mean : ExcName → Option Value} {mg mb : Str → Option Value} {dp un : Nat} {gd : Option (List Code)} {cn : Str} {cs : Scope} {a : Addr} {ccd : Value} {cl : List (Str × Addr)} {outer : List Env} {A₀ : Around} {base h₀ : Heap} {L : Addr} {m : Str → Option Value} {s : Shared} {Q E : Value → Shared → Prop}
    {d : List UInt8} {at_ many : Int} {x dx : Nat} {td ta tm k1 k2 : Tok} {news : List (Addr × Obj)}
    (B : Below A₀ base outer h₀ := by k_asm) (F : Fr h₀ L s.heap m := by k_asm) (X : (MineH.hd.heap_39 w.params).In h₀ := by k_asm) (T : Top MineH.hd.view_39 (looseW MineH.hd.view_39 []) mean mg mb h₀ := by k_asm) (hk : cs.kind = .function := by first | exact rfl | assumption) (N : News h₀ L s.heap ((x, instObj 170 dx) :: (dx, dictOf [{ hash := PyData.keyHash w.params (Str.ofString "data"), key := .str (Str.ofString "data") k1, val := .bytes (List.toArray (d)) td }, { hash := PyData.keyHash w.params (Str.ofString "at"), key := .str (Str.ofString "at") k2, val := .int (at_) ta }] 2) :: news) := by walk_at "my news")
    (hn1 : ∀ p ∈ news, p.1 ≠ dx := by assumption) (hn2 : ∀ p ∈ news, p.1 ≠ x := by assumption) (hxd : x ≠ dx := by assumption) (hdx : dx ≠ x := by assumption)
    (ha : 0 ≤ at_ := by first | assumption | exact at_nonneg (by assumption) _) (ha1 : at_ ≤ d.length := by assumption) (hm : 0 ≤ many := by first | assumption | exact num_nonneg _ _) (hdl : d.length ≤ 1000 := by assumption)
    (hd : dp + 10 < recursionLimit := by ktr_room) (hu : un + 128 < cLine := by ktr_units)
    (hE : (d.length : Int) - at_ < many → ∀ G h' e tk', Fr h₀ L G m → RaisedSN base G (envOf cn cs L a ccd :: outer) e (.ref 58) ((x, instObj 170 dx) :: (dx, dictOf [{ hash := PyData.keyHash w.params (Str.ofString "data"), key := .str (Str.ofString "data") k1, val := .bytes (List.toArray (d)) td }, { hash := PyData.keyHash w.params (Str.ofString "at"), key := .str (Str.ofString "at") k2, val := .int (at_) ta }] 2) :: news) h' → G.UpToSlots h' → E (.ref e) { s with heap := h', toks := tk' })
    (hret : many ≤ (d.length : Int) - at_ → ∀ (t ta' : Tok) (h' : Heap) (tk' : Nat), Fr h₀ L h' m → News h₀ L h' ((x, instObj 170 dx) :: (dx, dictOf [{ hash := PyData.keyHash w.params (Str.ofString "data"), key := .str (Str.ofString "data") k1, val := .bytes (List.toArray (d)) td }, { hash := PyData.keyHash w.params (Str.ofString "at"), key := .str (Str.ofString "at") k2, val := .int (at_ + many) ta' }] 2) :: news) → Q (.bytes ((d.drop at_.toNat).take many.toNat).toArray t) { s with heap := h', toks := tk' }) :
    wpAny (model PySem.Challenge.rw_pb0522_01.row.prog w) (ktrTop dp un gd cn cs L a ccd cl outer) (call (.ref 146) [.ref x, .int many tm]) Q E s := by
  have hb : KBw.bInts d.toArray = d.map fun c => (c.toNat : Int) := KBw.ints_list d
  have hbl : (d.map fun c => (c.toNat : Int)).length = d.length := List.length_map _
  refine wpAny_call ?_
  k_dflt cell_enter
  refine wpAny_execs_cons ?_
  refine wpAny_halt ?_
  k_steps
  · (rename NewX _ _ _ _ => NX)
    (with_reducible rename Fr _ _ _ _ => kF)
    (with_reducible rename News _ _ _ _ => kN)
    (with_reducible rename Frag.In _ _ => kX)
    (with_reducible rename Below _ _ _ _ => kB)
    refine throws_short kX kF NX ?_
    refine leave_newX kB NX kF kN (fun h' R U => ?_)
    exact hE (by omega) _ _ _ _ (by assumption) R U
  rename_i hle
  unfold Halt
  (try dsimp only)
  k_steps
  have hsl := picked_in d (lo := at_) (hi := at_ + many) ha (by omega) (by omega)
  rw [show (at_ + many).toNat - at_.toNat = many.toNat by omega] at hsl
  rw [show at_ + many - many = at_ by omega, hsl]
  exact hret (by omega) _ _ _ _ (by k_asm) (by k_asm)
end
local macro_rules | `(tactic| walk_at "call ref") => `(tactic| (k_here; (show wpAny _ _ (call (Value.ref 97) _) _ _ _); k_dflt (refine' varint_spec (hE := ?_) (hret := ?_)); (k_whole; intros; (try dsimp only)); rotate_left; (intro c9 hc9 w2 p9 t9 u9 h9 tk9 F9 N9 l9; (try k_lt l9); (try dsimp only); (try k_fold)); rotate_left))
section
open PySem PySem.W PyProof.Rows PySem.Spec PySem.Calls
set_option maxRecDepth 100000
set_option maxHeartbeats 8000000
set_option linter.unusedVariables false
theorem rwhole_spec {w : World} {mean : ExcName → Option Value} {mg mb : Str → Option Value} {dp un : Nat} {gd : Option (List Code)} {cn : Str} {cs : Scope} {a : Addr} {ccd : Value} {cl : List (Str × Addr)} {outer : List Env} {A₀ : Around} {base h₀ : Heap} {L : Addr} {m : Str → Option Value} {s : Shared} {Q E : Value → Shared → Prop}
    {d : List UInt8} {at_ size : Int} {x dx : Nat} {td ta tm k1 k2 : Tok} {news : List (Addr × Obj)}
    (B : Below A₀ base outer h₀ := by k_asm) (F : Fr h₀ L s.heap m := by k_asm) (X : (MineH.hd.heap_39 w.params).In h₀ := by k_asm) (T : Top MineH.hd.view_39 (looseW MineH.hd.view_39 []) mean mg mb h₀ := by k_asm) (hk : cs.kind = .function := by first | exact rfl | assumption) (N : News h₀ L s.heap ((x, instObj 170 dx) :: (dx, dictOf [{ hash := PyData.keyHash w.params (Str.ofString "data"), key := .str (Str.ofString "data") k1, val := .bytes (List.toArray (d)) td }, { hash := PyData.keyHash w.params (Str.ofString "at"), key := .str (Str.ofString "at") k2, val := .int (at_) ta }] 2) :: news) := by walk_at "my news")
    (hn1 : ∀ p ∈ news, p.1 ≠ dx := by assumption) (hn2 : ∀ p ∈ news, p.1 ≠ x := by assumption) (hxd : x ≠ dx := by assumption) (hdx : dx ≠ x := by assumption)
    (ha : 0 ≤ at_ := by assumption) (ha1 : at_ ≤ d.length := by assumption) (hs : 0 ≤ size := by assumption) (hs1 : size ≤ 8 := by assumption) (hdl : d.length ≤ 1000 := by assumption)
    (hd : dp + 14 < recursionLimit := by ktr_room) (hu : un + 256 < cLine := by ktr_units)
    (hE : (d.length : Int) < at_ + size → ∀ G h' e tk', Fr h₀ L G m → RaisedSN base G (envOf cn cs L a ccd :: outer) e (.ref 58) ((x, instObj 170 dx) :: (dx, dictOf [{ hash := PyData.keyHash w.params (Str.ofString "data"), key := .str (Str.ofString "data") k1, val := .bytes (List.toArray (d)) td }, { hash := PyData.keyHash w.params (Str.ofString "at"), key := .str (Str.ofString "at") k2, val := .int (at_) ta }] 2) :: news) h' → G.UpToSlots h' → E (.ref e) { s with heap := h', toks := tk' })
    (hret : at_ + size ≤ d.length → ∀ (t ta' : Tok) (h' : Heap) (tk' : Nat), Fr h₀ L h' m → News h₀ L h' ((x, instObj 170 dx) :: (dx, dictOf [{ hash := PyData.keyHash w.params (Str.ofString "data"), key := .str (Str.ofString "data") k1, val := .bytes (List.toArray (d)) td }, { hash := PyData.keyHash w.params (Str.ofString "at"), key := .str (Str.ofString "at") k2, val := .int (at_ + size) ta' }] 2) :: news) → Q (.int (beI ((d.drop at_.toNat).take size.toNat)) t) { s with heap := h', toks := tk' }) :
    wpAny (model PySem.Challenge.rw_pb0522_01.row.prog w) (ktrTop dp un gd cn cs L a ccd cl outer) (call (.ref 160) [.ref x, .int size tm]) Q E s := by
  refine wpAny_call ?_
  k_dflt cell_enter
  refine wpAny_execs_cons ?_
  refine wpAny_halt ?_
  k_steps
  · (rename RaisedSN _ _ _ _ _ _ _ => R)
    refine' leave_onSN ?kB ?kF R ?kU ?kk
    case kB => assumption
    case kF => assumption
    case kU => assumption
    intro h' R' _ U'
    exact hE (by assumption) _ _ _ _ (by assumption) R' U'
  unfold Halt
  (try dsimp only)
  k_steps
  exact hret (by assumption) _ _ _ _ (by k_asm) (by k_asm)
theorem rvarint_spec {w : World} {mean : ExcName → Option Value} {mg mb : Str → Option Value} {dp un : Nat} {gd : Option (List Code)} {cn : Str} {cs : Scope} {a : Addr} {ccd : Value} {cl : List (Str × Addr)} {outer : List Env} {A₀ : Around} {base h₀ : Heap} {L : Addr} {m : Str → Option Value} {s : Shared} {Q E : Value → Shared → Prop}
    {d : List UInt8} {at_ : Int} {x dx : Nat} {td ta k1 k2 : Tok} {news : List (Addr × Obj)}
    (B : Below A₀ base outer h₀ := by k_asm) (F : Fr h₀ L s.heap m := by k_asm) (X : (MineH.hd.heap_39 w.params).In h₀ := by k_asm) (T : Top MineH.hd.view_39 (looseW MineH.hd.view_39 []) mean mg mb h₀ := by k_asm) (hk : cs.kind = .function := by first | exact rfl | assumption) (N : News h₀ L s.heap ((x, instObj 170 dx) :: (dx, dictOf [{ hash := PyData.keyHash w.params (Str.ofString "data"), key := .str (Str.ofString "data") k1, val := .bytes (List.toArray (d)) td }, { hash := PyData.keyHash w.params (Str.ofString "at"), key := .str (Str.ofString "at") k2, val := .int (at_) ta }] 2) :: news) := by walk_at "my news")
    (hn1 : ∀ p ∈ news, p.1 ≠ dx := by assumption) (hn2 : ∀ p ∈ news, p.1 ≠ x := by assumption) (hxd : x ≠ dx := by assumption) (hdx : dx ≠ x := by assumption)
    (ha : 0 ≤ at_ := by assumption) (ha1 : at_ ≤ d.length := by assumption) (hdl : d.length ≤ 1000 := by assumption)
    (hd : dp + 18 < recursionLimit := by ktr_room) (hu : un + 512 < cLine := by ktr_units)
    (hE : (∀ c, d[at_.toNat]? = some c → (d.length : Int) < at_ + szOf c) → ∀ G h' e tk', Fr h₀ L G m → RaisedSN base G (envOf cn cs L a ccd :: outer) e (.ref 58) ((x, instObj 170 dx) :: (dx, dictOf [{ hash := PyData.keyHash w.params (Str.ofString "data"), key := .str (Str.ofString "data") k1, val := .bytes (List.toArray (d)) td }, { hash := PyData.keyHash w.params (Str.ofString "at"), key := .str (Str.ofString "at") k2, val := .int (at_) ta }] 2) :: news) h' → G.UpToSlots h' → E (.ref e) { s with heap := h', toks := tk' })
    (hret : ∀ c, d[at_.toNat]? = some c → at_ + szOf c ≤ d.length → ∀ (t ta' : Tok) (h' : Heap) (tk' : Nat), Fr h₀ L h' m → News h₀ L h' ((x, instObj 170 dx) :: (dx, dictOf [{ hash := PyData.keyHash w.params (Str.ofString "data"), key := .str (Str.ofString "data") k1, val := .bytes (List.toArray (d)) td }, { hash := PyData.keyHash w.params (Str.ofString "at"), key := .str (Str.ofString "at") k2, val := .int (at_ + szOf c) ta' }] 2) :: news) → Q (.int (beI ((d.drop at_.toNat).take (szOf c).toNat) % 2 ^ (8 * szOf c - 2).toNat) t) { s with heap := h', toks := tk' }) :
    wpAny (model PySem.Challenge.rw_pb0522_01.row.prog w) (ktrTop dp un gd cn cs L a ccd cl outer) (call (.ref 167) [.ref x]) Q E s := by
  refine wpAny_call ?_
  k_dflt cell_enter
  refine wpAny_execs_cons ?_
  refine wpAny_halt ?_
  k_steps
  · (rename RaisedSN _ _ _ _ _ _ _ => R)
    refine' leave_onSN ?kB ?kF R ?kU ?kk
    case kB => assumption
    case kF => assumption
    case kU => assumption
    intro h' R' _ U'
    exact hE (by assumption) _ _ _ _ (by assumption) R' U'
  unfold Halt
  (try dsimp only)
  k_steps
  exact hret _ (by assumption) (by assumption) _ _ _ _ (by k_asm) (by first | k_asm | exact cb_drop (by assumption) fun p hp => .tail _ hp)
end
section
open PySem PySem.W PyProof.Rows PySem.Spec PySem.Calls
set_option maxRecDepth 100000
set_option maxHeartbeats 8000000
set_option linter.unusedVariables false
theorem fresh_C10 : True := by
  w_top off
  trivial
open PySem PySem.W PyProof.Rows PySem.Spec PySem.Calls
set_option maxRecDepth 100000
set_option maxHeartbeats 8000000
set_option linter.unusedVariables false
theorem fill_dummyC10 : (∃ K : Params → Frag, K = MineH.hd.heap_39) ∧ PySem.Challenge.rw_pb0522_01 = PySem.Challenge.rw_pb0522_01 := by
  k_fill
  exact ⟨⟨_, rfl⟩, rfl⟩
theorem allLt_all {d : Addr} : ∀ {l : List (Addr × Obj)}, AllLt d l → ∀ p ∈ l, p.1 < d
  | [], _, _, hp => nomatch hp
  | q :: r, x, p, hp => by
    rcases List.mem_cons.mp hp with rfl | hp
    · exact x.1
    · exact allLt_all x.2 p hp
theorem news_sub {h₀ h : Heap} {L : Addr} {a b : List (Addr × Obj)} (N : News h₀ L h a) (hs : ∀ p ∈ b, p ∈ a) : News h₀ L h b := fun p hp => N p (hs p hp)
theorem perm_abcd {a b c d : Addr × Obj} {r : List (Addr × Obj)} : ∀ p ∈ c :: d :: a :: b :: r, p ∈ a :: b :: c :: d :: r := by
  simp only [List.mem_cons]; rintro p (h | h | h | h | h) <;> simp [h]
theorem perm_end {x dx i d kl : Addr × Obj} {r : List (Addr × Obj)} : ∀ p ∈ d :: x :: dx :: kl :: r, p ∈ x :: dx :: i :: d :: kl :: r := by
  simp only [List.mem_cons]; rintro p (h | h | h | h | h) <;> simp [h]
theorem perm_turn {x dx i d kl : Addr × Obj} {r : List (Addr × Obj)} : ∀ p ∈ i :: d :: x :: dx :: kl :: r, p ∈ x :: dx :: i :: d :: kl :: r := by
  simp only [List.mem_cons]; rintro p (h | h | h | h | h | h) <;> simp [h]
theorem all_ne3 {a b c : Addr × Obj} {r : List (Addr × Obj)} {x : Addr} (ha : a.1 ≠ x) (hb : b.1 ≠ x) (hc : c.1 ≠ x) (hr : ∀ p ∈ r, p.1 ≠ x) : ∀ p ∈ a :: b :: c :: r, p.1 ≠ x := by
  simp only [List.mem_cons]
  rintro p (h | h | h | h)
  · rw [h]; exact ha
  · rw [h]; exact hb
  · rw [h]; exact hc
  · exact hr p h
theorem all_ne4 {a b c e : Addr × Obj} {r : List (Addr × Obj)} {x : Addr} (ha : a.1 ≠ x) (hb : b.1 ≠ x) (hc : c.1 ≠ x) (he : e.1 ≠ x) (hr : ∀ p ∈ r, p.1 ≠ x) : ∀ p ∈ a :: b :: c :: e :: r, p.1 ≠ x := by
  intro p h
  rcases List.mem_cons.mp h with h | h
  · rw [h]; exact ha
  · exact all_ne3 hb hc he hr p h
end
local macro_rules | `(tactic| walk_at "call ref") => `(tactic| (k_here; (show wpAny _ _ (call (Value.ref 167) _) _ _ _); k_dflt (refine' rvarint_spec (hE := ?_) (hret := ?_)); walk_at "my ends"))
section
open PySem PySem.W PyProof.Rows PySem.Spec PySem.Calls
set_option maxRecDepth 100000
set_option maxHeartbeats 8000000
set_option linter.unusedVariables false
end
local macro_rules | `(tactic| walk_at "call ref") => `(tactic| (k_here; (show wpAny _ _ (call (Value.ref 160) _) _ _ _); k_dflt (refine' rwhole_spec (hE := ?_) (hret := ?_)); walk_at "my ends"))
section
open PySem PySem.W PyProof.Rows PySem.Spec PySem.Calls
set_option maxRecDepth 100000
set_option maxHeartbeats 8000000
set_option linter.unusedVariables false
end
local macro_rules | `(tactic| walk_at "call ref") => `(tactic| (k_here; (show wpAny _ _ (call (Value.ref 146) _) _ _ _); k_dflt (refine' rtake_spec (hE := ?_) (hret := ?_)); walk_at "my ends"))
section
open PySem PySem.W PyProof.Rows PySem.Spec PySem.Calls
set_option maxRecDepth 100000
set_option maxHeartbeats 8000000
set_option linter.unusedVariables false
end
local macro_rules | `(tactic| walk_at "call builtin:list.append") => `(tactic| (k_here; k_dflt (refine' append_K (by k_asm) (by k_asm) (by k_upd) ?_ ‹_›; k_whole); intro h' F' N'; (try k_sweep)))
section
open PySem PySem.W PyProof.Rows PySem.Spec PySem.Calls
set_option maxRecDepth 100000
set_option maxHeartbeats 8000000
set_option linter.unusedVariables false
theorem read_spec {w : World} {mean : ExcName → Option Value} {mg mb : Str → Option Value} {dp un : Nat} {gd : Option (List Code)} {cn : Str} {cs : Scope} {a : Addr} {ccd : Value} {cl : List (Str × Addr)} {outer : List Env} {A₀ : Around} {base h₀ : Heap} {L : Addr} {m : Str → Option Value} {s : Shared} {Q E : Value → Shared → Prop}
    {d : List UInt8} {kinds : List (Nat × Int)} {kvs : List Value} {x dx kl : Nat} {e1 : Nat} {td ta k1 k2 : Tok} {news : List (Addr × Obj)}
    (B : Below A₀ base outer h₀ := by k_asm) (F : Fr h₀ L s.heap m := by k_asm) (X : (MineH.hd.heap_39 w.params).In h₀ := by k_asm) (T : Top MineH.hd.view_39 (looseW MineH.hd.view_39 []) mean mg mb h₀ := by k_asm) (hk : cs.kind = .function := by first | exact rfl | assumption) (N : News h₀ L s.heap ((x, instObj 170 dx) :: (dx, dictOf [{ hash := PyData.keyHash w.params (Str.ofString "data"), key := .str (Str.ofString "data") k1, val := .bytes (List.toArray (d)) td }, { hash := PyData.keyHash w.params (Str.ofString "at"), key := .str (Str.ofString "at") k2, val := .int (0) ta }] 2) :: (kl, listOf kvs.toArray e1) :: news) := by walk_at "my news")
    (XB : (MineH.hd.heap_39 w.params).In base := by assumption) (TB : Top MineH.hd.view_39 (looseW MineH.hd.view_39 []) mean mg mb base := by assumption) (D : KtsDicts (outer.filterMap (·.frame)) h₀ := by assumption)
    (hx1 : x ≠ dx := by assumption) (hx2 : dx ≠ x := by assumption) (hx3 : kl ≠ x := by assumption) (hx4 : kl ≠ dx := by assumption) (hx5 : x ≠ kl := by assumption) (hx6 : dx ≠ kl := by assumption)
    (hn1 : ∀ p ∈ news, p.1 ≠ dx := by assumption) (hn2 : ∀ p ∈ news, p.1 ≠ x := by assumption) (hn3 : ∀ p ∈ news, p.1 ≠ kl := by assumption)
    (hlen : kvs.length = kinds.length := by assumption) (hl6 : kinds.length ≤ 6 := by assumption)
    (hkv : ∀ (i : Nat) (v : Value), kvs[i]? = some v → ∃ (p : Addr) (t1 t2 : Tok) (c : Nat) (z : Int), kinds[i]? = some (c, z) ∧ c ≤ 2 ∧ 0 ≤ z ∧ z ≤ 8 ∧ v = Value.ref p ∧ (p, ({ cls := .type "tuple", data := .seq #[.str (kindS c) t1, .int z t2] } : Obj)) ∈ news := by assumption)
    (hdl : d.length ≤ 1000 := by assumption)
    (hd : dp + 22 < recursionLimit := by ktr_room) (hu : un + 1024 < cLine := by ktr_units)
    (hret : ∀ (D1 : Nat) (fvs : List Value) (ta' : Tok) (e2 : Nat) (at' : Int) (g' h' : Heap) (tk' : Nat), KtsTurn (outer.filterMap (·.frame)) h₀ g' → Below A₀ base outer g' → Fr g' L h' m → (MineH.hd.heap_39 w.params).In g' → Top MineH.hd.view_39 (looseW MineH.hd.view_39 []) mean mg mb g' → KtsDicts (outer.filterMap (·.frame)) g' →
      News g' L h' ((D1, listOf fvs.toArray e2) :: (x, instObj 170 dx) :: (dx, dictOf [{ hash := PyData.keyHash w.params (Str.ofString "data"), key := .str (Str.ofString "data") k1, val := .bytes (List.toArray (d)) td }, { hash := PyData.keyHash w.params (Str.ofString "at"), key := .str (Str.ofString "at") k2, val := .int (at') ta' }] 2) :: (kl, listOf kvs.toArray e1) :: news) → (∀ p ∈ news, p.1 < D1) → D1 ≠ x → D1 ≠ dx → D1 ≠ kl →
      AllIs (readAll d 0 kinds).1 fvs → (∀ a, (readAll d 0 kinds).2 = some a → at' = a) → Q (.ref D1) { s with heap := h', toks := tk' }) :
    wpAny (model PySem.Challenge.rw_pb0522_01.row.prog w) (ktrTop dp un gd cn cs L a ccd cl outer) (call (.ref 205) [.ref x, .ref kl]) Q E s := by
  refine wpAny_call ?_
  k_dflt (refine' codeS_K ?k1 ?k2 ?k3 ?k4 ?k5 ?kA ?XB ?TB ?D ?kF ?kK ?k6 ?k7 ?k8 ?k9 ?kB ?_ ?c2 ?c3 ?c4 ?c5; (case kA => exact rfl); (case kF => exact rfl); (case kK => assumption); (case k2 => k_asm); (case k1 => k_asm); (case XB => assumption); (case TB => assumption); (case D => assumption); (case k3 => k_asm); (case k4 => k_asm); (case k5 => k_asm); (case k6 => k_is); (case k7 => k_is); (case k8 => ktr_room); (case k9 => exact BindsTo.of_eq rfl); (case kB => exact locs rfl); (case c2 => exact rfl); (case c3 => exact rfl); (case c4 => exact rfl); (case c5 => decide); k_whole; intro g' L' h' FG' F' N' B' X' T' D'; (try dsimp only); (try k_lift B'); (try k_fold))
  refine wpAny_execs_cons ?_
  refine wpAny_halt ?_
  k_steps
  unfold Halt
  (try dsimp only)
  (with_reducible rename Frag.In _ _ => kX)
  (with_reducible rename Top _ _ _ _ _ _ => kT)
  (with_reducible rename Below _ _ _ _ => kB)
  (with_reducible rename KtsDicts _ _ => kD)
  (rename Fr _ _ _ _ => lF')
  refine wpAny_execs_cons ?_
  refine For_turns lF' ?_
  refine wpAny_halt ?_
  k_steps
  unfold Halt
  (rename Fr _ _ _ _ => kF)
  (rename News _ _ _ _ => kN)
  (rename _ ∧ _ => l1)
  rename_i D1 h1 tk1
  refine hide fun G hG => ?_
  obtain ⟨l1, l2, l3, l4⟩ := l1
  refine hG ?_
  clear hG G
  have hl4 : ∀ p ∈ news, p.1 < D1 := allLt_all l4
  refine listT_inv (lo := listOf kvs.toArray e1) (vs := kvs) (fun i m' news' => ∃ (fvs : List Value) (at' : Int) (ta' : Tok) (e2 : Nat) (u1 u2 : Option Value) (rs : List RV),
    m' = (fun y => if y = Str.ofString "size" then u1 else if y = Str.ofString "kind" then u2 else if y = Str.ofString "found" then some (.ref D1) else if y = Str.ofString "kinds" then some (.ref kl) else if y = Str.ofString "reader" then some (.ref x) else none) ∧
    news' = (D1, listOf fvs.toArray e2) :: (x, instObj 170 dx) :: (dx, dictOf [{ hash := PyData.keyHash w.params (Str.ofString "data"), key := .str (Str.ofString "data") k1, val := .bytes (List.toArray (d)) td }, { hash := PyData.keyHash w.params (Str.ofString "at"), key := .str (Str.ofString "at") k2, val := .int (at') ta' }] 2) :: (kl, listOf kvs.toArray e1) :: news ∧ 0 ≤ at' ∧ at' ≤ d.length ∧ fvs.length = i ∧
    AllIs rs fvs ∧ readAll d 0 kinds = (rs ++ (readAll d at' (kinds.drop i)).1, (readAll d at' (kinds.drop i)).2)) (by rfl) kF kN (by simp) rfl rfl ?_ ?_ ?_
  · exact ⟨[], 0, ta, 0, none, none, [], by (funext y; (by_cases e0 : y = Str.ofString "size"); (subst e0; rfl); (by_cases e1 : y = Str.ofString "kind"); (subst e1; rfl); (by_cases e2 : y = Str.ofString "found"); (subst e2; rfl); (by_cases e3 : y = Str.ofString "kinds"); (subst e3; rfl); (by_cases e4 : y = Str.ofString "reader"); (subst e4; rfl); (try simp only [if_neg e0, if_neg e1, if_neg e2, if_neg e3, if_neg e4]); (show List.lookup y [(Str.ofString "kinds", _), (Str.ofString "reader", _)] = none); (simp only [List.lookup, beq_eq_false_iff_ne.mpr e3, beq_eq_false_iff_ne.mpr e4])), rfl, by omega, by omega, rfl, .nil, by simp⟩
  · rintro i v m₁ news₁ I it h tk hi off hmem jj F₁ N₁
    refine hide fun G hG => ?_
    obtain ⟨fvs, at', ta', e2, u1, u2, rs, qe0, qe1, ha0, ha1, hfl, hrs, hall⟩ := jj
    refine hG ?_
    clear hG G
    subst qe0
    subst qe1
    refine hide fun G hG => ?_
    obtain ⟨p, t1, t2, c, z, hki, hc2, hz0, hz8, qe0, hp⟩ := hkv i v hi
    refine hG ?_
    clear hG G
    subst qe0
    have hkd : kinds.drop i = (c, z) :: kinds.drop (i + 1) := by
      obtain ⟨hlt, e⟩ := List.getElem?_eq_some_iff.mp hki
      rw [List.drop_eq_getElem_cons hlt, e]
    have hT : IsTup h p #[.str (kindS c) t1, .int z t2] := ⟨_, (N₁ _ (.tail _ (.tail _ (.tail _ (.tail _ (.tail _ hp)))))).1, rfl, _, rfl⟩
    have N₂ := news_sub N₁ perm_abcd
    have hIx : @Ne Nat I x := fun e => off _ (.tail _ (.head _)) e.symm
    have hIdx : @Ne Nat I dx := fun e => off _ (.tail _ (.tail _ (.head _))) e.symm
    have hID : @Ne Nat I D1 := fun e => off _ (.head _) e.symm
    have hDI : @Ne Nat D1 I := fun e => hID e.symm
    have hIkl : @Ne Nat I kl := fun e => off _ (.tail _ (.tail _ (.tail _ (.head _)))) e.symm
    have hDx : @Ne Nat D1 x := Nat.ne_of_gt l1
    have hDdx : @Ne Nat D1 dx := Nat.ne_of_gt l2
    have hDkl : @Ne Nat D1 kl := Nat.ne_of_gt l3
    have hxD : @Ne Nat x D1 := Nat.ne_of_lt l1
    have hdxD : @Ne Nat dx D1 := Nat.ne_of_lt l2
    have hklD : @Ne Nat kl D1 := Nat.ne_of_lt l3
    have hnD : ∀ p ∈ news, p.1 ≠ D1 := fun p hp => Nat.ne_of_lt (hl4 p hp)
    have hnI : ∀ p ∈ news, p.1 ≠ I := fun p hp => off p (.tail _ (.tail _ (.tail _ (.tail _ hp))))
    have hm1 : ∀ p ∈ (I, it) :: (D1, listOf fvs.toArray e2) :: (kl, listOf kvs.toArray e1) :: news, p.1 ≠ dx := all_ne3 hIdx hDdx hx4 hn1
    have hm2 : ∀ p ∈ (I, it) :: (D1, listOf fvs.toArray e2) :: (kl, listOf kvs.toArray e1) :: news, p.1 ≠ x := all_ne3 hIx hDx hx3 hn2
    rw [hkd] at hall
    have hi6 : i < kvs.length := (List.getElem?_eq_some_iff.mp hi).1
    have hsz : fvs.toArray.size ≤ sizeLine := by rw [sizeLine_eq, List.size_toArray]; omega
    clear kF kN N₁ hkd hki hi hmem N
    rcases (show c = 0 ∨ c = 1 ∨ c = 2 by omega) with rfl | rfl | rfl
    · simp only [kindS] at hT
      k_steps
      · have e := readAll_none (ks := kinds.drop (i + 1)) (one_num_none (z := z) (by assumption))
        rw [e, List.append_nil] at hall
        (with_reducible rename News _ _ _ _ => kN)
        exact hret D1 fvs _ e2 _ _ _ _ (by assumption) (by assumption) (by assumption) (by assumption) (by assumption) (by assumption) (news_sub kN perm_end) hl4 hDx hDdx hDkl (by rw [hall]; exact hrs) (by rw [hall]; intro a e; cases e)
      · have e := readAll_some (ks := kinds.drop (i + 1)) (one_num_some (z := z) (by assumption) (by assumption))
        rw [e] at hall
        (rename UInt8 => c9)
        have hz := szOf_cases c9
        (with_reducible rename Fr _ _ _ _ => kF)
        (with_reducible rename News _ _ _ _ => kN)
        rw [List.push_toArray] at kN
        refine' UnrEnd.intro kF (news_sub kN perm_turn) _ (fun p hp => hp) (all_ne4 hDI hIx.symm hIdx.symm hIkl.symm hnI) ⟨by simp, _, _, _, _, some (.int z t2), some (.str _ t1), rs ++ [.num (beI (List.take (szOf c9).toNat (List.drop at'.toNat d)) % 2 ^ (8 * szOf c9 - 2).toNat)], ?hmap, rfl, ?h1, ?h2, ?h3, ?h4, ?h5⟩
        case h2 => first | assumption | omega
        case h3 => simp [hfl]
        case h4 => exact hrs.append (AllIs.one ⟨_, rfl⟩)
        case h5 => rw [hall, List.append_assoc]; rfl
        case h1 => omega
        case hmap => (funext y; (by_cases e0 : y = Str.ofString "size"); (subst e0; rfl); (by_cases e1 : y = Str.ofString "kind"); (subst e1; rfl); (try simp only [if_neg e0, if_neg e1]))
    · simp only [kindS] at hT
      k_steps
      · have e := readAll_none (ks := kinds.drop (i + 1)) (one_cut_none (by assumption))
        rw [e, List.append_nil] at hall
        (with_reducible rename News _ _ _ _ => kN)
        exact hret D1 fvs _ e2 _ _ _ _ (by assumption) (by assumption) (by assumption) (by assumption) (by assumption) (by assumption) (news_sub kN perm_end) hl4 hDx hDdx hDkl (by rw [hall]; exact hrs) (by rw [hall]; intro a e; cases e)
      · have e := readAll_some (ks := kinds.drop (i + 1)) (one_cut_some (z := z) (by assumption))
        rw [e] at hall
        (with_reducible rename Fr _ _ _ _ => kF)
        (with_reducible rename News _ _ _ _ => kN)
        rw [List.push_toArray] at kN
        refine' UnrEnd.intro kF (news_sub kN perm_turn) _ (fun p hp => hp) (all_ne4 hDI hIx.symm hIdx.symm hIkl.symm hnI) ⟨by simp, _, _, _, _, some (.int z t2), some (.str _ t1), rs ++ [.num (beI ((d.drop at'.toNat).take z.toNat))], ?hmap, rfl, ?h1, ?h2, ?h3, ?h4, ?h5⟩
        case h2 => first | assumption | omega
        case h3 => simp [hfl]
        case h4 => exact hrs.append (AllIs.one ⟨_, rfl⟩)
        case h5 => rw [hall, List.append_assoc]; rfl
        case h1 => omega
        case hmap => (funext y; (by_cases e0 : y = Str.ofString "size"); (subst e0; rfl); (by_cases e1 : y = Str.ofString "kind"); (subst e1; rfl); (try simp only [if_neg e0, if_neg e1]))
    · simp only [kindS] at hT
      k_steps
      · have e := readAll_none (ks := kinds.drop (i + 1)) (one_txt_none (z := z) (by assumption))
        rw [e, List.append_nil] at hall
        (with_reducible rename News _ _ _ _ => kN)
        exact hret D1 fvs _ e2 _ _ _ _ (by assumption) (by assumption) (by assumption) (by assumption) (by assumption) (by assumption) (news_sub kN perm_end) hl4 hDx hDdx hDkl (by rw [hall]; exact hrs) (by rw [hall]; intro a e; cases e)
      · have e := readAll_none (ks := kinds.drop (i + 1)) (one_txt_none' (z := z) (by assumption) (by assumption) (by assumption))
        rw [e, List.append_nil] at hall
        (with_reducible rename News _ _ _ _ => kN)
        exact hret D1 fvs _ e2 _ _ _ _ (by assumption) (by assumption) (by assumption) (by assumption) (by assumption) (by assumption) (news_sub kN perm_end) hl4 hDx hDdx hDkl (by rw [hall]; exact hrs) (by rw [hall]; intro a e; cases e)
      · have e := readAll_some (ks := kinds.drop (i + 1)) (one_txt_some (z := z) (by assumption) (by assumption) (by assumption))
        rw [e] at hall
        (rename UInt8 => c9)
        have hz := szOf_cases c9
        have hnn := num_nonneg (List.take (szOf c9).toNat (List.drop at'.toNat d)) (8 * szOf c9 - 2).toNat
        (with_reducible rename Fr _ _ _ _ => kF)
        (with_reducible rename News _ _ _ _ => kN)
        rw [List.push_toArray] at kN
        refine' UnrEnd.intro kF (news_sub kN perm_turn) _ (fun p hp => hp) (all_ne4 hDI hIx.symm hIdx.symm hIkl.symm hnI) ⟨by simp, _, _, _, _, some (.int z t2), some (.str _ t1), rs ++ [.txt ((d.drop (at' + szOf c9).toNat).take (beI (List.take (szOf c9).toNat (List.drop at'.toNat d)) % 2 ^ (8 * szOf c9 - 2).toNat).toNat)], ?hmap, rfl, ?h1, ?h2, ?h3, ?h4, ?h5⟩
        case h2 => first | assumption | omega
        case h3 => simp [hfl]
        case h4 => exact hrs.append (AllIs.one ⟨_, rfl⟩)
        case h5 => rw [hall, List.append_assoc]; rfl
        case h1 => omega
        case hmap => (funext y; (by_cases e0 : y = Str.ofString "size"); (subst e0; rfl); (by_cases e1 : y = Str.ofString "kind"); (subst e1; rfl); (try simp only [if_neg e0, if_neg e1]))
  · rintro m₁ news₁ h tk' jj F₁ N₁
    refine hide fun G hG => ?_
    obtain ⟨fvs, at', ta', e2, u1, u2, rs, qe0, qe1, ha0, ha1, hfl, hrs, hall⟩ := jj
    refine hG ?_
    clear hG G
    subst qe0
    subst qe1
    clear kF kN N
    have hDx : D1 ≠ x := Nat.ne_of_gt l1
    have hDdx : D1 ≠ dx := Nat.ne_of_gt l2
    have hDkl : D1 ≠ kl := Nat.ne_of_gt l3
    rw [hlen, List.drop_length] at hall
    have hall2 : readAll d 0 kinds = (rs, some at') := by rw [hall]; show (rs ++ [], some at') = _; rw [List.append_nil]
    k_steps
    (with_reducible rename News _ _ _ _ => kN)
    exact hret D1 fvs _ e2 _ _ _ _ (by first | assumption | exact KtsTurn.refl) (by assumption) (by assumption) (by assumption) (by assumption) (by assumption) kN hl4 hDx hDdx hDkl (by rw [hall2]; exact hrs) (by rw [hall2]; intro a e; cases e; rfl)
end
section
open PySem PySem.W PyProof.Rows PySem.Spec PySem.Calls
set_option maxRecDepth 100000
set_option maxHeartbeats 8000000
set_option linter.unusedVariables false
theorem fresh_C11 : True := by
  w_top off
  trivial
open PySem PySem.W PyProof.Rows PySem.Spec PySem.Calls
set_option maxRecDepth 100000
set_option maxHeartbeats 8000000
set_option linter.unusedVariables false
theorem fill_dummyC11 : (∃ K : Params → Frag, K = MineH.hd.heap_39) ∧ PySem.Challenge.rw_pb0522_01 = PySem.Challenge.rw_pb0522_01 := by
  k_fill
  exact ⟨⟨_, rfl⟩, rfl⟩
theorem restore_wide {c x low : Int} (h0 : 0 ≤ c) (h1 : c ≤ 4611686018427387903) (hx0 : 0 ≤ x) (hx1 : x ≤ 65535) (hl : low = if c < 32768 then 0 else min (c - 32767) 4611686018427322368) :
    restoreI (Int.fmod (low + x) 65536) 65536 c = low + x := by
  obtain ⟨l0, l1, l2, l3⟩ := low_facts (H := 32768) (W := 65536) (by decide) (by decide) (by decide) h0 (low := low) hl
  rw [Int.fmod_eq_emod_of_nonneg _ (by decide : (0:Int) ≤ 65536)]
  obtain ⟨R, hR, r0, r1, e⟩ := restore_in (A := c / 65536 * 65536) (t := (low + x) % 65536) (W := 65536) (H := 32768) (by decide) (by decide) (by omega) (by omega) (by omega) (by omega) (by omega) (by omega) l0 l1 l2 l3
  unfold restoreI
  rw [two62, Int.fdiv_eq_ediv_of_nonneg _ (by decide : (0:Int) ≤ 65536), Int.fdiv_eq_ediv_of_nonneg _ (by decide : (0:Int) ≤ 2)]
  refine Eq.trans e ?_
  clear e l0 l1 l2 l3 hl
  omega
def lowW (c : Int) : Int := if c < 32768 then 0 else min (c - 32767) 4611686018427322368
theorem lowW_1 {c : Int} (h : c < 32768) : lowW c = 0 := if_pos h
theorem lowW_2 {c : Int} (h : ¬ c < 32768) : lowW c = if 4611686018427322368 < c - 32767 then 4611686018427322368 else c - 32767 := by
  unfold lowW
  rw [if_neg h, Int.min_def]
  (repeat' split) <;> omega
end
local macro_rules | `(tactic| walk_at "call ref") => `(tactic| (k_here; (show wpAny _ _ (call (Value.ref 181) _) _ _ _); k_dflt (refine' take_spec (hret := ?_)); walk_at "my end"))
section
open PySem PySem.W PyProof.Rows PySem.Spec PySem.Calls
set_option maxRecDepth 100000
set_option maxHeartbeats 8000000
set_option linter.unusedVariables false
end
local macro_rules | `(tactic| walk_at "binaryOp Pow int int") => `(tactic| (with_reducible (first | refine pow_62 ?_ | refine pow_30 ?_ | refine pow_61 ?_)))
section
open PySem PySem.W PyProof.Rows PySem.Spec PySem.Calls
set_option maxRecDepth 100000
set_option maxHeartbeats 8000000
set_option linter.unusedVariables false
theorem wide_spec {w : World} {mean : ExcName → Option Value} {mg mb : Str → Option Value} {dp un : Nat} {gd : Option (List Code)} {cn : Str} {cs : Scope} {a : Addr} {ccd : Value} {cl : List (Str × Addr)} {outer : List Env} {A₀ : Around} {base h₀ : Heap} {L : Addr} {m : Str → Option Value} {s : Shared} {Q E : Value → Shared → Prop}
    {bx l : Nat} {vs : List Value} {ns : List Int} {k coming : Int} {v : Value} {tk : Tok} {e1 e2 : Nat} {news : List (Addr × Obj)}
    (B : Below A₀ base outer h₀ := by k_asm) (F : Fr h₀ L s.heap m := by k_asm) (X : (MineH.hd.heap_39 w.params).In h₀ := by k_asm) (T : Top MineH.hd.view_39 (looseW MineH.hd.view_39 []) mean mg mb h₀ := by k_asm) (hk : cs.kind = .function := by first | exact rfl | assumption) (N : News h₀ L s.heap ((bx, listOf #[.ref l, .int k tk] e1) :: (l, listOf vs.toArray e2) :: news) := by walk_at "my news")
    (hI : IntsAre vs ns := by assumption) (hl : ns.length ≤ 24 := by assumption) (hk0 : 0 ≤ k := by decide) (hk1 : k < 1000 := by decide) (hbl : bx ≠ l := by assumption) (hbl2 : l ≠ bx := by assumption) (hn : ∀ p ∈ news, p.1 ≠ bx := by assumption) (hv : SeenV v coming := by assumption) (hcm : coming ≤ 4611686018427387903 := by assumption)
    (hd : dp + 6 < recursionLimit := by ktr_room) (hu : un + 64 < cLine := by ktr_units)
    (hret : ∀ (tk2 : Tok) (h' : Heap) (tk' : Nat), Fr h₀ L h' m → News h₀ L h' ((bx, listOf #[.ref l, .int (k + 2) tk2] e1) :: (l, listOf vs.toArray e2) :: news) → Q (.bool true) { s with heap := h', toks := tk' }) :
    wpAny (model PySem.Challenge.rw_pb0522_01.row.prog w) (ktrTop dp un gd cn cs L a ccd cl outer) (call (.ref 193) [.ref bx, v]) Q E s := by
  have menu : ∀ (a : Int) (i : Int), 0 ≤ a → a < 65536 → 0 ≤ ([0, 1, 32767, 32768, 65534, 65535, a] : List Int).getD i.toNat 0 ∧ ([0, 1, 32767, 32768, 65534, 65535, a] : List Int).getD i.toNat 0 ≤ 65535 := by
    intro a i h0 h1
    rcases (show i.toNat = 0 ∨ i.toNat = 1 ∨ i.toNat = 2 ∨ i.toNat = 3 ∨ i.toNat = 4 ∨ i.toNat = 5 ∨ i.toNat = 6 ∨ 7 ≤ i.toNat by omega) with h | h | h | h | h | h | h | h
    all_goals (first | (rw [h]; simp only [List.getD_cons_zero, List.getD_cons_succ]; omega) | (rw [List.getD_eq_getElem?_getD, List.getElem?_eq_none (by simpa using h)]; decide))
  have fin : ∀ (low g c tr : Int) (t' : Tok), 0 ≤ c → c ≤ 4611686018427387903 → low = lowW c → 0 ≤ g → g ≤ 65535 → restoreI (Int.fmod (low + g) 65536) (1 * 2 ^ (8 * 2 : Int).toNat) c = low + g := by
    intro low g c tr t' h0 h1 hl h2 h3
    exact restore_wide h0 h1 h2 h3 hl
  have hc0 : 0 ≤ coming := by rcases hv with ⟨_, h⟩ | ⟨n, t, _, h, h1, _⟩ <;> omega
  refine wpAny_call ?_
  k_dflt cell_enter
  refine wpAny_never ?_
  (with_reducible rename Fr _ _ _ _ => kF)
  (with_reducible rename News _ _ _ _ => kN)
  refine join_int kF kN (Str.ofString "coming") coming ?_ ?_
  · have hv' := hv
    rcases hv' with ⟨rfl, rfl⟩ | ⟨n, t, rfl, rfl, hn0, hn1⟩
    all_goals (
      k_steps
      unfold Halt
      (with_reducible rename Fr _ _ _ _ => kF1)
      (with_reducible rename News _ _ _ _ => kN1)
      exact ⟨rfl, _, _, _, rfl, kF1, kN1⟩)
  clear kF kN
  intro h2 tk2 t2 kF kN
  (try dsimp only)
  refine join_int kF kN (Str.ofString "low") (lowW coming) ?_ ?_
  · k_steps
    all_goals (
      unfold Halt
      (with_reducible rename Fr _ _ _ _ => kF1)
      (with_reducible rename News _ _ _ _ => kN1)
      refine' ⟨by first | rfl | trivial, _, _, _, rfl, ?k9, kN1⟩
      case k9 =>
        first
          | (rw [lowW_1 (by omega)]; exact kF1)
          | (rw [lowW_2 (by omega)]; exact kF1))
  clear kF kN
  intro h3 tk3 t3 kF kN
  (try dsimp only)
  k_steps
  (rename _ < (65536 : Int) => p3)
  have m := fun i => menu _ i (by assumption) p3
  k_dflt (refine' restore_spec (hx := Int.fmod_nonneg_of_pos _ (by decide)) (hx1 := Int.fmod_lt_of_pos _ (by decide)) (hret := ?_); k_whole)
  intro t5 h5 tk5 F5 N5
  rw [fin _ _ _ 0 0 hc0 hcm rfl (m _).1 (m _).2]
  k_steps
  rw [beq_self_eq_true]
  (with_reducible rename News _ _ _ _ => kN)
  exact hret _ _ _ (by k_asm) (by rw [show k + 2 = k + 1 + 1 by omega]; exact news_drop3 kN)
end
section
open PySem PySem.W PyProof.Rows PySem.Spec PySem.Calls
set_option maxRecDepth 100000
set_option maxHeartbeats 40000000
set_option linter.unusedVariables false
theorem fresh_C12 : True := by
  w_top off
  trivial
open PySem PySem.W PyProof.Rows PySem.Spec PySem.Calls
set_option maxRecDepth 100000
set_option maxHeartbeats 40000000
set_option linter.unusedVariables false
theorem fill_dummyC12 : (∃ K : Params → Frag, K = MineH.hd.heap_39) ∧ PySem.Challenge.rw_pb0522_01 = PySem.Challenge.rw_pb0522_01 := by
  k_fill
  exact ⟨⟨_, rfl⟩, rfl⟩
theorem size_spec' {w : World} {mean : ExcName → Option Value} {mg mb : Str → Option Value} {dp un : Nat} {gd : Option (List Code)} {cn : Str} {cs : Scope} {a : Addr} {ccd : Value} {cl : List (Str × Addr)} {outer : List Env} {A₀ : Around} {base h₀ : Heap} {L : Addr} {m : Str → Option Value} {s : Shared} {Q E : Value → Shared → Prop}
    {n v : Int} {tk : Tok} {news : List (Addr × Obj)}
    (B : Below A₀ base outer h₀ := by k_asm) (F : Fr h₀ L s.heap m := by k_asm) (X : (MineH.hd.heap_39 w.params).In h₀ := by k_asm) (T : Top MineH.hd.view_39 (looseW MineH.hd.view_39 []) mean mg mb h₀ := by k_asm) (hk : cs.kind = .function := by first | exact rfl | assumption) (N : News h₀ L s.heap news := by walk_at "my news")
    (hn0 : 0 ≤ n := by assumption) (hn1 : n < 4611686018427387904 := by assumption) (he : leastI n = v := by assumption)
    (hd : dp + 2 < recursionLimit := by ktr_room) (hu : un + 16 < cLine := by ktr_units)
    (hret : ∀ (t : Tok) (h' : Heap) (tk' : Nat), Fr h₀ L h' m → News h₀ L h' news → Q (.int v t) { s with heap := h', toks := tk' }) :
    wpAny (model PySem.Challenge.rw_pb0522_01.row.prog w) (ktrTop dp un gd cn cs L a ccd cl outer) (call (.ref 83) [.int n tk]) Q E s := by
  subst he
  exact size_spec B F X T hk N hn0 hn1 hd hu hret
end
local macro_rules | `(tactic| walk_at "call ref") => `(tactic| (k_here; (show wpAny _ _ (call (Value.ref 83) _) _ _ _); k_dflt (refine' size_spec' (hret := ?_)); walk_at "my end"))
section
open PySem PySem.W PyProof.Rows PySem.Spec PySem.Calls
set_option maxRecDepth 100000
set_option maxHeartbeats 40000000
set_option linter.unusedVariables false
theorem allLt_in {d : Addr} : ∀ {l : List (Addr × Obj)}, AllLt d l → ∀ p ∈ l, p.1 < d
  | [], _, _, hp => nomatch hp
  | q :: r, x, p, hp => by
    rcases List.mem_cons.mp hp with rfl | hp
    · exact x.1
    · exact allLt_in x.2 p hp
end
local macro_rules | `(tactic| walk_at "CompEnd") => `(tactic| (k_here; (with_reducible rename Fr _ _ _ _ => kF); (with_reducible rename News _ _ _ _ => kN); k_dflt (refine' LCg.CompEnd.intro kF kN _ (fun p hp => hp) (by first | assumption | (simp only [LCg.Off3, and_true]; assumption) | (simp only [LCg.Off3, and_true]; and_intros <;> assumption)) (by k_mem) ?_); (try dsimp only)))
section
open PySem PySem.W PyProof.Rows PySem.Spec PySem.Calls
set_option maxRecDepth 100000
set_option maxHeartbeats 40000000
set_option linter.unusedVariables false
theorem menuC (i : Nat) : 0 ≤ ([0, 100, 126, 127, 128, 40000] : List Int).getD i 0 ∧ ([0, 100, 126, 127, 128, 40000] : List Int).getD i 0 ≤ 40000 := by
  rcases (show i = 0 ∨ i = 1 ∨ i = 2 ∨ i = 3 ∨ i = 4 ∨ i = 5 ∨ 6 ≤ i by omega) with h | h | h | h | h | h | h
  all_goals (first | (rw [h]; decide) | (rw [List.getD_eq_getElem?_getD, List.getElem?_eq_none (by simpa using h)]; decide))
theorem news_sub7 {h₀ h : Heap} {L : Addr} {a b c d e f g i : Addr × Obj} {r : List (Addr × Obj)} (N : News h₀ L h (a :: b :: c :: d :: e :: f :: g :: i :: r)) : News h₀ L h (a :: b :: d :: e :: r) := fun p hp => N p (by
  simp only [List.mem_cons] at hp ⊢
  rcases hp with h | h | h | h | h <;> simp [h])
theorem menuT (i : Nat) : 0 ≤ ([0, 1, 63, 64] : List Int).getD i 0 ∧ ([0, 1, 63, 64] : List Int).getD i 0 ≤ 64 := by
  rcases (show i = 0 ∨ i = 1 ∨ i = 2 ∨ i = 3 ∨ 4 ≤ i by omega) with h | h | h | h | h
  all_goals (first | (rw [h]; decide) | (rw [List.getD_eq_getElem?_getD, List.getElem?_eq_none (by simpa using h)]; decide))
theorem news_sub6 {h₀ h : Heap} {L : Addr} {a b c d e f : Addr × Obj} {r : List (Addr × Obj)} (N : News h₀ L h (a :: b :: c :: d :: e :: f :: r)) : News h₀ L h (a :: b :: c :: d :: r) := fun p hp => N p (by
  simp only [List.mem_cons] at hp ⊢
  rcases hp with h | h | h | h | h <;> simp [h])
theorem sub5 {a b c d e : Addr × Obj} {r : List (Addr × Obj)} : ∀ p ∈ a :: b :: c :: e :: r, p ∈ a :: b :: c :: d :: e :: r := by
  simp only [List.mem_cons]
  rintro p (h | h | h | h | h) <;> simp [h]
theorem news5 {h₀ h : Heap} {L : Addr} {a b c d e : Addr × Obj} {r : List (Addr × Obj)} (N : News h₀ L h (a :: b :: c :: d :: e :: r)) : News h₀ L h (a :: b :: c :: e :: r) := fun p hp => N p (sub5 p hp)
theorem name_led {h₀ h : Heap} {L : Addr} {nw : List (Addr × Obj)} (N : News h₀ L h nw) : ∃ led, nw = led ∧ News h₀ L h led := ⟨_, rfl, N⟩
theorem four_ints {a b c d : Tok} : IntsAre [.int 1 a, .int 2 b, .int 4 c, .int 8 d] [1, 2, 4, 8] := .cons _ _ (.cons _ _ (.cons _ _ (.cons _ _ .nil)))
theorem sizes_of {v : Int} (h : v = 1 ∨ v = 2 ∨ v = 4 ∨ v = 8) : 1 ≤ (([1, 2, 4, 8] : List Int).filter fun e => decide (v ≤ e)).length ∧ (([1, 2, 4, 8] : List Int).filter fun e => decide (v ≤ e)).length ≤ 4 ∧
    ∀ z ∈ (([1, 2, 4, 8] : List Int).filter fun e => decide (v ≤ e)), v ≤ z ∧ (z = 1 ∨ z = 2 ∨ z = 4 ∨ z = 8) := by
  rcases h with rfl | rfl | rfl | rfl <;> decide
theorem getD_in {Z : List Int} (r : Int) (h : 1 ≤ Z.length) : Z.getD (Int.fmod r Z.length).toNat 0 ∈ Z := by
  have h0 := Int.fmod_nonneg_of_pos r (show (0 : Int) < Z.length by omega)
  have h1 := Int.fmod_lt_of_pos r (show (0 : Int) < Z.length by omega)
  have hl : (Int.fmod r Z.length).toNat < Z.length := by omega
  rw [List.getD_eq_getElem?_getD, List.getElem?_eq_getElem hl]
  exact List.getElem_mem hl
theorem news_out7 {h₀ h : Heap} {L : Addr} {a b c d e f g : Addr × Obj} {r : List (Addr × Obj)} (N : News h₀ L h (a :: b :: c :: d :: e :: f :: g :: r)) : News h₀ L h (a :: d :: b :: c :: r) := fun p hp => N p (by
  simp only [List.mem_cons] at hp ⊢
  rcases hp with h | h | h | h | h <;> simp [h])
theorem item_any {prog : Program} {w : World} {A : Around} {E : Value → Shared → Prop} {s : Shared} {value slice : PySem.Expr} {l : Addr} {vs : List Value} {k : Int} {u : Tok} {Q : Value → Shared → Prop} (hl : s.heap.IsList l vs.toArray) (h0 : 0 ≤ k) (h1 : k < vs.length) (hf : k < 2 ^ 63) (h : ∀ v, v ∈ vs → Q v s)
    (hs : subscripted slice false (.ref l) (.int k u) = operate [.ref l, .int k u] (getItem (.ref l) (.int k u))) :
    wpAny (model prog w) A (subscriptTail value slice (.ref l) (.int k u)) Q E s := by
  have hx : k.toNat < vs.length := by omega
  exact tail_any hl.typeIs slot_list_getitem.lookup (wpAny_getItem_list hl h0 hf (x := vs[k.toNat]) (by simp [List.getElem?_eq_getElem hx]) (h _ (List.getElem_mem hx))) hs
theorem acked_menu {t u : Tok} : ∀ v ∈ [Value.none, .int 5 t, .int 70000 u], v = .none ∨ ∃ (t : Tok) (a : Int), v = .int a t ∧ 0 ≤ a ∧ a ≤ 70000 := by
  intro v hv
  simp only [List.mem_cons, List.not_mem_nil, or_false] at hv
  rcases hv with rfl | rfl | rfl
  · exact .inl rfl
  · exact .inr ⟨_, _, rfl, by decide, by decide⟩
  · exact .inr ⟨_, _, rfl, by decide, by decide⟩
theorem name_frn {h₀ h : Heap} {L : Addr} {m : Str → Option Value} {nw : List (Addr × Obj)} (F : Fr h₀ L h m) (N : News h₀ L h nw) : ∃ M NW, m = M ∧ nw = NW ∧ Fr h₀ L h M ∧ News h₀ L h NW := ⟨_, _, rfl, rfl, F, N⟩
theorem part_spec {w : World} {mean : ExcName → Option Value} {mg mb : Str → Option Value} {dp un : Nat} {gd : Option (List Code)} {cn : Str} {cs : Scope} {a : Addr} {ccd : Value} {cl : List (Str × Addr)} {outer : List Env} {A₀ : Around} {base h₀ : Heap} {L : Addr} {m : Str → Option Value} {s : Shared} {Q E : Value → Shared → Prop}
    {bx l : Nat} {vs : List Value} {ns : List Int} {k : Int} {tk : Tok} {e1 e2 : Nat} {news : List (Addr × Obj)}
    (B : Below A₀ base outer h₀ := by k_asm) (F : Fr h₀ L s.heap m := by k_asm) (X : (MineH.hd.heap_39 w.params).In h₀ := by k_asm) (T : Top MineH.hd.view_39 (looseW MineH.hd.view_39 []) mean mg mb h₀ := by k_asm) (hk : cs.kind = .function := by first | exact rfl | assumption) (N : News h₀ L s.heap ((bx, listOf #[.ref l, .int k tk] e1) :: (l, listOf vs.toArray e2) :: news))
    (hI : IntsAre vs ns) (hl : ns.length ≤ 24) (hk0 : 0 ≤ k) (hk1 : k < 1000) (hbl : bx ≠ l) (hbl2 : l ≠ bx) (hn : ∀ p ∈ news, p.1 ≠ bx)
    (hd : dp + 10 < recursionLimit) (hu : un + 128 < cLine)
    (hret : ∀ (p : Part) (pr tl : Nat) (vv : Value) (t1 t2 t3 tk2 : Tok) (k' : Int) (h' : Heap) (tk' : Nat), p.OK → p.rv.Is vv → k ≤ k' → k' ≤ k + 3 → Fr h₀ L h' m →
      News h₀ L h' ((pr, ({ cls := .type "tuple", data := .seq #[.ref tl, .bytes p.data.toArray t3] } : Obj)) :: (tl, ({ cls := .type "tuple", data := .seq #[.str (kindS p.kind.1) t1, vv, .int p.kind.2 t2] } : Obj)) ::
        (bx, listOf #[.ref l, .int k' tk2] e1) :: (l, listOf vs.toArray e2) :: news) → (∀ q ∈ news, q.1 < tl) → (∀ q ∈ news, q.1 < pr) → bx < tl → l < tl → bx < pr → l < pr → Q (.ref pr) { s with heap := h', toks := tk' }) :
    wpC (model PySem.Challenge.rw_pb0522_01.row.prog w) (ktrTop dp un gd cn cs L a ccd cl outer) (call (.ref 198) [.ref bx]) Q E s := by
  refine wpC_call ?_
  k_dflt (refine' codeC_KC ?k1 ?k2 ?k3 ?k4 ?k5 ?kA ?kF ?kK ?k6 ?k7 ?k8 ?k9 ?kB ?kD ?_ ?c2 ?c3 ?c4; (case kA => exact rfl); (case kF => exact rfl); (case kK => assumption); (case k1 => k_asm); (case k2 => k_asm); (case k3 => k_asm); (case k4 => k_asm); (case k5 => k_asm); (case k6 => k_is); (case k7 => k_is); (case k8 => ktr_room); (case k9 => exact BindsTo.of_eq rfl); (case kB => exact rfl); (case kD => decide +kernel); (case c2 => exact rfl); (case c3 => exact rfl); (case c4 => exact rfl); k_whole; intro g' L' h' tk' cells' FG' F' N' Y' B' X' T' l1; (try k_lt l1); k_cells Y'; (try simp only [List.cons_append, List.nil_append] at N'); (try dsimp only); (try k_lift B'); (try k_fold))
  refine wpC_cutQ (fun QQ hQ => ?_)
  refine wpC_never ?_
  refine hide fun G hG => ?_
  obtain ⟨l1, l2, l3⟩ := l1
  refine hG ?_
  clear hG G
  have hnc : ∀ p ∈ news, p.1 ≠ L' + 1 := fun p hp => Nat.ne_of_lt (Nat.lt_succ_of_lt (allLt_in l3 p hp))
  refine wpC_execs_safe ?_
  k_steps
  (try dsimp only)
  refine wpC_execs_cons (wpC_If ?_)
  k_steps
  · refine wpC_execs_safe ?_
    k_steps
    (try dsimp only)
    have hnum : ∀ i : Nat, 0 ≤ ([0, 63, 64, 16383, 16384, 1073741824 - 1, 1073741824, 4611686018427387904 - 1] : List Int).getD i 0 ∧ ([0, 63, 64, 16383, 16384, 1073741824 - 1, 1073741824, 4611686018427387904 - 1] : List Int).getD i 0 < 4611686018427387904 := by
      intro i
      rcases (show i = 0 ∨ i = 1 ∨ i = 2 ∨ i = 3 ∨ i = 4 ∨ i = 5 ∨ i = 6 ∨ i = 7 ∨ 8 ≤ i by omega) with h | h | h | h | h | h | h | h | h
      all_goals (first | (rw [h]; decide) | (rw [List.getD_eq_getElem?_getD, List.getElem?_eq_none (by simpa using h)]; decide))
    (rename _ < (8 : Int) => q8)
    (rename Int => r8)
    have hn8 := hnum r8.toNat
    clear hnum
    generalize ([0, 63, 64, 16383, 16384, 1073741824 - 1, 1073741824, 4611686018427387904 - 1] : List Int).getD r8.toNat 0 = n at *
    refine hide fun G hG => ?_
    obtain ⟨hn80, hn81⟩ := hn8
    refine hG ?_
    clear hG G
    have hl4 : leastI n = 1 ∨ leastI n = 2 ∨ leastI n = 4 ∨ leastI n = 8 := by unfold leastI; (repeat' split) <;> omega
    refine wpC_execs_safe ?_
    (with_reducible rename Fr _ _ _ _ => kF)
    (with_unfolding_all refine Assign_ListComp_tup kF (by rfl) (by with_unfolding_all rfl) (by with_unfolding_all rfl) (by decide) (by rfl) (by decide) (by rfl) (by rfl) (by rfl) ?_)
    k_steps
    (with_reducible rename Fr _ _ _ _ => kF)
    (with_reducible rename News _ _ _ _ => kN)
    rename_i DT hT lT
    refine hide fun G hG => ?_
    obtain ⟨led, hled, kN2⟩ := name_led (news5 kN)
    refine hG ?_
    clear hG G
    refine ⟨_, _, led, _, _, rfl, rfl, kF, kN2, (by rw [← hled]; exact .head _), rfl, rfl, by (show 4 ≤ sizeLine; decide), ?_⟩
    rintro s₂ ⟨hh, rfl⟩
    refine compRestT_inv (fun i ys nw => nw = led ∧ IntsAre ys ((([1, 2, 4, 8] : List Int).take i).filter fun e => decide (leastI n ≤ e))) ⟨rfl, .nil⟩ ?_ ?_
    · rintro i v I oI C oC D3 m₂ ys nw h tk E' hi hv jj hC hx F N off ne
      refine hide fun G hG => ?_
      obtain ⟨qe0, hys⟩ := jj
      refine hG ?_
      clear hG G
      subst qe0
      obtain ⟨z, tz, rfl, hz⟩ := IntsAre.at four_ints i v (by simpa using hv)
      have htk : ([1, 2, 4, 8] : List Int).take (i + 1) = ([1, 2, 4, 8] : List Int).take i ++ [z] := by rw [List.take_add_one, hz]; rfl
      clear kN kN2 kF hv hi
      subst hled
      have hself : leastI n = leastI n := rfl
      refine wpAny_halt ?_
      k_steps
      refine haltO ?_
      by_cases hzc : leastI n ≤ z
      · rw [if_pos (decide_eq_true hzc)]
        refine wpAny_halt ?_
        k_steps
        refine haltO ?_
        (with_reducible rename Fr _ _ _ _ => kF5)
        (with_reducible rename News _ _ _ _ => kN5)
        refine LCg.CompEnd.intro kF5 kN5 _ (fun p hp => hp) off (by k_mem) ⟨rfl, ?_⟩
        rw [htk, List.filter_append, List.filter_cons_of_pos (by simpa using hzc), List.filter_nil]
        exact hys.append (.cons z tz .nil)
      · rw [if_neg (by simpa using hzc)]
        (with_reducible rename Fr _ _ _ _ => kF5)
        (with_reducible rename News _ _ _ _ => kN5)
        refine LCg.CompEnd.intro kF5 kN5 _ (fun p hp => hp) off (by k_mem) ⟨rfl, ?_⟩
        rw [htk, List.filter_append, List.filter_cons_of_neg (by simpa using hzc), List.filter_nil, List.append_nil]
        exact hys
    · rintro cvs nw ⟨rfl, hcv⟩
      subst hled
      refine hide fun G hG => ?_
      obtain ⟨hz1, hz4, hzs⟩ := sizes_of hl4
      refine hG ?_
      clear hG G
      rw [List.size_toArray] at hcv
      (try dsimp only [List.length_cons, List.length_nil] at hcv)
      rw [show ([1, 2, 4, 8] : List Int).take (0 + 1 + 1 + 1 + 1) = [1, 2, 4, 8] from rfl] at hcv
      generalize (([1, 2, 4, 8] : List Int).filter fun e => decide (leastI n ≤ e)) = ZS at *
      clear kF kN kN2
      k_steps
      (try dsimp only)
      have hcl := hcv.length
      refine wpC_execs_cons (wpC_Return (wpC_Pair ?_))
      k_steps
      (try dsimp only)
      refine wpC_Call ?_
      k_steps
      (try dsimp only)
      refine callWithC_K (K := (MineH.hd.heap_39 w.params)) (by k_is) ?_
      k_steps
      (rename Int => r9)
      have hX := hzs _ (getD_in r9 hz1)
      generalize ZS.getD (Int.fmod r9 ZS.length).toNat 0 = X at *
      refine hide fun G hG => ?_
      obtain ⟨hlX, hsX⟩ := hX
      refine hG ?_
      clear hG G
      refine' putv_spec ?k1 ?k2 ?k3 ?k4 ?k5 ?k6 ?h0 ?h1 ?hv ?kd ?ku ?_
      (case k1 => k_asm); (case k2 => k_asm); (case k3 => k_asm); (case k4 => k_asm); (case k5 => first | exact rfl | assumption); (case k6 => k_asm)
      (case h0 => assumption)
      (case h1 => assumption)
      (case kd => ktr_room)
      (case ku => ktr_units)
      (case hv => exact .inr ⟨_, rfl, hlX, hsX⟩)
      intro t5 h5 tk5 F5 N5
      k_steps
      refine hQ _ _ ?_
      (try dsimp only)
      k_steps
      (with_reducible rename Fr _ _ _ _ => kF)
      (with_reducible rename News _ _ _ _ => kN)
      refine' hret ⟨vOct X n, (0, 0), .num n⟩ _ _ _ _ _ _ _ _ _ _ (part_num hsX hn80 (size_pow hn81 hsX hlX)) ⟨_, rfl⟩ (by omega) (by omega) kF (news_out7 kN) (allLt_in (by simp only [*])) (allLt_in (by simp only [*])) (by simp only [*]) (by simp only [*]) (by simp only [*]) (by simp only [*])
  refine wpC_any (wpAny_execs_nil ?_)
  (try dsimp only)
  refine wpC_execs_cons (wpC_If ?_)
  k_steps
  · refine wpC_execs_safe ?_
    k_steps
    (with_reducible rename Fr g' _ _ _ => kF)
    (with_reducible rename News g' _ _ _ => kN)
    (with_unfolding_all refine item_any (isList_of kN (by k_mem)) (by assumption) (by assumption) (by omega) ?_ (by rfl))
    intro v hv
    have hvA := acked_menu v hv
    clear hv
    k_steps
    (try dsimp only)
    refine wpC_execs_safe ?_
    k_steps
    (try dsimp only)
    (rename Int => r9)
    have hX := menuC r9.toNat
    generalize ([0, 100, 126, 127, 128, 40000] : List Int).getD r9.toNat 0 = X at *
    refine hide fun G hG => ?_
    obtain ⟨hX0, hX1⟩ := hX
    refine hG ?_
    clear hG G
    (with_reducible rename Fr g' _ _ _ => kF)
    (with_reducible rename News g' _ _ _ => kN)
    refine hide fun G hG => ?_
    obtain ⟨M, NW, hM, hNW, kF2, kN2⟩ := name_frn kF kN
    refine hG ?_
    clear hG G
    refine wpC_execs_cons (wpC_Assign ?_)
    refine wpC_mono (Q := fun v s' => ∃ (data : List UInt8) (t : Tok) (h : Heap) (tk : Nat), v = .bytes data.toArray t ∧ s' = { s with heap := h, toks := tk } ∧ 1 ≤ data.length ∧ data.length ≤ 4 ∧ Fr g' L' h M ∧ News g' L' h NW) ?_ ?_ (fun _ _ y => y)
    · clear kF2 kN2
      refine wpC_Call ?_
      k_steps
      (try dsimp only)
      refine callWithC_K (K := (MineH.hd.heap_39 w.params)) (by k_is) ?_
      rcases hvA with rfl | ⟨tv, av, rfl, ha0, ha1⟩
      all_goals (
        k_steps
        refine' cut_spec ?k1 ?k2 ?k3 ?k4 ?k5 ?k6 ?hv ?h0 ?h1 ?h2 ?h3 ?kd ?ku ?_
        (case k1 => k_asm); (case k2 => k_asm); (case k3 => k_asm); (case k4 => k_asm); (case k5 => first | exact rfl | assumption); (case k6 => k_asm)
        (case hv => first | exact .inl ⟨rfl, rfl⟩ | exact .inr ⟨_, _, rfl, rfl⟩)
        (case h0 => omega)
        (case h1 => omega)
        (case h2 => omega)
        (case h3 => omega)
        (case kd => ktr_room)
        (case ku => ktr_units)
        intro data t5 h5 tk5 hd1 hd4 F5 N5
        exact ⟨data, t5, h5, tk5, rfl, rfl, hd1, hd4, hM ▸ F5, hNW ▸ N5⟩)
    rintro v2 s2 jj
    refine hide fun G hG => ?_
    obtain ⟨data, t5, h5, tk5, qe0, qe1, hd1, hd4, F5, N5⟩ := jj
    refine hG ?_
    clear hG G
    subst qe0
    subst qe1
    clear kF kN kF2 kN2
    subst hM hNW
    have hb : KBw.bInts data.toArray = data.map fun c => (c.toNat : Int) := KBw.ints_list data
    have hbl : (data.map fun c => (c.toNat : Int)).length = data.length := List.length_map _
    k_steps
    (try dsimp only)
    refine wpC_execs_safe ?_
    (rename Fr _ _ _ _ => lF')
    (with_unfolding_all refine' For_invVF lF' ?k1 ?k2 ?_; (case k1 => exact rfl); (case k2 => exact rfl))
    refine wpAny_halt ?_
    k_steps
    unfold Halt
    (with_reducible rename Fr _ _ _ _ => kF)
    (with_reducible rename News _ _ _ _ => kN)
    refine bytes_fold (Str.ofString "found") (fun i => beI (data.take i)) (by rfl) kF kN ⟨_, rfl⟩ (by decide) ?_ ?_
    · intro i c u t I it h tk hi off F₁ N₁
      clear kF kN
      have hlt : i < data.length := by
        false_or_by_contra
        rename_i hc
        rw [Array.getElem?_eq_none (by simpa using hc)] at hi
        cases hi
      have hst : data.take (i + 1) = data.take i ++ [c] := by
        rw [List.take_add_one]
        congr 1
        rw [List.getElem?_toArray] at hi
        rw [hi]; rfl
      k_steps
      (with_reducible rename Fr _ _ _ _ => kF)
      (with_reducible rename News _ _ _ _ => kN)
      refine' UnrEnd.intro kF kN _ (fun p hp => hp) off ⟨⟨some (.int (c.toNat : Int) u), _, ?ff⟩, rfl⟩
      case ff =>
        rw [hst, beI_append]
        exact map_two (x := Str.ofString "octet") (z := Str.ofString "found") (by decide)
    · intro u t h tk F₁ N₁
      clear kF kN
      have hta : beI (data.take data.toArray.size) = beI data := by rw [List.size_toArray, List.take_of_length_le (Nat.le_refl _)]
      rw [hta] at F₁
      (try dsimp only)
      refine wpC_execs_safe ?_
      k_steps
      refine hQ _ _ ?_
      (try dsimp only)
      k_steps
      (with_reducible rename Fr _ _ _ _ => kF)
      (with_reducible rename News _ _ _ _ => kN)
      refine' hret ⟨data, (1, (data.length : Int)), .num (beI data)⟩ _ _ _ _ _ _ _ _ _ _ (part_cut hd1 hd4) ⟨_, rfl⟩ (by omega) (by omega) kF (news_sub7 kN) (allLt_in (by simp only [*])) (allLt_in (by simp only [*])) (by simp only [*]) (by simp only [*]) (by simp only [*]) (by simp only [*])
  · refine wpC_any (wpAny_execs_nil ?_)
    (try dsimp only)
    refine wpC_execs_safe ?_
    k_steps
    (rename Int => r8)
    have hX := menuT r8.toNat
    generalize ([0, 1, 63, 64] : List Int).getD r8.toNat 0 = X at *
    refine hide fun G hG => ?_
    obtain ⟨hX0, hX1⟩ := hX
    refine hG ?_
    clear hG G
    k_steps
    (try dsimp only)
    have hlen : ((List.replicate X.toNat [(116 : UInt8)]).flatten).length ≤ 64 := by simp; omega
    generalize (List.replicate X.toNat [(116 : UInt8)]).flatten = tx at *
    have hb : KBw.bInts tx.toArray = tx.map fun c => (c.toNat : Int) := KBw.ints_list tx
    have hbl : (tx.map fun c => (c.toNat : Int)).length = tx.length := List.length_map _
    refine wpC_execs_cons (wpC_Return (wpC_Pair ?_))
    k_steps
    (try dsimp only)
    refine wpC_BinOp (wpC_Call ?_)
    k_steps
    (try dsimp only)
    refine callWithC_K (K := (MineH.hd.heap_39 w.params)) (by k_is) ?_
    k_steps
    refine' putv_spec ?k1 ?k2 ?k3 ?k4 ?k5 ?k6 ?h0 ?h1 ?hv ?kd ?ku ?_
    (case k1 => k_asm); (case k2 => k_asm); (case k3 => k_asm); (case k4 => k_asm); (case k5 => first | exact rfl | assumption); (case k6 => k_asm)
    (case h0 => omega)
    (case h1 => omega)
    (case kd => ktr_room)
    (case ku => ktr_units)
    (case hv => exact .inl ⟨rfl, rfl⟩)
    intro t5 h5 tk5 F5 N5
    (try dsimp only)
    have hl4 : leastI tx.length = 1 ∨ leastI tx.length = 2 ∨ leastI tx.length = 4 ∨ leastI tx.length = 8 := by unfold leastI; (repeat' split) <;> omega
    refine wpC_any ?_
    k_steps
    refine bytes_add_K (by simp only [List.size_toArray, beL_length]; omega) rfl ?_
    intro t6 k6
    k_steps
    refine hQ _ _ ?_
    (try dsimp only)
    k_steps
    (with_reducible rename Fr _ _ _ _ => kF)
    (with_reducible rename News _ _ _ _ => kN)
    refine' hret ⟨vOct (leastI tx.length) tx.length ++ tx, (2, 0), .txt tx⟩ _ _ _ _ _ _ _ _ _ _ (part_txt hl4 (size_pow (by omega) hl4 (Int.le_refl _)) (by omega)) ⟨_, rfl⟩ (by omega) (by omega) kF (news_sub6 kN) (allLt_in (by simp only [*])) (allLt_in (by simp only [*])) (by simp only [*]) (by simp only [*]) (by simp only [*]) (by simp only [*])
end
section
open PySem PySem.W PyProof.Rows PySem.Spec PySem.Calls
set_option maxRecDepth 100000
set_option maxHeartbeats 40000000
set_option linter.unusedVariables false
theorem fresh_C13 : True := by
  w_top off
  trivial
open PySem PySem.W PyProof.Rows PySem.Spec PySem.Calls
set_option maxRecDepth 100000
set_option maxHeartbeats 40000000
set_option linter.unusedVariables false
theorem fill_dummyC13 : (∃ K : Params → Frag, K = MineH.hd.heap_39) ∧ PySem.Challenge.rw_pb0522_01 = PySem.Challenge.rw_pb0522_01 := by
  k_fill
  exact ⟨⟨_, rfl⟩, rfl⟩
end
local macro_rules | `(tactic| walk_at "call ref") => `(tactic| (k_here; (show wpAny _ _ (call (Value.ref 118) _) _ _ _); k_dflt (refine' restore_spec (hret := ?_)); walk_at "my end"))
section
open PySem PySem.W PyProof.Rows PySem.Spec PySem.Calls
set_option maxRecDepth 100000
set_option maxHeartbeats 40000000
set_option linter.unusedVariables false
end
local macro_rules | `(tactic| walk_at "eval ListComp") => `(tactic| (k_here; (with_reducible show wpAny _ _ (eval (Expr.ListComp _ [Comprehension.mk (Expr.Tuple _ _ _) _ [_] 0] _ _) _) _ _ _); k_dflt (refine ListComp_EN (F₀ := by k_asm) (by with_unfolding_all rfl) (by decide) (by rfl) (by decide) (by rfl) (by rfl) (by decide) ?_)))
section
open PySem PySem.W PyProof.Rows PySem.Spec PySem.Calls
set_option maxRecDepth 100000
set_option maxHeartbeats 40000000
set_option linter.unusedVariables false
end
local macro_rules | `(tactic| walk_at "call type:enumerate") => `(tactic| (k_here; k_dflt (refine' enum_src (by exact rfl) (by k_asm) (by k_asm) (by exact .head _) ?_ ?_)))
section
open PySem PySem.W PyProof.Rows PySem.Spec PySem.Calls
set_option maxRecDepth 100000
set_option maxHeartbeats 40000000
set_option linter.unusedVariables false
theorem small_low {a : Int} (h0 : 0 ≤ a) (h1 : a ≤ 4611686018427387904) : Builtin.Range.small a (a + 256) 1 = true := by
  unfold Builtin.Range.small
  rw [rangeSize_one]
  simp only [Builtin.Range.rangeFitsLong, Bool.and_eq_true, Bool.or_eq_true, decide_eq_true_eq, beq_iff_eq, show (1 : Int) > 0 by decide, if_true]
  split <;> omega
end
local macro_rules | `(tactic| walk_at "compareOp NotEq ref ref") => `(tactic| (k_here; k_dflt (refine' ne_intsK (vs := []) (us := []) (by exact isList_of (by k_asm) (.tail _ (.head _))) .nil (by exact isList_of (by k_asm) (.head _)) .nil (by ktr_units) ?_; k_whole)))
section
open PySem PySem.W PyProof.Rows PySem.Spec PySem.Calls
set_option maxRecDepth 100000
set_option maxHeartbeats 40000000
set_option linter.unusedVariables false
theorem window_spec {w : World} {mean : ExcName → Option Value} {mg mb : Str → Option Value} {dp un : Nat} {gd : Option (List Code)} {cn : Str} {cs : Scope} {a : Addr} {ccd : Value} {cl : List (Str × Addr)} {outer : List Env} {A₀ : Around} {base h₀ : Heap} {L : Addr} {m : Str → Option Value} {s : Shared} {Q E : Value → Shared → Prop}
    {coming : Int} {v : Value} {news : List (Addr × Obj)}
    (B : Below A₀ base outer h₀ := by k_asm) (F : Fr h₀ L s.heap m := by k_asm) (X : (MineH.hd.heap_39 w.params).In h₀ := by k_asm) (T : Top MineH.hd.view_39 (looseW MineH.hd.view_39 []) mean mg mb h₀ := by k_asm) (hk : cs.kind = .function := by first | exact rfl | assumption) (N : News h₀ L s.heap news := by walk_at "my news") (hv : SeenV v coming := by assumption) (hcm : coming ≤ 4611686018427387903 := by assumption)
    (hd : dp + 6 < recursionLimit := by ktr_room) (hu : un + 256 < cLine := by ktr_units)
    (hret : ∀ (h' : Heap) (tk' : Nat), Fr h₀ L h' m → News h₀ L h' news → Q (.bool true) { s with heap := h', toks := tk' }) :
    wpAny (model PySem.Challenge.rw_pb0522_01.row.prog w) (ktrTop dp un gd cn cs L a ccd cl outer) (call (.ref 186) [v]) Q E s := by
  have hc0 : 0 ≤ coming := by rcases hv with ⟨_, h⟩ | ⟨n, t, _, h, h1, _⟩ <;> omega
  refine wpAny_call ?_
  k_dflt (refine' code_defC ?k1 ?k2 ?k3 ?k4 ?k5 ?kA ?kF ?kK ?k6 ?k7 ?k8 ?k9 ?kB ?kD ?_ ?c2 ?c3 ?c4; (case kA => exact rfl); (case kF => exact rfl); (case kK => assumption); (case k1 => k_asm); (case k2 => k_asm); (case k3 => k_asm); (case k4 => k_asm); (case k5 => k_asm); (case k6 => k_is); (case k7 => k_is); (case k8 => ktr_room); (case k9 => exact BindsTo.of_eq rfl); (case kB => exact rfl); (case kD => decide +kernel); (case c2 => exact rfl); (case c3 => exact rfl); (case c4 => exact rfl); k_whole; intro g' L' h' tk' cells' FG' F' N' Y' B' X' T' l1; (try k_lt l1); k_cells Y'; (try simp only [List.cons_append, List.nil_append] at N'); (try dsimp only); (try k_lift B'); (try k_fold))
  refine wpAny_never ?_
  refine wpAny_execs_cons ?_
  refine wpAny_halt ?_
  k_steps
  unfold Halt
  (try dsimp only)
  (with_reducible rename Fr _ _ _ _ => kF)
  (with_reducible rename News _ _ _ _ => kN)
  (with_reducible rename IntsAre _ _ => hT)
  have eT : (fun k' => restoreI k' (1 * 2 ^ (8 * 1 : Int).toNat) coming) = fun k => restoreI k 256 coming := rfl
  rw [eT] at hT
  replace hT : IntsAre ys (toldI coming) := hT
  clear eT
  (with_reducible rename ys.length = _ => hL8)
  clear hL8
  refine join_int kF kN (Str.ofString "coming") coming ?_ ?_
  · have hv' := hv
    rcases hv' with ⟨rfl, rfl⟩ | ⟨n, t, rfl, rfl, hn0, hn1⟩
    all_goals (
      k_steps
      unfold Halt
      (with_reducible rename Fr _ _ _ _ => kF1)
      (with_reducible rename News _ _ _ _ => kN1)
      exact ⟨rfl, _, _, _, rfl, kF1, kN1⟩)
  clear kF kN
  intro h2 tk2 t2 kF kN
  (try dsimp only)
  refine join_int kF kN (Str.ofString "low") (lowI coming) ?_ ?_
  · k_steps
    all_goals (
      unfold Halt
      (with_reducible rename Fr _ _ _ _ => kF1)
      (with_reducible rename News _ _ _ _ => kN1)
      refine' ⟨by first | rfl | trivial, _, _, _, rfl, ?k9, kN1⟩
      case k9 =>
        first
          | (rw [lowI_1 (by omega)]; exact kF1)
          | (rw [lowI_2 (by omega)]; exact kF1))
  clear kF kN
  intro h3 tk3 t3 kF kN
  (try dsimp only)
  have hc1 : coming ≤ 4611686018427387903 := hcm
  have htl := toldI_length coming
  have hyl : ys.length = 256 := hT.length.trans htl
  refine wpAny_execs_cons ?_
  refine wpAny_halt ?_
  k_steps
  · intro i v t C oC nw m₂ h tk E' hv hC hx hx2 F N
    obtain ⟨z, tz, rfl, hz⟩ := IntsAre.at hT i v (by simpa using hv)
    have hi : i < 256 := by rw [← htl]; exact (List.getElem?_eq_some_iff.mp hz).1
    have hm := toldI_mod hc0 hc1 hi
    rw [List.getD_eq_getElem?_getD, hz] at hm
    replace hm : Int.fmod z 256 = (i : Int) := hm
    clear hv hT kF kN
    refine wpAny_halt ?_
    k_steps
    unfold Halt
    rw [hm]
    exact ⟨bne_self_eq_false _, _, rfl⟩
  · unfold Halt
    (try dsimp only)
    have hTT := toldI_turned hc0 hc1
    have hTr := turnI_lt coming
    have hlb := lowI_bnd hc0
    refine wpAny_execs_cons ?_
    iterate 8 walk1
    refine' sorted_rot (r := turnI coming) (ns := toldI coming) (vs := ys) ?k1 ?k2 ?k3 ?k4 ?k5 ?k6 ?k7 ?_
    (case k4 => assumption)
    (case k1 => k_asm)
    (case k2 => k_asm)
    (case k3 => exact isList_of (by assumption) (.tail _ (.tail _ (.head _))))
    (case k7 => assumption)
    (case k5 => assumption)
    (case k6 => assumption)
    intro D8 h8 vs8 e8 F8 N8 l8 i8
    rw [toldI_sorted hc0 hc1] at i8
    have hsm := small_low hlb.1 (by omega)
    have hrs : Builtin.Range.rangeSize (lowI coming) (lowI coming + 256) 1 = ((256 : Nat) : Int) := by rw [rangeSize_one, if_pos (by omega)]; omega
    k_steps
    (rename IsRange _ _ _ _ _ _ _ _ => hR)
    (with_reducible rename Fr _ _ _ _ => kF)
    (with_reducible rename News _ _ _ _ => kN)
    refine kll_range (by rfl) kF kN hR hsm hrs (by decide) ?_
    intro D9 us9 c9 h9 tk9 F9 N9 l9 i9
    k_steps
    (with_reducible rename Fr _ _ _ _ => kF)
    (with_reducible rename News _ _ _ _ => kN)
    (try simp only [decide_true, ite_true])
    exact hret _ _ kF (fun p hp => kN p (.tail _ (.tail _ (.tail _ (.tail _ (.tail _ (.tail _ hp)))))))
end
section
open PySem PySem.W PyProof.Rows PySem.Spec PySem.Calls
set_option maxRecDepth 100000
set_option maxHeartbeats 40000000
set_option linter.unusedVariables false
theorem fresh_C14 : True := by
  w_top off
  trivial
open PySem PySem.W PyProof.Rows PySem.Spec PySem.Calls
set_option maxRecDepth 100000
set_option maxHeartbeats 40000000
set_option linter.unusedVariables false
theorem fill_dummyC14 : (∃ K : Params → Frag, K = MineH.hd.heap_39) ∧ PySem.Challenge.rw_pb0522_01 = PySem.Challenge.rw_pb0522_01 := by
  k_fill
  exact ⟨⟨_, rfl⟩, rfl⟩
theorem mem_back3 {x0 x1 x2 b c : Addr × Obj} {r : List (Addr × Obj)} : ∀ p ∈ x0 :: x1 :: x2 :: b :: c :: r, p ∈ b :: c :: x0 :: x1 :: x2 :: r := by
  simp only [List.mem_cons]
  rintro p (h | h | h | h | h | h) <;> simp [h]
end
local macro_rules | `(tactic| walk_at "CompSrc") => `(tactic| (k_here; k_dflt (refine' compSrcH (by exact rfl) (by k_asm) (by k_asm) ‹_› (by exact small_one (by omega) (by omega) (by omega) (by omega)) (by exact rangeSize_nat _ _) (by (rw [sizeLine_eq]; omega)) ?_)))
section
open PySem PySem.W PyProof.Rows PySem.Spec PySem.Calls
set_option maxRecDepth 100000
set_option maxHeartbeats 40000000
set_option linter.unusedVariables false
end
local macro_rules | `(tactic| walk_at "call ref") => `(tactic| (k_here; (show wpAny _ _ (call (Value.ref 170) _) _ _ _); k_dflt (refine' reader_spec (hret := haltI ?_)); k_whole))
section
open PySem PySem.W PyProof.Rows PySem.Spec PySem.Calls
set_option maxRecDepth 100000
set_option maxHeartbeats 40000000
set_option linter.unusedVariables false
theorem wpC_halt {α : Type} {M : Model} {A : Around} {t : Sem α} {Q : α → Shared → Prop} {E : Value → Shared → Prop} {s : Shared} (h : wpC M A t (fun a s' => Halt (Q a s')) E s) : wpC M A t Q E s := wpC_mono h (fun _ _ y => y) fun _ _ y => y
end
local macro_rules | `(tactic| walk_at "exec Try cons cons nil nil") => `(tactic| (k_here; (with_reducible refine wpAny_Try_except ?_)))
section
open PySem PySem.W PyProof.Rows PySem.Spec PySem.Calls
set_option maxRecDepth 100000
set_option maxHeartbeats 40000000
set_option linter.unusedVariables false
end
local macro_rules | `(tactic| walk_at "noteFrame ref") => `(tactic| (k_here; k_dflt (refine' caught_X (by exact rfl) ‹_› (by exact rfl) (by exact rfl) (by exact rfl) ‹_› ‹_› ‹_› ‹_› ‹_› ‹_› (by k_is) (by kts_exm) (by exact rfl) (by decide) (haltI ?_))))
section
open PySem PySem.W PyProof.Rows PySem.Spec PySem.Calls
set_option maxRecDepth 100000
set_option maxHeartbeats 40000000
set_option linter.unusedVariables false
theorem fr_eq {h₀ h : Heap} {L : Addr} {m m' : Str → Option Value} (F : Fr h₀ L h m) (e : m = m') : Fr h₀ L h m' := e ▸ F
theorem less_left {n : Nat} {a S : Int} (h0 : 0 ≤ a) (h1 : a + S ≤ n) (hs : 1 ≤ S) : n - (a + S).toNat < n - a.toNat := by omega
theorem shortest_spec {w : World} {mean : ExcName → Option Value} {mg mb : Str → Option Value} {dp un : Nat} {gd : Option (List Code)} {cn : Str} {cs : Scope} {a : Addr} {ccd : Value} {cl : List (Str × Addr)} {outer : List Env} {A₀ : Around} {base h₀ : Heap} {L : Addr} {m : Str → Option Value} {s : Shared} {Q E : Value → Shared → Prop}
    {bx l : Nat} {vs : List Value} {ns : List Int} {k : Int} {tk : Tok} {e1 e2 : Nat} {news : List (Addr × Obj)}
    (B : Below A₀ base outer h₀ := by k_asm) (F : Fr h₀ L s.heap m := by k_asm) (X : (MineH.hd.heap_39 w.params).In h₀ := by k_asm) (T : Top MineH.hd.view_39 (looseW MineH.hd.view_39 []) mean mg mb h₀ := by k_asm) (hk : cs.kind = .function := by first | exact rfl | assumption) (N : News h₀ L s.heap ((bx, listOf #[.ref l, .int k tk] e1) :: (l, listOf vs.toArray e2) :: news))
    (XB : (MineH.hd.heap_39 w.params).In base) (TB : Top MineH.hd.view_39 (looseW MineH.hd.view_39 []) mean mg mb base) (D : KtsDicts (outer.filterMap (·.frame)) h₀)
    (hI : IntsAre vs ns) (hl : ns.length ≤ 24) (hk0 : 0 ≤ k) (hk1 : k < 900) (hbl : bx ≠ l) (hbl2 : l ≠ bx) (hn : ∀ p ∈ news, p.1 ≠ bx)
    (hd : dp + 30 < recursionLimit) (hu : un + 2048 < cLine)
    (hret : ∀ (g' h' : Heap) (tk' : Nat) (TT : KtsTurn (outer.filterMap (·.frame)) h₀ g') (BT : Below A₀ base outer g') (FT : Fr g' L h' m) (XT : (MineH.hd.heap_39 w.params).In g') (TopT : Top MineH.hd.view_39 (looseW MineH.hd.view_39 []) mean mg mb g') (DT : KtsDicts (outer.filterMap (·.frame)) g'), Q (.bool true) { s with heap := h', toks := tk' }) :
    wpC (model PySem.Challenge.rw_pb0522_01.row.prog w) (ktrTop dp un gd cn cs L a ccd cl outer) (call (.ref 215) [.ref bx]) Q E s := by
  refine wpC_call ?_
  k_dflt (refine' codeC_KCS ?k1 ?k2 ?k3 ?k4 ?k5 ?kA ?XB ?TB ?D ?kF ?kK ?k6 ?k7 ?k8 ?k9 ?kB ?kD ?_ ?c2 ?c3 ?c4; (case kA => exact rfl); (case XB => assumption); (case TB => assumption); (case D => assumption); (case kF => exact rfl); (case kK => assumption); (case k1 => k_asm); (case k2 => k_asm); (case k3 => k_asm); (case k4 => k_asm); (case k5 => k_asm); (case k6 => k_is); (case k7 => k_is); (case k8 => ktr_room); (case k9 => exact BindsTo.of_eq rfl); (case kB => exact rfl); (case kD => decide +kernel); (case c2 => exact rfl); (case c3 => exact rfl); (case c4 => exact rfl); k_whole; intro g' L' h' tk' cells' FG' F' N' Y' B' X' T' D' l1; (try k_lt l1); k_cells Y'; (try simp only [List.cons_append, List.nil_append] at N'); (try dsimp only); (try k_lift B'); (try k_fold))
  refine hide fun G hG => ?_
  obtain ⟨l1, l2, l3⟩ := l1
  refine hG ?_
  clear hG G
  refine wpC_cut (fun QQ EE hQ hE => ?_)
  clear hE
  refine wpC_never ?_
  clear EE
  refine wpC_execs_safe ?_
  refine wpAny_halt ?_
  k_steps
  unfold Halt
  intro g
  (with_reducible rename Fr _ _ _ _ => kF)
  (with_reducible rename News _ _ _ _ => kN)
  (rename Obj => oc)
  (rename Int => r7)
  refine compRest_inv (fun i ys nw => ∃ k' u zs, k' = k + 1 + (i : Int) ∧ nw = (bx, listOf #[.ref l, .int k' u] e1) :: (l, listOf vs.toArray e2) :: (L' + 1, oc) :: news ∧ IntsAre ys zs ∧ zs.length = i ∧ ∀ z ∈ zs, 0 ≤ z ∧ z < 256) ⟨_, _, [], (by simp), rfl, .nil, rfl, by simp⟩ ?_ ?_
  · rintro i v I oI C oC D m₂ ys nw h tk E' hi hv jj hC hx F N off ne
    refine hide fun G hG => ?_
    obtain ⟨k', u, zs, hk', qe0, hz, hzl, hzb⟩ := jj
    refine hG ?_
    clear hG G
    subst qe0
    simp only [LCg.Off3] at off
    refine hide fun G hG => ?_
    obtain ⟨⟨o1, o2, o3⟩, ⟨o4, o5, o6⟩, ⟨o7, o8, o9⟩, o10⟩ := off
    refine hG ?_
    clear hG G
    have hnm : ∀ p ∈ news, p.1 ≠ I ∧ p.1 ≠ C ∧ p.1 ≠ D := LCg.Off3.mem o10
    refine wpAny_halt ?_
    k_steps
    unfold Halt
    (with_reducible rename Fr _ _ _ _ => kF1)
    (with_reducible rename News _ _ _ _ => kN1)
    (rename Int => r9)
    refine LCg.CompEnd.intro kF1 kN1 _ mem_back3 ⟨⟨o1, o2, o3⟩, ⟨o4, o5, o6⟩, ⟨o7, o8, o9⟩, o10⟩ trivial ⟨_, _, zs ++ [r9], ?_, rfl, hz.append (.cons r9 _ .nil), by simp [hzl], ?_⟩
    · rw [hk']; omega
    · intro z hz
      rcases List.mem_append.mp hz with hz | hz
      · exact hzb z hz
      · rw [List.mem_singleton.mp hz]
        exact ⟨by assumption, by assumption⟩
  · rintro ys nw jj
    refine hide fun G hG => ?_
    obtain ⟨k', u, zs, hk', qe0, hz, hzl, hzb⟩ := jj
    refine hG ?_
    clear hG G
    subst qe0
    clear kF kN
    k_steps
    (try dsimp only)
    have hbs := byteArr_size zs
    generalize byteArr zs = bb at *
    obtain ⟨d, rfl⟩ : ∃ d : List UInt8, bb = d.toArray := ⟨bb.toList, (Array.toArray_toList).symm⟩
    have hdl : d.length ≤ 6 := by
      rw [List.size_toArray] at hbs
      omega
    have hdl2 : d.length ≤ 1000 := by omega
    clear hz hzl hzb hbs
    refine wpC_execs_safe ?_
    k_steps
    unfold Halt
    intro x dx ta q1 q2 h6 tk6 F6 N6 hlt hdx
    have hx1 : x ≠ dx := Nat.ne_of_gt hdx
    have hx2 : dx ≠ x := Nat.ne_of_lt hdx
    k_steps
    (try dsimp only)
    refine wpC_execs_safe ?_
    k_steps
    (try dsimp only)
    refine wpC_execs_cons (wpC_While ?_)
    (with_reducible rename Fr _ _ _ _ => kF)
    (with_reducible rename News _ _ _ _ => kN)
    generalize (bindL _ _ _ : Str → Option Value) = M₀ at kF
    have N₀ : News g' L' _ [(x, instObj 170 dx), (dx, dictOf [{ hash := PyData.keyHash w.params (Str.ofString "data"), key := .str (Str.ofString "data") q1, val := .bytes (List.toArray (d)) _ }, { hash := PyData.keyHash w.params (Str.ofString "at"), key := .str (Str.ofString "at") q2, val := .int (0) ta }] 2)] := fun p hp => kN p (.tail _ (by
      rcases List.mem_cons.mp hp with rfl | hp
      · exact .head _
      · rw [List.mem_singleton.mp hp]; exact .tail _ (.head _)))
    (with_reducible rename Below _ _ _ _ => kB)
    (with_reducible rename Frag.In _ _ => kX)
    (with_reducible rename Top _ _ _ _ _ _ => kT)
    (with_reducible rename KtsDicts _ _ => kD)
    clear kN
    have hn0 : ∀ p ∈ ([] : List (Addr × Obj)), p.1 ≠ dx := fun _ hp => nomatch hp
    have hn00 : ∀ p ∈ ([] : List (Addr × Obj)), p.1 ≠ x := fun _ hp => nomatch hp
    obtain ⟨J, hJ⟩ : ∃ J : Shared → Prop, J = fun s' => Halt (∃ (g9 h9 : Heap) (tk9 : Nat) (u : Option Value) (a₁ : Int) (t1 t2 t0 : Tok) (g₁ : List UInt8) (b₁ : Bool), s' = { s with heap := h9, toks := tk9 } ∧ Again d g₁ a₁ b₁ ∧ KtsTurn (List.filterMap (fun x => x.frame) (envX cn cs L a ccd cl :: outer)) g' g9 ∧
          Below (ktrTop dp un gd cn cs L a ccd cl outer) base (envX cn cs L a ccd cl :: outer) g9 ∧ Fr g9 L' h9 (fun y => if y = Str.ofString "number" then u else if y = Str.ofString "begun" then some (.int a₁ t1) else if y = Str.ofString "reader" then some (.ref x) else if y = Str.ofString "again" then some (.bytes g₁.toArray t2) else if y = Str.ofString "is_least" then some (.bool b₁) else if y = Str.ofString "data" then some (.bytes d.toArray t0) else M₀ y) ∧ (MineH.hd.heap_39 w.params).In g9 ∧ Top MineH.hd.view_39 (looseW MineH.hd.view_39 []) mean mg mb g9 ∧ KtsDicts (List.filterMap (fun x => x.frame) (envX cn cs L a ccd cl :: outer)) g9) := ⟨_, rfl⟩
    obtain ⟨I, hI⟩ : ∃ I : Nat → Shared → Prop, I = (fun n s' => Halt (∃ (h9 : Heap) (tk9 : Nat) (u : Option Value) (a₁ : Int) (t1 t2 t0 td ta : Tok) (g₁ : List UInt8) (b₁ : Bool), s' = { s with heap := h9, toks := tk9 } ∧ n = d.length - a₁.toNat ∧ Again d g₁ a₁ b₁ ∧
          Fr g' L' h9 (fun y => if y = Str.ofString "number" then u else if y = Str.ofString "begun" then some (.int a₁ t1) else if y = Str.ofString "reader" then some (.ref x) else if y = Str.ofString "again" then some (.bytes g₁.toArray t2) else if y = Str.ofString "is_least" then some (.bool b₁) else if y = Str.ofString "data" then some (.bytes d.toArray t0) else M₀ y) ∧ News g' L' h9 [(x, instObj 170 dx), (dx, dictOf [{ hash := PyData.keyHash w.params (Str.ofString "data"), key := .str (Str.ofString "data") q1, val := .bytes (List.toArray (d)) td }, { hash := PyData.keyHash w.params (Str.ofString "at"), key := .str (Str.ofString "at") q2, val := .int (a₁) ta }] 2)])) := ⟨_, rfl⟩
    refine codeC_mono (R := fun r s' => match r with
      | .ok f => f = .next ∧ J s'
      | .error _ => False) ?_ ?_
    · refine' codeC_whileLoop I ?turn (d.length - (0 : Int).toNat) ?start
      case start =>
        rw [hI]
        refine' ⟨_, _, M₀ (Str.ofString "number"), 0, _, _, _, _, _, [], true, rfl, rfl, Again.start d, ?ff, N₀⟩
        case ff =>
          refine fr_eq kF ?_
          (funext y; (by_cases e0 : y = Str.ofString "number"); (subst e0; rfl); (by_cases e1 : y = Str.ofString "begun"); (subst e1; rfl); (by_cases e2 : y = Str.ofString "reader"); (subst e2; rfl); (by_cases e3 : y = Str.ofString "again"); (subst e3; rfl); (by_cases e4 : y = Str.ofString "is_least"); (subst e4; rfl); (by_cases e5 : y = Str.ofString "data"); (subst e5; rfl); (try simp only [if_neg e0, if_neg e1, if_neg e2, if_neg e3, if_neg e4, if_neg e5]))
      intro n s' hinv
      rw [hI] at hinv
      refine hide fun G hG => ?_
      obtain ⟨h9, tk9, u, a₁, t1, t2, t0, td, ta, g₁, b₁, qe0, qe1, hAg, F₁, N₁⟩ := hinv
      refine hG ?_
      clear hG G
      subst qe0
      subst qe1
      clear kF N₀
      refine hide fun G hG => ?_
      obtain ⟨ha0, ha1, hg1, hb1, hg2⟩ := id hAg
      refine hG ?_
      clear hG G
      k_steps
      · refine wpC_halt ?_
        refine wpC_execs_safe ?_
        k_steps
        (try dsimp only)
        refine wpC_execs_safe ?_
        k_steps
        · refine haltO ?_
          intro h8 g8 T8 F8 N8 K8 X8 P8 D8
          refine wpAny_noRaise ?_
          k_steps
          (try dsimp only)
          refine haltO ⟨rfl, ?_⟩
          rw [hJ]
          refine' ⟨g8, _, _, u, a₁, _, _, _, g₁, b₁, rfl, hAg, T8, K8, ?ff, X8, P8, D8⟩
          case ff =>
            refine fr_eq F8 ?_
            (funext y; (by_cases e0 : y = Str.ofString "number"); (subst e0; rfl); (by_cases e1 : y = Str.ofString "begun"); (subst e1; rfl); (by_cases e2 : y = Str.ofString "reader"); (subst e2; rfl); (by_cases e3 : y = Str.ofString "again"); (subst e3; rfl); (by_cases e4 : y = Str.ofString "is_least"); (subst e4; rfl); (by_cases e5 : y = Str.ofString "data"); (subst e5; rfl); (try simp only [if_neg e0, if_neg e1, if_neg e2, if_neg e3, if_neg e4, if_neg e5]))
        · (try dsimp only)
          refine wpC_execs_cons (wpC_AssignTS (wpC_PairR (wpC_BinOp ?_)))
          refine wpC_any ?_
          k_steps
          refine wpC_Call ?_
          k_steps
          (try dsimp only)
          refine callWithC_K (K := (MineH.hd.heap_39 w.params)) (by k_is) ?_
          k_steps
          (rename UInt8 => c9)
          have nb := numAt_bnd d a₁ c9
          have nlp := leastI_pos (numAt d a₁ c9)
          have hAg2 := hAg.turn (c := c9) (by assumption) (by assumption)
          have hgl : ((g₁ ++ vOct (leastI (numAt d a₁ c9)) (numAt d a₁ c9)).length : Int) = g₁.length + leastI (numAt d a₁ c9) := by rw [List.length_append, vOct_length]; omega
          have eN : beI (List.take (szOf c9).toNat (List.drop a₁.toNat d)) % 2 ^ (8 * szOf c9 - 2).toNat = numAt d a₁ c9 := rfl
          rw [eN]
          generalize numAt d a₁ c9 = nn at *
          clear eN
          refine' putv_spec ?k1 ?k2 ?k3 ?k4 ?k5 ?k6 ?h0 ?h1 ?hv ?kd ?ku ?_
          (case k1 => k_asm); (case k2 => k_asm); (case k3 => k_asm); (case k4 => k_asm); (case k5 => first | exact rfl | assumption); (case k6 => k_asm)
          (case h0 => exact nb.1)
          (case h1 => exact nb.2.1)
          (case kd => ktr_room)
          (case ku => ktr_units)
          (case hv => exact .inl ⟨rfl, rfl⟩)
          intro t5 h5 tk5 F5 N5
          (try dsimp only)
          have hless : d.length - (a₁ + szOf c9).toNat < d.length - a₁.toNat := less_left ha0 (by assumption) (Int.le_trans nlp.1 nb.2.2)
          have hsz := szOf_cases c9
          refine bytes_add_K (d := g₁ ++ vOct (leastI nn) nn) (by simp only [List.size_toArray, beL_length]; omega) rfl ?_
          intro t6 k6
          generalize g₁ ++ vOct (leastI nn) nn = g₂ at *
          have hb2 : KBw.bInts g₂.toArray = g₂.map fun c => (c.toNat : Int) := KBw.ints_list g₂
          have hbl2 : (g₂.map fun c => (c.toNat : Int)).length = g₂.length := List.length_map _
          k_steps
          (try dsimp only)
          refine wpC_execs_safe ?_
          k_steps
          all_goals (
            (rename b₁ = _ => hbq)
            subst hbq
            (try dsimp only)
            refine wpC_any (wpAny_execs_nil ?_)
            (with_reducible rename Fr _ _ _ _ => kF1)
            (with_reducible rename News _ _ _ _ => kN1)
            refine haltO ⟨d.length - (a₁ + szOf c9).toNat, hless, ?_⟩
            rw [hI]
            refine' ⟨_, _, _, a₁ + szOf c9, _, _, _, _, _, g₂, _, rfl, rfl, hAg2, ?ff, fun p hp => kN1 p (.tail _ hp)⟩
            case ff =>
              refine fr_eq kF1 ?_
              (funext y; (by_cases e0 : y = Str.ofString "number"); (subst e0; rfl); (by_cases e1 : y = Str.ofString "begun"); (subst e1; rfl); (by_cases e2 : y = Str.ofString "reader"); (subst e2; rfl); (by_cases e3 : y = Str.ofString "again"); (subst e3; rfl); (by_cases e4 : y = Str.ofString "is_least"); (subst e4; rfl); (by_cases e5 : y = Str.ofString "data"); (subst e5; rfl); (try simp only [if_neg e0, if_neg e1, if_neg e2, if_neg e3, if_neg e4, if_neg e5])))
      · (with_reducible rename Fr _ _ _ _ => kF1)
        rw [hJ]
        exact ⟨g', _, _, u, a₁, _, _, _, g₁, b₁, rfl, hAg, KtsTurn.refl, kB, kF1, kX, kT, kD⟩
    · intro r s9 hr
      cases r with
      | error e => exact hr.elim
      | ok f =>
        obtain ⟨rfl, hr⟩ := hr
        rw [hJ] at hr
        clear hJ hI J I
        refine hide fun G hG => ?_
        obtain ⟨g9, h9, tk9, u, a₁, t1, t2, t0, g₁, b₁, qe0, hAg, T9, K9, F9, X9, P9, D9⟩ := hr
        refine hG ?_
        clear hG G
        subst qe0
        clear kF N₀ kB kX kT kD
        have N9 : News g9 L' h9 [] := fun _ hp => nomatch hp
        refine hide fun G hG => ?_
        obtain ⟨ha0, ha1, hg1, hb1, hg2⟩ := id hAg
        refine hG ?_
        clear hG G
        have hb : KBw.bInts d.toArray = d.map fun c => (c.toNat : Int) := KBw.ints_list d
        have hbl : (d.map fun c => (c.toNat : Int)).length = d.length := List.length_map _
        have hb2 : KBw.bInts g₁.toArray = g₁.map fun c => (c.toNat : Int) := KBw.ints_list g₁
        have hbl2 : (g₁.map fun c => (c.toNat : Int)).length = g₁.length := List.length_map _
        (try dsimp only)
        refine wpC_any ?_
        k_steps
        have ep : (KBy.picked d.toArray none (some a₁)).toList = d.take a₁.toNat := by
          rw [KBc.picked_eq]
          show ((d.drop 0).take (clipAt d.toArray.size a₁ - 0)) = _
          rw [clip_in ha0 (by simpa using ha1)]
          rfl
        have ef : ((g₁ == (KBy.picked d.toArray none (some a₁)).toList) == b₁) = true := by
          rw [ep]
          have e : (g₁ == d.take a₁.toNat) = decide (g₁ = d.take a₁.toNat) := by
            by_cases h : g₁ = d.take a₁.toNat
            · rw [decide_eq_true h, beq_iff_eq]; exact h
            · rw [decide_eq_false h, beq_eq_false_iff_ne]; exact h
          rw [e]
          exact hAg.fin
        rw [ef]
        refine hQ _ _ ?_
        (try dsimp only)
        k_steps
        exact hret _ _ _ (by assumption) (by assumption) (by assumption) (by assumption) (by assumption) (by assumption)
end
section
open PySem PySem.W PyProof.Rows PySem.Spec PySem.Calls
set_option maxRecDepth 100000
set_option maxHeartbeats 40000000
set_option linter.unusedVariables false
theorem fresh_C15 : True := by
  w_top off
  trivial
open PySem PySem.W PyProof.Rows PySem.Spec PySem.Calls
set_option maxRecDepth 100000
set_option maxHeartbeats 40000000
set_option linter.unusedVariables false
theorem fill_dummyC15 : (∃ K : Params → Frag, K = MineH.hd.heap_39) ∧ PySem.Challenge.rw_pb0522_01 = PySem.Challenge.rw_pb0522_01 := by
  k_fill
  exact ⟨⟨_, rfl⟩, rfl⟩
/-- a row as it lies in the heap -/
structure Row where
  p : Part
  pr : Nat
  tl : Nat
  vv : Value
  t1 : Tok
  t2 : Tok
  t3 : Tok
def Row.pair (r : Row) : Addr × Obj := (r.pr, ({ cls := .type "tuple", data := .seq #[.ref r.tl, .bytes r.p.data.toArray r.t3] } : Obj))
def Row.told (r : Row) : Addr × Obj := (r.tl, ({ cls := .type "tuple", data := .seq #[.str (kindS r.p.kind.1) r.t1, r.vv, .int r.p.kind.2 r.t2] } : Obj))
def Row.OK (r : Row) (tail : List (Addr × Obj)) : Prop := r.p.OK ∧ r.p.rv.Is r.vv ∧ r.pair ∈ tail ∧ r.told ∈ tail
def psOf (rows : List Row) : List Part := rows.map (·.p)
theorem two_cells {h₀ h : Heap} {L c1 c2 : Addr} {x y : Addr × Obj} {ob oc : Obj} {v : Value} {news : List (Addr × Obj)} (N : News h₀ L h (x :: y :: (c2, oc) :: (c1, ob) :: news)) (h1 : ob.data = .cell (some v)) (h2 : oc.data = .cell none) :
    ∃ ob oc : Obj, ob.data = .cell (some v) ∧ oc.data = .cell none ∧ News h₀ L h (x :: y :: (c2, oc) :: (c1, ob) :: news) := ⟨ob, oc, h1, h2, N⟩
theorem sub_part {I C D a b c d x y : Addr × Obj} {r : List (Addr × Obj)} : ∀ p ∈ I :: C :: D :: a :: b :: c :: d :: x :: y :: r, p ∈ x :: y :: a :: b :: I :: C :: D :: c :: d :: r := by
  simp only [List.mem_cons]
  rintro p (h | h | h | h | h | h | h | h | h | h) <;> simp [h]
end
local macro_rules | `(tactic| walk_at "eval ListComp") => `(tactic| (k_here; k_dflt (refine LCp.ListComp_P (F₀ := by k_asm) (by with_unfolding_all rfl) (by decide) (by rfl) (by decide) (by rfl) (by rfl) (by decide) ?_)))
section
open PySem PySem.W PyProof.Rows PySem.Spec PySem.Calls
set_option maxRecDepth 100000
set_option maxHeartbeats 40000000
set_option linter.unusedVariables false
end
local macro_rules | `(tactic| walk_at "SrcLP") => `(tactic| (k_here; k_dflt (refine' srcLPH (by exact rfl) (by k_asm) (by k_asm) (by k_mem) ‹_› ?_)))
section
open PySem PySem.W PyProof.Rows PySem.Spec PySem.Calls
set_option maxRecDepth 100000
set_option maxHeartbeats 40000000
set_option linter.unusedVariables false
theorem off1_mem {D : Addr} : ∀ {l : List (Addr × Obj)}, LCg.Off1 D l → ∀ p ∈ l, p.1 ≠ D
  | [], _, _, h => nomatch h
  | q :: r, x, p, h => by
    rcases List.mem_cons.mp h with rfl | h
    · exact x.1
    · exact off1_mem x.2 p h
theorem sub_k {I C D a b c d e x : Addr × Obj} {r : List (Addr × Obj)} : ∀ p ∈ I :: C :: D :: a :: b :: c :: d :: e :: x :: r, p ∈ x :: I :: C :: D :: a :: b :: c :: d :: e :: r := by
  simp only [List.mem_cons]
  rintro p (h | h | h | h | h | h | h | h | h | h) <;> simp [h]
end
local macro_rules | `(tactic| walk_at "binaryOp Add bytes bytes") => `(tactic| (k_here; (with_reducible refine bytes_add_K (by (simp only [List.size_toArray]); omega) rfl ?_); intro _ _))
section
open PySem PySem.W PyProof.Rows PySem.Spec PySem.Calls
set_option maxRecDepth 100000
set_option maxHeartbeats 40000000
set_option linter.unusedVariables false
theorem sub_due {t b1 l1 du en kl dd c2 c1 : Addr × Obj} {r : List (Addr × Obj)} : ∀ p ∈ kl :: du :: b1 :: l1 :: en :: c2 :: c1 :: r, p ∈ t :: b1 :: l1 :: du :: en :: kl :: dd :: c2 :: c1 :: r := by
  simp only [List.mem_cons]
  rintro p (h | h | h | h | h | h | h | h) <;> simp [h]
end
local macro_rules | `(tactic| walk_at "call ref") => `(tactic| (k_here; (show wpAny _ _ (call (Value.ref 205) _) _ _ _); k_dflt (refine' read_spec (hret := haltI ?_)); k_whole))
section
open PySem PySem.W PyProof.Rows PySem.Spec PySem.Calls
set_option maxRecDepth 100000
set_option maxHeartbeats 40000000
set_option linter.unusedVariables false
theorem sub_read {a x d k : Addr × Obj} {r : List (Addr × Obj)} : ∀ p ∈ x :: d :: a :: k :: r, p ∈ a :: x :: d :: k :: r := by
  simp only [List.mem_cons]
  rintro p (h | h | h | h | h) <;> simp [h]
end
local macro_rules | `(tactic| walk_at "compareOp NotEq ref ref") => `(tactic| (k_here; k_dflt (refine' ne_same (by exact isList_of (by k_asm) (by k_mem)) ‹_› (by exact isList_of (by k_asm) (by k_mem)) ‹_› (by ktr_units) ?_; k_whole)))
section
open PySem PySem.W PyProof.Rows PySem.Spec PySem.Calls
set_option maxRecDepth 100000
set_option maxHeartbeats 40000000
set_option linter.unusedVariables false
theorem picked_to (d : List UInt8) {hi : Int} (h0 : 0 ≤ hi) (h1 : hi ≤ d.length) : KBy.picked d.toArray none (some hi) = (d.take hi.toNat).toArray := by
  rw [KBc.picked_eq]
  show ((d.drop 0).take (clipAt d.toArray.size hi - 0)).toArray = _
  rw [clip_in h0 (by simpa using h1)]
  rfl
theorem sub_read2 {a b x d e k : Addr × Obj} {r : List (Addr × Obj)} : ∀ p ∈ a :: b :: k :: r, p ∈ a :: b :: x :: d :: e :: k :: r := by
  simp only [List.mem_cons]
  rintro p (h | h | h | h) <;> simp [h]
theorem sub_fin {d x y k : Addr × Obj} {r : List (Addr × Obj)} : ∀ p ∈ d :: r, p ∈ d :: x :: y :: k :: r := by
  simp only [List.mem_cons]
  rintro p (h | h) <;> simp [h]
end
local macro_rules | `(tactic| walk_at "eval ListComp") => `(tactic| (k_here; (with_reducible show wpAny _ _ (eval (Expr.ListComp _ [Comprehension.mk (Expr.Name _ _) _ [_] 0] _ _) _) _ _ _); k_dflt (refine LCt.ListComp_T (F₀ := by k_asm) (by with_unfolding_all rfl) (by decide) (by rfl) (by decide) (by rfl) ?_)))
section
open PySem PySem.W PyProof.Rows PySem.Spec PySem.Calls
set_option maxRecDepth 100000
set_option maxHeartbeats 40000000
set_option linter.unusedVariables false
end
local macro_rules | `(tactic| walk_at "CompSrcT") => `(tactic| (k_here; k_dflt (refine' compSrcTH (by exact rfl) (by k_asm) (by k_asm) (by k_mem) ‹_› ?_)))
section
open PySem PySem.W PyProof.Rows PySem.Spec PySem.Calls
set_option maxRecDepth 100000
set_option maxHeartbeats 40000000
set_option linter.unusedVariables false
theorem pick_to (its : Array Value) {y : Int} (h : 0 ≤ y) : (slicePick its none (some y) none).toList = its.toList.take y.toNat := by
  have e : sliceBounds none (some y) none its.size = (((0 : Nat) : Int), ((min y.toNat its.size : Nat) : Int), 1) := by
    simp only [sliceBounds, Option.getD_none, show (1 : Int) > 0 by decide, if_true, if_neg (show ¬ (y < 0) by omega)]
    congr 1
    congr 1
    obtain ⟨k, rfl⟩ := Int.eq_ofNat_of_zero_le h
    rw [Int.toNat_natCast]
    by_cases c : k ≤ its.size
    · rw [Nat.min_eq_left c, Int.min_eq_left (Int.ofNat_le.mpr c), Int.max_eq_right (Int.natCast_nonneg _)]
    · have c' := Nat.le_of_not_le c
      rw [Nat.min_eq_right c', Int.min_eq_right (Int.ofNat_le.mpr c'), Int.max_eq_right (Int.natCast_nonneg _)]
  rw [kmk_pick_nat _ e]
  show (its.toList.drop 0).take (min y.toNat its.size - 0) = _
  rw [List.drop_zero, Nat.sub_zero, ← Array.length_toList, kmk_take_min]
theorem AllIs.take {rs : List RV} {vs : List Value} (h : AllIs rs vs) (n : Nat) : AllIs (rs.take n) (vs.take n) := by
  induction h generalizing n with
  | nil => simp only [List.take_nil]; exact .nil
  | cons h t ih =>
    cases n with
    | zero => exact .nil
    | succ n => exact .cons h (ih n)
theorem sub_last {d4 cv d2 du b1 l1 en c2 c1 : Addr × Obj} {news r : List (Addr × Obj)} (hs : ∀ p ∈ news, p ∈ r) : ∀ p ∈ d2 :: d4 :: b1 :: l1 :: news, p ∈ d4 :: cv :: d2 :: du :: b1 :: l1 :: en :: c2 :: c1 :: r := by
  simp only [List.mem_cons]
  rintro p (h | h | h | h | h)
  · simp [h]
  · simp [h]
  · simp [h]
  · simp [h]
  · simp [hs p h]
end
local macro_rules | `(tactic| walk_at "compareOp Eq ref ref") => `(tactic| (k_here; k_dflt (refine' eq_same (by exact isList_of (by k_asm) (by k_mem)) ‹_› (by exact isList_of (by k_asm) (by k_mem)) ‹_› (by ktr_units) ?_; k_whole)))
section
open PySem PySem.W PyProof.Rows PySem.Spec PySem.Calls
set_option maxRecDepth 100000
set_option maxHeartbeats 40000000
set_option linter.unusedVariables false
theorem row_spec {w : World} {mean : ExcName → Option Value} {mg mb : Str → Option Value} {dp un : Nat} {gd : Option (List Code)} {cn : Str} {cs : Scope} {a : Addr} {ccd : Value} {cl : List (Str × Addr)} {outer : List Env} {A₀ : Around} {base h₀ : Heap} {L : Addr} {m : Str → Option Value} {s : Shared} {Q E : Value → Shared → Prop}
    {bx l : Nat} {vs : List Value} {ns : List Int} {k : Int} {tk : Tok} {e1 e2 : Nat} {news : List (Addr × Obj)}
    (B : Below A₀ base outer h₀ := by k_asm) (F : Fr h₀ L s.heap m := by k_asm) (X : (MineH.hd.heap_39 w.params).In h₀ := by k_asm) (T : Top MineH.hd.view_39 (looseW MineH.hd.view_39 []) mean mg mb h₀ := by k_asm) (hk : cs.kind = .function := by first | exact rfl | assumption) (N : News h₀ L s.heap ((bx, listOf #[.ref l, .int k tk] e1) :: (l, listOf vs.toArray e2) :: news))
    (XB : (MineH.hd.heap_39 w.params).In base) (TB : Top MineH.hd.view_39 (looseW MineH.hd.view_39 []) mean mg mb base) (D : KtsDicts (outer.filterMap (·.frame)) h₀)
    (hI : IntsAre vs ns) (hl : ns.length ≤ 24) (hk0 : 0 ≤ k) (hk1 : k < 900) (hbl : bx ≠ l) (hbl2 : l ≠ bx) (hn : ∀ p ∈ news, p.1 ≠ bx)
    (hd : dp + 60 < recursionLimit) (hu : un + 4096 < cLine)
    (hret : ∀ (tk2 : Tok) (k' : Int) (g' h' : Heap) (tk' : Nat) (TT : KtsTurn (outer.filterMap (·.frame)) h₀ g') (BT : Below A₀ base outer g') (FT : Fr g' L h' m) (XT : (MineH.hd.heap_39 w.params).In g') (TopT : Top MineH.hd.view_39 (looseW MineH.hd.view_39 []) mean mg mb g') (DT : KtsDicts (outer.filterMap (·.frame)) g'), k ≤ k' → k' ≤ k + 20 → News g' L h' ((bx, listOf #[.ref l, .int k' tk2] e1) :: (l, listOf vs.toArray e2) :: news) → Q (.bool true) { s with heap := h', toks := tk' }) :
    wpC (model PySem.Challenge.rw_pb0522_01.row.prog w) (ktrTop dp un gd cn cs L a ccd cl outer) (call (.ref 210) [.ref bx]) Q E s := by
  refine wpC_call ?_
  k_dflt (refine' codeC_KCS ?k1 ?k2 ?k3 ?k4 ?k5 ?kA ?XB ?TB ?D ?kF ?kK ?k6 ?k7 ?k8 ?k9 ?kB ?kD ?_ ?c2 ?c3 ?c4; (case kA => exact rfl); (case XB => assumption); (case TB => assumption); (case D => assumption); (case kF => exact rfl); (case kK => assumption); (case k1 => k_asm); (case k2 => k_asm); (case k3 => k_asm); (case k4 => k_asm); (case k5 => k_asm); (case k6 => k_is); (case k7 => k_is); (case k8 => ktr_room); (case k9 => exact BindsTo.of_eq rfl); (case kB => exact rfl); (case kD => decide +kernel); (case c2 => exact rfl); (case c3 => exact rfl); (case c4 => exact rfl); k_whole; intro g' L' h' tk' cells' FG' F' N' Y' B' X' T' D' l1; (try k_lt l1); k_cells Y'; (try simp only [List.cons_append, List.nil_append] at N'); (try dsimp only); (try k_lift B'); (try k_fold))
  refine hide fun G hG => ?_
  obtain ⟨l1, l2, l3⟩ := l1
  refine hG ?_
  clear hG G
  refine wpC_cutQ (fun QQ hQ => ?_)
  refine wpC_never ?_
  (with_reducible rename Below _ _ _ g' => kB0)
  (with_reducible rename Frag.In _ g' => kX0)
  (with_reducible rename Top _ _ _ _ _ g' => kT0)
  (with_reducible rename KtsDicts _ g' => kD0)
  refine wpC_execs_cons ?_
  (with_reducible rename Fr g' _ _ _ => kF)
  (with_unfolding_all refine Assign_ListComp_C kF (by rfl) (by with_unfolding_all rfl) (by with_unfolding_all rfl) (by decide) (by rfl) (by decide) (by rfl) (by rfl) (by rfl) ?_)
  k_steps
  (with_reducible rename IsRange _ _ _ _ _ _ _ _ => hR)
  (with_reducible rename Fr g' _ _ _ => kF1)
  (with_reducible rename News g' _ _ _ => kN1)
  refine hide fun G hG => ?_
  obtain ⟨ob, oc, hob, hoc, kN2⟩ := two_cells (v := .ref bx) kN1 (by assumption) (by assumption)
  refine hG ?_
  clear hG G
  (rename Int => rr)
  (rename rr < 6 => rr6)
  (rename 0 ≤ rr => rr0)
  have hnc : ∀ p ∈ news, p.1 ≠ L' + 1 + 1 := fun p hp => Nat.ne_of_lt (Nat.lt_succ_of_lt (Nat.lt_succ_of_lt (allLt_in l3 p hp)))
  refine ⟨_, 0, 1 + rr, _, _, _, (1 + rr - 0).toNat, _, fun i ys nw => ∃ (k' : Int) (u : Tok) (rows : List Row) (tail : List (Addr × Obj)), k + 1 ≤ k' ∧ k' ≤ k + 1 + 3 * (i : Int) ∧
      nw = (bx, listOf #[.ref l, .int k' u] e1) :: (l, listOf vs.toArray e2) :: (L' + 1 + 1, oc) :: (L' + 1, ob) :: tail ∧ (∀ p ∈ news, p ∈ tail) ∧ (∀ p ∈ tail, p.1 ≠ bx) ∧ (∀ p ∈ tail, p.1 ≠ L' + 1 + 1) ∧
      ys = rows.map (fun r => Value.ref r.pr) ∧ rows.length = i ∧ ∀ r ∈ rows, r.OK tail, rfl, rfl, kF1, kN2, hR, small_one (by omega) (by omega) (by omega) (by omega), rangeSize_nat _ _, by (rw [sizeLine_eq]; omega), ⟨k + 1, _, [], news, by omega, by omega, rfl, fun p hp => hp, hn, hnc, rfl, rfl, by simp⟩, ?_, ?_⟩
  · rintro i t I oI C oC D m₂ ys nw h tk E' hi jj hC hx F N off ne
    refine hide fun G hG => ?_
    obtain ⟨k', u, rows, tail, hk1', hk2', qe0, hsub, htb, htc, qe1, hrl, hrows⟩ := jj
    refine hG ?_
    clear hG G
    subst qe0
    subst qe1
    simp only [LCg.Off3] at off
    refine hide fun G hG => ?_
    obtain ⟨⟨o1, o2, o3⟩, ⟨o4, o5, o6⟩, ⟨o7, o8, o9⟩, ⟨p1, p2, p3⟩, o10⟩ := off
    refine hG ?_
    clear hG G
    have hnm : ∀ p ∈ tail, p.1 ≠ I ∧ p.1 ≠ C ∧ p.1 ≠ D := LCg.Off3.mem o10
    refine wpC_Call ?_
    k_steps
    (try dsimp only)
    refine callWithC_K (K := (MineH.hd.heap_39 w.params)) (by k_is) ?_
    k_steps
    have hib : (i : Int) ≤ 5 := by omega
    refine' part_spec ?k1 ?k2 ?k3 ?k4 ?k5 (news_pull3 N) hI hl ?a1 ?a2 hbl hbl2 ?a5 ?kd ?ku ?_
    (case k1 => k_asm)
    (case k2 => k_asm)
    (case k3 => k_asm)
    (case k4 => k_asm)
    (case k5 => exact rfl)
    (case a1 => omega)
    (case a2 => omega)
    (case a5 => exact all_ne1 (Ne.symm o1) (all_ne1 (Ne.symm o2) (all_ne1 (Ne.symm o3) (all_ne1 (by k_ne) (all_ne1 (by k_ne) htb)))))
    (case kd => ktr_room)
    (case ku => ktr_units)
    intro p pr tl vv t1 t2 t3 tk2 k9 h9 tk9 hOK hIs hk91 hk92 F9 N9 hlt1 hlt2 b1 b2 b3 b4
    (try dsimp only)
    have qI : I < tl ∧ I < pr := ⟨hlt1 _ (.head _), hlt2 _ (.head _)⟩
    have qC : C < tl ∧ C < pr := ⟨hlt1 _ (.tail _ (.head _)), hlt2 _ (.tail _ (.head _))⟩
    have qD : D < tl ∧ D < pr := ⟨hlt1 _ (.tail _ (.tail _ (.head _))), hlt2 _ (.tail _ (.tail _ (.head _)))⟩
    have qc : (L' + 1 + 1 < tl ∧ L' + 1 + 1 < pr) := ⟨hlt1 _ (.tail _ (.tail _ (.tail _ (.head _)))), hlt2 _ (.tail _ (.tail _ (.tail _ (.head _))))⟩
    refine LCg.CompEnd.intro F9 N9 ((bx, listOf #[.ref l, .int k9 tk2] e1) :: (l, listOf vs.toArray e2) :: (L' + 1 + 1, oc) :: (L' + 1, ob) :: (Row.mk p pr tl vv t1 t2 t3).pair :: (Row.mk p pr tl vv t1 t2 t3).told :: tail) sub_part
      ⟨⟨o1, o2, o3⟩, ⟨o4, o5, o6⟩, ⟨o7, o8, o9⟩, ⟨p1, p2, p3⟩, ⟨Nat.ne_of_gt qI.2, Nat.ne_of_gt qC.2, Nat.ne_of_gt qD.2⟩, ⟨Nat.ne_of_gt qI.1, Nat.ne_of_gt qC.1, Nat.ne_of_gt qD.1⟩, o10⟩ trivial
      ⟨k9, tk2, rows ++ [Row.mk p pr tl vv t1 t2 t3], _, by omega, by omega, rfl, fun q hq => .tail _ (.tail _ (hsub q hq)), all_ne1 (Nat.ne_of_gt b3) (all_ne1 (Nat.ne_of_gt b1) htb), all_ne1 (Nat.ne_of_gt qc.2) (all_ne1 (Nat.ne_of_gt qc.1) htc), by simp, by simp [hrl], ?_⟩
    intro r hr
    rcases List.mem_append.mp hr with hr | hr
    · obtain ⟨z1, z2, z3, z4⟩ := hrows r hr
      exact ⟨z1, z2, .tail _ (.tail _ z3), .tail _ (.tail _ z4)⟩
    · rw [List.mem_singleton.mp hr]
      exact ⟨hOK, hIs, .head _, .tail _ (.head _)⟩
  · rintro D h tk ys nw jj F N o1
    refine hide fun G hG => ?_
    obtain ⟨k', u, rows, tail, hk1', hk2', qe0, hsub, htb, htc, qe1, hrl, hrows⟩ := jj
    refine hG ?_
    clear hG G
    subst qe0
    subst qe1
    clear kF kF1 kN1 kN2
    (try dsimp only)
    have hr6 : rows.length ≤ 6 := by omega
    have hr1 : 1 ≤ rows.length := by omega
    obtain ⟨pvs, hpv⟩ : ∃ pvs, pvs = rows.map (fun r => Value.ref r.pr) := ⟨_, rfl⟩
    rw [← hpv] at N
    have hpl : pvs.length = rows.length := by rw [hpv, List.length_map]
    have hpsz : pvs.toArray.size ≤ sizeLine := by rw [sizeLine_eq, List.size_toArray]; omega
    have hpat : ∀ (i : Nat) v, pvs.toArray[i]? = some v → ∃ r, rows[i]? = some r ∧ v = .ref r.pr := by
      intro i v hv
      rw [hpv, List.getElem?_toArray, List.getElem?_map] at hv
      cases hr : rows[i]? with
      | none => rw [hr] at hv; cases hv
      | some r => rw [hr] at hv; cases hv; exact ⟨r, rfl, rfl⟩
    have hD1 : ∀ p ∈ tail, p.1 ≠ D := by
      obtain ⟨_, _, _, _, o2⟩ := o1
      intro p hp
      exact off1_mem o2 p hp
    refine hide fun G hG => ?_
    obtain ⟨ob1, ob2, ob3, ob4, _⟩ := o1
    refine hG ?_
    clear hG G
    refine wpC_execs_safe ?_
    k_steps
    refine haltO ?_
    intro g9
    refine compRestP_inv (fun i ys nw => ∃ tail', nw = (D, LCg.lst pvs) :: (bx, listOf #[.ref l, .int k' u] e1) :: (l, listOf vs.toArray e2) :: (L' + 1 + 1, oc) :: (L' + 1, ob) :: tail' ∧ (∀ p ∈ tail, p ∈ tail') ∧ (∀ p ∈ tail', p.1 ≠ bx) ∧ (∀ p ∈ tail', p.1 ≠ L' + 1 + 1) ∧ ys.length = i ∧
      ∀ (j : Nat) v, ys[j]? = some v → ∃ (q : Addr) (t1 t2 : Tok) (r : Row), rows[j]? = some r ∧ v = Value.ref q ∧ (q, ({ cls := .type "tuple", data := .seq #[.str (kindS r.p.kind.1) t1, .int r.p.kind.2 t2] } : Obj)) ∈ tail')
      ⟨tail, rfl, fun p hp => hp, htb, htc, rfl, by simp⟩ ?_ ?_
    · rintro i v ys nw hi hv jj
      refine hide fun G hG => ?_
      obtain ⟨tail', qe0, hsub', htb', htc', hyl, hys⟩ := jj
      refine hG ?_
      clear hG G
      subst qe0
      obtain ⟨r, hr, rfl⟩ := hpat i v hv
      have hrm : r ∈ rows := List.mem_of_getElem? hr
      refine hide fun G hG => ?_
      obtain ⟨z1, z2, z3, z4⟩ := hrows r hrm
      refine hG ?_
      clear hG G
      refine ⟨_, _, _, _, _, rfl, .tail _ (.tail _ (.tail _ (.tail _ (.tail _ (hsub' _ z3))))), rfl, rfl, ?_⟩
      intro I oI C oC D2 m₂ h2 tk2 E' hC hx hx2 F2 N2 off ne
      have hT : IsTup h2 r.tl #[.str (kindS r.p.kind.1) r.t1, r.vv, .int r.p.kind.2 r.t2] := ⟨_, (N2 _ (.tail _ (.tail _ (.tail _ (.tail _ (.tail _ (.tail _ (.tail _ (.tail _ (hsub' _ z4)))))))))).1, rfl, _, rfl⟩
      refine wpAny_halt ?_
      k_steps
      refine haltO ?_
      (with_reducible rename Fr _ _ _ _ => kF1)
      (with_reducible rename News _ _ _ _ => kN1)
      simp only [LCg.Off3] at off
      refine hide fun G hG => ?_
      obtain ⟨p1, p2, p3, p4, p5, p6⟩ := off
      refine hG ?_
      clear hG G
      refine LCg.CompEnd.intro kF1 kN1 (_ :: _ :: _ :: _ :: _ :: _ :: tail') sub_k ⟨p1, p2, p3, p4, p5, ⟨by omega, by omega, by omega⟩, p6⟩ (.inr ⟨_, .head _, rfl, _, rfl⟩)
        ⟨_ :: tail', rfl, fun q hq => .tail _ (hsub' q hq), all_ne1 (by show @Ne Nat _ _; omega) htb', all_ne1 (by show @Ne Nat _ _; omega) htc', by simp [hyl], ?_⟩
      intro j v hj
      rw [List.getElem?_append] at hj
      split at hj
      · obtain ⟨q, t1, t2, r', e1, e2, e3⟩ := hys j v hj
        exact ⟨q, t1, t2, r', e1, e2, .tail _ e3⟩
      · rename_i hge
        have hj0 : j - ys.length = 0 := by
          cases hz : j - ys.length with
          | zero => rfl
          | succ z => rw [hz] at hj; cases hj
        rw [hj0] at hj
        cases hj
        have : j = i := by omega
        subst this
        exact ⟨_, _, _, r, hr, rfl, .head _⟩
    · rintro kvs nw jj
      refine hide fun G hG => ?_
      obtain ⟨tail', qe0, hsub', htb', htc', hkl, hkvs⟩ := jj
      refine hG ?_
      clear hG G
      subst qe0
      clear N
      k_steps
      (try dsimp only)
      (with_reducible rename Fr _ _ _ _ => kF1)
      (with_reducible rename News _ _ _ _ => kN1)
      rename_i Kl h61 tk61 ho1 En h62 hl1 Dt h63 hl2 h64 h65 h66 h67
      generalize (bindL _ _ _ : Str → Option Value) = M₀ at kF1
      refine hide fun G hG => ?_
      obtain ⟨v1, v2, v3, v4, v5, v6, v7⟩ := hl1
      refine hG ?_
      clear hG G
      have htE : ∀ p ∈ tail', p.1 ≠ En := fun p hp => Nat.ne_of_lt (allLt_in v7 p hp)
      have kN2 := news_sub kN1 (b := (En, listOf #[] 0) :: (Kl, LCg.lst kvs) :: (D, LCg.lst pvs) :: (bx, listOf #[.ref l, .int k' u] e1) :: (l, listOf vs.toArray e2) :: (L' + 1 + 1, oc) :: (L' + 1, ob) :: tail') (fun p hp => .tail _ hp)
      refine hide fun G hG => ?_
      obtain ⟨w1, w2, w3, w4, w5, w6⟩ := ho1
      refine hG ?_
      clear hG G
      have htK : ∀ p ∈ tail', p.1 ≠ Kl := off1_mem w6
      clear kN1 hl2
      refine wpC_execs_safe ?_
      refine For_turns kF1 ?_
      refine wpAny_halt ?_
      k_steps
      unfold Halt
      (with_reducible rename Fr _ _ _ _ => kF3)
      (with_reducible rename News _ _ _ _ => kN3)
      (try clear kF1)
      (try clear kN2)
      refine listT_inv (lo := LCg.lst pvs) (vs := pvs) (fun i m' nw => ∃ (evs : List Value) (e9 : Nat) (u1 u2 : Option Value) (t9 : Tok), m' = (fun y => if y = Str.ofString "told" then u1 else if y = Str.ofString "data" then u2 else if y = Str.ofString "whole" then some (.bytes (rowOf ((psOf rows).take i)).toArray t9) else if y = Str.ofString "kinds" then some (.ref Kl) else if y = Str.ofString "ends" then some (.ref En) else if y = Str.ofString "parts" then some (.ref D) else M₀ y) ∧
          nw = (En, listOf evs.toArray e9) :: (Kl, LCg.lst kvs) :: (D, LCg.lst pvs) :: (bx, listOf #[.ref l, .int k' u] e1) :: (l, listOf vs.toArray e2) :: (L' + 1 + 1, oc) :: (L' + 1, ob) :: tail' ∧
          IntsAre evs (endsI ((psOf rows).take i)) ∧ evs.length = i) (by rfl) kF3 kN3 (.tail _ (.tail _ (.head _))) rfl rfl ?_ ?_ ?_
      · refine ⟨[], 0, M₀ (Str.ofString "told"), M₀ (Str.ofString "data"), ?t9, ?_, rfl, .nil, rfl⟩
        rotate_left
        · (funext y; (by_cases e0 : y = Str.ofString "told"); (subst e0; rfl); (by_cases e1 : y = Str.ofString "data"); (subst e1; rfl); (by_cases e2 : y = Str.ofString "whole"); (subst e2; rfl); (by_cases e3 : y = Str.ofString "kinds"); (subst e3; rfl); (by_cases e4 : y = Str.ofString "ends"); (subst e4; rfl); (by_cases e5 : y = Str.ofString "parts"); (subst e5; rfl); (try simp only [if_neg e0, if_neg e1, if_neg e2, if_neg e3, if_neg e4, if_neg e5]))
      · rintro i v m₁ nw I it h tk hi off hmem jj F₁ N₁
        refine hide fun G hG => ?_
        obtain ⟨evs, e9, u1, u2, t9, qe0, qe1, hev, hel⟩ := jj
        refine hG ?_
        clear hG G
        subst qe0
        subst qe1
        clear kF3 kN3
        refine hide fun G hG => ?_
        obtain ⟨r, hr, qe0⟩ := hpat i v (by rw [List.getElem?_toArray]; exact hi)
        refine hG ?_
        clear hG G
        subst qe0
        have hrm : r ∈ rows := List.mem_of_getElem? hr
        refine hide fun G hG => ?_
        obtain ⟨z1, z2, z3, z4⟩ := hrows r hrm
        refine hG ?_
        clear hG G
        have hi6 : i < rows.length := (List.getElem?_eq_some_iff.mp hr).1
        have hT : IsTup h r.pr #[.ref r.tl, .bytes r.p.data.toArray r.t3] := ⟨_, (N₁ _ (.tail _ (.tail _ (.tail _ (.tail _ (.tail _ (.tail _ (.tail _ (.tail _ (hsub' _ z3)))))))))).1, rfl, _, rfl⟩
        have hps : (psOf rows).take (i + 1) = (psOf rows).take i ++ [r.p] := by
          unfold psOf
          rw [List.take_add_one, List.getElem?_map, hr]; rfl
        have hpo : ∀ p ∈ (psOf rows).take i, p.OK := fun p hp => by
          obtain ⟨r', h1, h2⟩ := List.mem_map.mp (List.mem_of_mem_take hp)
          rw [← h2]; exact (hrows r' h1).1
        have hW := rowOf_snoc ((psOf rows).take i) r.p
        rw [← hps] at hW
        have hE := endsI_snoc ((psOf rows).take i) r.p
        rw [← hps, hW] at hE
        have hWl := row_len _ hpo
        have hWl2 : ((psOf rows).take i).length ≤ i := by rw [List.length_take]; omega
        have hdl := z1.few
        have hIE : @Ne Nat I En := fun e => off _ (.head _) e.symm
        have hIK : @Ne Nat I Kl := fun e => off _ (.tail _ (.head _)) e.symm
        have hID : @Ne Nat I D := fun e => off _ (.tail _ (.tail _ (.head _))) e.symm
        have hesz : evs.toArray.size ≤ sizeLine := by rw [sizeLine_eq, List.size_toArray]; omega
        generalize rowOf ((psOf rows).take i) = W0 at *
        have hab : KBw.bInts (W0 ++ r.p.data).toArray = (W0 ++ r.p.data).map fun c => (c.toNat : Int) := KBw.ints_list _
        have hal : ((W0 ++ r.p.data).map fun c => (c.toNat : Int)).length = W0.length + r.p.data.length := by rw [List.length_map, List.length_append]
        clear N hmem
        k_steps
        (with_reducible rename Fr _ _ _ _ => kF5)
        (with_reducible rename News _ _ _ _ => kN5)
        rw [List.push_toArray] at kN5
        refine' UnrEnd.intro kF5 kN5 _ (fun p hp => hp) (all_ne1 (Ne.symm hIE) (fun p hp => off p (.tail _ hp))) ⟨.tail _ (.tail _ (.head _)), _, _, some (.ref r.tl), some (.bytes r.p.data.toArray r.t3), _, ?ff, rfl, ?gg, by simp [hel]⟩
        case ff =>
          rw [hW]
          (funext y; (by_cases e0 : y = Str.ofString "told"); (subst e0; rfl); (by_cases e1 : y = Str.ofString "data"); (subst e1; rfl); (by_cases e2 : y = Str.ofString "whole"); (subst e2; rfl); (by_cases e3 : y = Str.ofString "kinds"); (subst e3; rfl); (by_cases e4 : y = Str.ofString "ends"); (subst e4; rfl); (by_cases e5 : y = Str.ofString "parts"); (subst e5; rfl); (try simp only [if_neg e0, if_neg e1, if_neg e2, if_neg e3, if_neg e4, if_neg e5]))
        case gg =>
          rw [hE, List.length_append]
          exact hev.append (.cons _ _ .nil)
      · rintro m₁ nw h tk jj F₁ N₁
        refine hide fun G hG => ?_
        obtain ⟨evs, e9, u1, u2, t9, qe0, qe1, hev, hel⟩ := jj
        refine hG ?_
        clear hG G
        subst qe0
        subst qe1
        (try clear kF3)
        (try clear kN3)
        rw [hpl, List.take_of_length_le (by simp [psOf])] at F₁ hev
        have hpo : ∀ p ∈ psOf rows, p.OK := fun p hp => by
          obtain ⟨r', h1, h2⟩ := List.mem_map.mp hp
          rw [← h2]; exact (hrows r' h1).1
        have hpsl : (psOf rows).length = rows.length := by simp [psOf]
        have hWl := row_len _ hpo
        obtain ⟨W, hW⟩ : ∃ W, W = rowOf (psOf rows) := ⟨_, rfl⟩
        rw [← hW] at F₁ hWl
        have hab : KBw.bInts W.toArray = W.map fun c => (c.toNat : Int) := KBw.ints_list _
        have hal : (W.map fun c => (c.toNat : Int)).length = W.length := List.length_map _
        clear N
        (try dsimp only)
        refine wpC_execs_safe ?_
        k_steps
        refine haltO ?_
        intro g19
        refine compRestP_inv (fun i ys nw => nw = (En, listOf evs.toArray e9) :: (Kl, LCg.lst kvs) :: (D, LCg.lst pvs) :: (bx, listOf #[.ref l, .int k' u] e1) :: (l, listOf vs.toArray e2) :: (L' + 1 + 1, oc) :: (L' + 1, ob) :: tail' ∧
          AllIs (((psOf rows).map (·.rv)).take i) ys) ⟨rfl, .nil⟩ ?_ ?_
        · rintro i v ys nw hi hv jj
          refine hide fun G hG => ?_
          obtain ⟨qe0, hys⟩ := jj
          refine hG ?_
          clear hG G
          subst qe0
          obtain ⟨r, hr, rfl⟩ := hpat i v hv
          have hrm : r ∈ rows := List.mem_of_getElem? hr
          refine hide fun G hG => ?_
          obtain ⟨z1, z2, z3, z4⟩ := hrows r hrm
          refine hG ?_
          clear hG G
          refine ⟨_, _, _, _, _, rfl, .tail _ (.tail _ (.tail _ (.tail _ (.tail _ (.tail _ (.tail _ (hsub' _ z3))))))), rfl, rfl, ?_⟩
          intro I oI C oC D2 m₂ h2 tk2 E' hC hx hx2 F2 N2 off ne
          have hT : IsTup h2 r.tl #[.str (kindS r.p.kind.1) r.t1, r.vv, .int r.p.kind.2 r.t2] := ⟨_, (N2 _ (.tail _ (.tail _ (.tail _ (.tail _ (.tail _ (.tail _ (.tail _ (.tail _ (.tail _ (.tail _ (hsub' _ z4)))))))))))).1, rfl, _, rfl⟩
          refine wpAny_halt ?_
          k_steps
          refine haltO ?_
          (with_reducible rename Fr _ _ _ _ => kF5)
          (with_reducible rename News _ _ _ _ => kN5)
          refine LCg.CompEnd.intro kF5 kN5 _ (fun p hp => hp) off (.inr ⟨_, .tail _ (.tail _ (.head _)), rfl, _, rfl⟩) ⟨rfl, ?_⟩
          have e : ((psOf rows).map (·.rv)).take (i + 1) = ((psOf rows).map (·.rv)).take i ++ [r.p.rv] := by
            unfold psOf
            rw [List.take_add_one, List.getElem?_map, List.getElem?_map, hr]; rfl
          rw [e]
          exact hys.append (AllIs.one z2)
        · rintro dvs nw ⟨rfl, hdvs⟩
          rw [List.size_toArray, hpl, List.take_of_length_le (by simp [psOf])] at hdvs
          k_steps
          (try dsimp only)
          (with_reducible rename Fr _ _ _ _ => kF6)
          (with_reducible rename News _ _ _ _ => kN6)
          (rename Obj => oq)
          (rename oq.data = _ => hoq)
          (rename Int => cut)
          (rename cut < _ => cut1)
          (rename 0 ≤ cut => cut0)
          rename_i Du h71 tk71 F71 N71 oDu tcut ucut h72 tk72 Dt2 h73 hl3 h74 h75 h76
          refine hide fun G hG => ?_
          obtain ⟨x1, x2, x3, x4, x5, x6, x7, x8⟩ := oDu
          refine hG ?_
          clear hG G
          have htD : ∀ p ∈ tail', p.1 ≠ Du := off1_mem x8
          have kN7 := news_sub kN6 (b := (Kl, LCg.lst kvs) :: (Du, LCg.lst dvs) :: (bx, listOf #[.ref l, .int (k' + 1) ucut] e1) :: (l, listOf vs.toArray e2) :: (En, listOf evs.toArray e9) :: (L' + 1 + 1, oq) :: (L' + 1, ob) :: tail') sub_due
          clear kN6 hl3 F71 N71
          refine wpC_execs_safe ?_
          k_steps
          refine haltO ?_
          intro x dx ta q1 q2 h8 tk8 F8 N8 hlt hdx
          have hx1 : x ≠ dx := Nat.ne_of_gt hdx
          have hx2 : dx ≠ x := Nat.ne_of_lt hdx
          have hKd : Kl < dx := hlt (Kl, _) (.head _)
          have hx3 : Kl ≠ x := Nat.ne_of_lt (Nat.lt_trans hKd hdx)
          have hx4 : Kl ≠ dx := Nat.ne_of_lt hKd
          have hx5 : x ≠ Kl := Ne.symm hx3
          have hx6 : dx ≠ Kl := Ne.symm hx4
          obtain ⟨RR, hRR⟩ : ∃ RR, RR = (Du, LCg.lst dvs) :: (bx, listOf #[.ref l, .int (k' + 1) ucut] e1) :: (l, listOf vs.toArray e2) :: (En, listOf evs.toArray e9) :: (L' + 1 + 1, oq) :: (L' + 1, ob) :: tail' := ⟨_, rfl⟩
          rw [← hRR] at N8 hlt
          have hm1 : ∀ p ∈ RR, p.1 ≠ dx := fun p hp => Nat.ne_of_lt (hlt p (.tail _ hp))
          have hm2 : ∀ p ∈ RR, p.1 ≠ x := fun p hp => Nat.ne_of_lt (Nat.lt_trans (hlt p (.tail _ hp)) hdx)
          have hm3 : ∀ p ∈ RR, p.1 ≠ Kl := by
            rw [hRR]
            exact all_ne1 (Ne.symm x2) (all_ne1 w2 (all_ne1 w3 (all_ne1 (Nat.ne_of_gt v1) (all_ne1 w4 (all_ne1 w5 htK)))))
          have hkvN : ∀ nw : List (Addr × Obj), (∀ p ∈ tail', p ∈ nw) → ∀ (i : Nat) (v : Value), kvs[i]? = some v → ∃ (p : Addr) (t1 t2 : Tok) (c : Nat) (z : Int), ((psOf rows).map (·.kind))[i]? = some (c, z) ∧ c ≤ 2 ∧ 0 ≤ z ∧ z ≤ 8 ∧ v = Value.ref p ∧ (p, ({ cls := .type "tuple", data := .seq #[.str (kindS c) t1, .int z t2] } : Obj)) ∈ nw := by
            intro nw hnw i v hv
            obtain ⟨q, t1, t2, r, hr, hvq, hq⟩ := hkvs i v hv
            have hkd := (hrows r (List.mem_of_getElem? hr)).1.kind
            refine ⟨q, t1, t2, r.p.kind.1, r.p.kind.2, ?_, hkd.1, hkd.2.1, hkd.2.2, hvq, hnw _ hq⟩
            unfold psOf
            rw [List.getElem?_map, List.getElem?_map, hr]
            rfl
          have hkv1 := hkvN RR (fun p hp => by rw [hRR]; exact .tail _ (.tail _ (.tail _ (.tail _ (.tail _ (.tail _ hp))))))
          have hklen : kvs.length = ((psOf rows).map (·.kind)).length := by rw [hkl, List.size_toArray, hpl, List.length_map, hpsl]
          have hk6 : ((psOf rows).map (·.kind)).length ≤ 6 := by rw [List.length_map, hpsl]; exact hr6
          have hWd : W.length ≤ 1000 := by omega
          clear kN7 hlt
          k_steps
          (try dsimp only)
          refine wpC_execs_safe ?_
          k_steps
          refine haltO ?_
          intro D1 fvs ta' e3 at' g9 h9 tk9 T9 B9 F9 X9 P9 D9 N9 lt1 n1 n2 n3 hA hat
          have hrw := row_whole (psOf rows) [] hpo
          rw [List.nil_append, ← hW] at hrw
          replace hrw : readAll W 0 ((psOf rows).map (·.kind)) = ((psOf rows).map (·.rv), some ((0 : Int) + W.length)) := hrw
          rw [hrw] at hA hat
          obtain rfl : at' = (W.length : Int) := by rw [hat _ rfl, Int.zero_add]
          rw [hRR] at N9 lt1
          have N10 := news_sub N9 (b := (x, instObj 170 dx) :: (dx, dictOf [{ hash := PyData.keyHash w.params (Str.ofString "data"), key := .str (Str.ofString "data") q1, val := .bytes (List.toArray (W)) t9 }, { hash := PyData.keyHash w.params (Str.ofString "at"), key := .str (Str.ofString "at") q2, val := .int (W.length) ta' }] 2) :: (D1, listOf fvs.toArray e3) :: (Kl, LCg.lst kvs) :: (Du, LCg.lst dvs) :: (bx, listOf #[.ref l, .int (k' + 1) ucut] e1) :: (l, listOf vs.toArray e2) :: (En, listOf evs.toArray e9) :: (L' + 1 + 1, oq) :: (L' + 1, ob) :: tail') sub_read
          clear N9 kB0 kX0 kT0 kD0 hat
          k_steps
          all_goals (try (exfalso; omega; done))
          (try dsimp only)
          refine wpC_any ?_
          refine wpAny_execs_cons ?_
          refine wpAny_halt ?_
          iterate 18 walk1
          rw [picked_to W cut0 (by omega)]
          have hab3 : KBw.bInts (W.take cut.toNat).toArray = (W.take cut.toNat).map fun c => (c.toNat : Int) := KBw.ints_list _
          have hal3 : ((W.take cut.toNat).map fun c => (c.toNat : Int)).length = (W.take cut.toNat).length := List.length_map _
          have hcl : (W.take cut.toNat).length ≤ 1000 := by rw [List.length_take]; omega
          generalize hWc : W.take cut.toNat = Wc at *
          k_steps
          refine haltO ?_
          intro x2 dx2 ta2 q3 q4 h10 tk10 F10 N12 hlt2 hdx2
          have hy1 : x2 ≠ dx2 := Nat.ne_of_gt hdx2
          have hy2 : dx2 ≠ x2 := Nat.ne_of_lt hdx2
          have hKd2 : Kl < dx2 := hlt2 (Kl, _) (.tail _ (.tail _ (.tail _ (.head _))))
          have hy3 : Kl ≠ x2 := Nat.ne_of_lt (Nat.lt_trans hKd2 hdx2)
          have hy4 : Kl ≠ dx2 := Nat.ne_of_lt hKd2
          have hy5 : x2 ≠ Kl := Ne.symm hy3
          have hy6 : dx2 ≠ Kl := Ne.symm hy4
          have hz1 : ∀ p ∈ RR, p.1 ≠ dx2 := fun p hp => Nat.ne_of_lt (hlt2 p (.tail _ (.tail _ (.tail _ (.tail _ (by rw [← hRR]; exact hp))))))
          have hz2 : ∀ p ∈ RR, p.1 ≠ x2 := fun p hp => Nat.ne_of_lt (Nat.lt_trans (hlt2 p (.tail _ (.tail _ (.tail _ (.tail _ (by rw [← hRR]; exact hp)))))) hdx2)
          rw [← hRR] at N12 hlt2
          have N13 := news_sub N12 (b := (x2, instObj 170 dx2) :: (dx2, _) :: (Kl, LCg.lst kvs) :: RR) sub_read2
          clear N12 hlt2
          k_steps
          refine haltO ?_
          intro D2 fvs2 ta3 e4 at2 g10 h11 tk11 T10 B10 F11 X10 P10 D10 N14 lt2 m1 m2 m3 hA2 hat2
          have T11 := T9.trans T10
          have hrc := row_cut (psOf rows) [] 0 cut.toNat hpo
          rw [List.nil_append, ← hW, hWc] at hrc
          replace hrc : (readAll Wc 0 ((psOf rows).map (·.kind))).1 = ((psOf rows).map (·.rv)).take ((endsL 0 (psOf rows)).filter fun e => decide (e ≤ 0 + cut.toNat)).length := hrc
          rw [hrc] at hA2
          rw [hRR] at N14
          have N15 := news_sub N14 (b := (D2, listOf fvs2.toArray e4) :: (Du, LCg.lst dvs) :: (bx, listOf #[.ref l, .int (k' + 1) ucut] e1) :: (l, listOf vs.toArray e2) :: (En, listOf evs.toArray e9) :: (L' + 1 + 1, oq) :: (L' + 1, ob) :: tail') sub_fin
          clear N14 hat2 B9 X9 P9 D9 F9
          have hel6 : (endsI (psOf rows)).length ≤ 6 := by
            unfold endsI
            rw [List.length_map, endsL_length, hpsl]; exact hr6
          have hevl : evs.length ≤ 6 := by rw [hev.length]; exact hel6
          have hevsz : evs.toArray.size ≤ sizeLine := by rw [sizeLine_eq, List.size_toArray]; omega
          k_steps
          refine haltO ?_
          intro g29
          refine compRestT_inv (fun i ys nw => nw = (D2, listOf fvs2.toArray e4) :: (Du, LCg.lst dvs) :: (bx, listOf #[.ref l, .int (k' + 1) ucut] e1) :: (l, listOf vs.toArray e2) :: (En, listOf evs.toArray e9) :: (L' + 1 + 1, oq) :: (L' + 1, ob) :: tail' ∧
            IntsAre ys (((endsI (psOf rows)).take i).filter fun e => decide (e ≤ cut))) ⟨rfl, .nil⟩ ?_ ?_
          · rintro i v I oI C oC D3 m₂ ys nw h tk E' hi hv jj hC hx F N off ne
            refine hide fun G hG => ?_
            obtain ⟨qe0, hys⟩ := jj
            refine hG ?_
            clear hG G
            subst qe0
            obtain ⟨z, tz, rfl, hz⟩ := IntsAre.at hev i v (by simpa using hv)
            have htk : (endsI (psOf rows)).take (i + 1) = (endsI (psOf rows)).take i ++ [z] := by rw [List.take_add_one, hz]; rfl
            refine wpAny_halt ?_
            k_steps
            refine haltO ?_
            by_cases hzc : z ≤ cut
            · rw [if_pos (decide_eq_true hzc)]
              refine wpAny_halt ?_
              k_steps
              refine haltO ?_
              (with_reducible rename Fr _ _ _ _ => kF5)
              (with_reducible rename News _ _ _ _ => kN5)
              refine LCg.CompEnd.intro kF5 kN5 _ (fun p hp => hp) off (.inr ⟨_, .tail _ (.tail _ (.tail _ (.tail _ (.head _)))), rfl, _, rfl⟩) ⟨rfl, ?_⟩
              rw [htk, List.filter_append, List.filter_cons_of_pos (by simpa using hzc), List.filter_nil]
              exact hys.append (.cons z tz .nil)
            · rw [if_neg (by simpa using hzc)]
              (with_reducible rename Fr _ _ _ _ => kF5)
              (with_reducible rename News _ _ _ _ => kN5)
              refine LCg.CompEnd.intro kF5 kN5 _ (fun p hp => hp) off (.inr ⟨_, .tail _ (.tail _ (.tail _ (.tail _ (.head _)))), rfl, _, rfl⟩) ⟨rfl, ?_⟩
              rw [htk, List.filter_append, List.filter_cons_of_neg (by simpa using hzc), List.filter_nil, List.append_nil]
              exact hys
          · rintro cvs nw jj
            refine hide fun G hG => ?_
            obtain ⟨qe0, hcv⟩ := jj
            refine hG ?_
            clear hG G
            subst qe0
            have hcnt := ends_count (psOf rows) cut0
            rw [List.size_toArray, List.take_of_length_le (by rw [← hev.length]; exact Nat.le_refl _)] at hcv
            have hcl2 : ((endsI (psOf rows)).filter fun e => decide (e ≤ cut)).length ≤ 6 := Nat.le_trans (List.length_filter_le _ _) hel6
            generalize ((endsI (psOf rows)).filter fun e => decide (e ≤ cut)) = CE at *
            generalize ((endsL 0 (psOf rows)).filter fun e => decide (e ≤ 0 + cut.toNat)) = CL at *
            rw [← hcnt] at hA2
            k_steps
            (with_reducible rename Fr _ _ _ _ => kF8)
            (with_reducible rename News _ _ _ _ => kN8)
            have hdl6 : dvs.length ≤ 6 := by rw [← hdvs.length, List.length_map, hpsl]; exact hr6
            refine kmk_slice_lit kF8 kN8 (isList_of kN8 (.tail _ (.tail _ (.head _)))) (by constructor) (by constructor) (pick_to _ (by omega)) ?_ (by with_unfolding_all rfl) (by intro _; with_unfolding_all rfl) (by rw [sizeLine_eq, List.size_toArray]; omega)
            intro D4 h44 F44 N44 l44
            have hdue := hdvs.take CE.length
            rw [Int.toNat_natCast] at N44
            generalize dvs.take CE.length = dws at *
            have N45 := news_sub N44 (b := (D2, listOf fvs2.toArray e4) :: (D4, listOf dws.toArray 0) :: (bx, listOf #[.ref l, .int (k' + 1) ucut] e1) :: (l, listOf vs.toArray e2) :: news) (sub_last (fun p hp => hsub' p (hsub p hp)))
            clear N44 kN8 l44
            k_steps
            refine haltO (hQ _ _ ?_)
            (try dsimp only)
            refine .inr ⟨_, _, _, _, (by assumption : KtsTurn _ g' g10), F44, N45, ?_⟩
            intro g12 T12 kF12 kN12 B12 X12 P12 D12
            exact hret _ (k' + 1) _ _ _ T12 B12 kF12 X12 P12 D12 (by omega) (by omega) (news_sub kN12 (fun p hp => .tail _ (.tail _ hp)))
end
section
open PySem PySem.W PyProof.Rows PySem.Spec PySem.Calls
set_option maxRecDepth 100000
set_option maxHeartbeats 40000000
set_option linter.unusedVariables false
theorem fresh_C16 : True := by
  w_top off
  trivial
open PySem PySem.W PyProof.Rows PySem.Spec PySem.Calls
set_option maxRecDepth 100000
set_option maxHeartbeats 40000000
set_option linter.unusedVariables false
theorem fill_dummyC16 : (∃ K : Params → Frag, K = MineH.hd.heap_39) ∧ PySem.Challenge.rw_pb0522_01 = PySem.Challenge.rw_pb0522_01 := by
  k_fill
  exact ⟨⟨_, rfl⟩, rfl⟩
section
variable {prog : Program} {w : World} {s : Shared} {K : Frag} {mg mb : Str → Option Value} {p : Program} {loose : List Str} {mean : ExcName → Option Value}
/-- the law's def is entered -/
theorem codeC_top {R : Result → Shared → Prop} {name qual : Str} {params : Arguments} {body : List Stmt} {scope : Scope} {dV kV doc pm cdv ct oc : Value} {an od : Option Addr} {osl : Array (Option Value)} {f : Addr} {args : Args} {binds : List (Str × Value)}
    (X : K.In s.heap) (T : Top p loose mean mg mb s.heap)
    (ho : K.lookup f = some ⟨oc, od, .func (fnOf name qual params body scope dV kV doc pm an cdv ct), osl⟩) (hcd : codeIn K cdv qual = true)
    (hbind : BindsTo s (fnOf name qual params body scope dV kV doc pm an cdv ct) args binds) (hloc : ∀ y ∈ binds, scope.names.lookup y.1 = some .local)
    (h : ∀ (dp un : Nat) (gd : Option (List Code)) L h₁ tk, dp + 100 < recursionLimit → un + 6000 < cLine → s.heap.objs.size ≤ L → Fr s.heap L h₁ (fun y => binds.reverse.lookup y) →
      wpC (model prog w) (ktrTop dp un gd qual scope L f cdv [] []) (execs body (envOf qual scope L f cdv))
        (fun fl s' => R (.ok (.ret (match fl with | .ret v => v | _ => .none))) s') (fun e s' => False)
        { s with heap := h₁, toks := tk })
    (hco : scope.isCoroutine = false) (hgen : scope.isGenerator = false) (hk : scope.kind = .function)
    (hcell : ∀ x ∈ scope.names, x.2 ≠ .cell) : codeC (model prog w) callerA (.call (.ref f) args) R s := by
  refine codeC_def (fd := fnOf name qual params body scope dV kV doc pm an cdv ct) (body := body) (binds := binds) (by decide +kernel) (X _ _ ho) rfl T.nolimit (codeRec_of X hcd) rfl hbind hcell hloc (fun h₁ hns hk₁ => ?_) hco hgen hk
  exact wpC_mono (h _ _ _ s.heap.objs.size h₁ _ (by decide +kernel) (by decide +kernel) (Nat.le_refl _) ⟨hns, hk₁, Nat.le_refl _⟩) (fun _ _ y => y) fun _ _ y => y.elim
end
theorem seen_menu {t1 t2 t3 t4 t5 u1 u2 u3 u4 u5 u6 : Tok} : ∀ v ∈ [Value.none, .int 0 u1, .int 126 u2, .int 127 u3, .int 128 u4, .int 255 u5, .int 70000 u6, .int 2305843009213693952 t1, .int (4611686018427387904 - 300) t2, .int (4611686018427387904 - 130) t3, .int (4611686018427387904 - 129) t4, .int (4611686018427387904 - 2) t5], ∃ coming, SeenV v coming ∧ coming ≤ 4611686018427387903 := by
  simp only [List.mem_cons, List.not_mem_nil, or_false]
  rintro v (rfl | h)
  · exact ⟨0, .inl ⟨rfl, rfl⟩, by decide⟩
  · rcases h with rfl | rfl | rfl | rfl | rfl | rfl | rfl | rfl | rfl | rfl | rfl <;> exact ⟨_, .inr ⟨_, _, rfl, rfl, by decide, by decide⟩, by decide⟩
theorem sub_law2 {a b : Addr × Obj} {r : List (Addr × Obj)} : ∀ p ∈ [a, b], p ∈ a :: b :: r := by
  simp only [List.mem_cons, List.not_mem_nil, or_false]
  rintro p (h | h) <;> simp [h]
end
local macro_rules | `(tactic| walk_at "call ref") => `(tactic| (k_here; (show wpAny _ _ (call (Value.ref 186) _) _ _ _); k_dflt (refine' window_spec (hret := ?_)); walk_at "my end"))
section
open PySem PySem.W PyProof.Rows PySem.Spec PySem.Calls
set_option maxRecDepth 100000
set_option maxHeartbeats 40000000
set_option linter.unusedVariables false
end
local macro_rules | `(tactic| walk_at "call ref") => `(tactic| (k_here; (show wpAny _ _ (call (Value.ref 193) _) _ _ _); k_dflt (refine' wide_spec (hret := ?_)); walk_at "my end"))
section
open PySem PySem.W PyProof.Rows PySem.Spec PySem.Calls
set_option maxRecDepth 100000
set_option maxHeartbeats 40000000
set_option linter.unusedVariables false
theorem sub_law {a b c d : Addr × Obj} : ∀ p ∈ [b, c, a], p ∈ [a, b, c, d] := by
  simp only [List.mem_cons, List.not_mem_nil, or_false]
  rintro p (h | h | h) <;> simp [h]
theorem law_spec {w : World} {mean : ExcName → Option Value} {mg mb : Str → Option Value} {s : Shared} {l : Addr} {vs : List Value} {ns : List Int} {Q E : Value → Shared → Prop}
    (X : (MineH.hd.heap_39 w.params).In s.heap) (T : Top MineH.hd.view_39 (looseW MineH.hd.view_39 []) mean mg mb s.heap) (hl : s.heap.IsList l vs.toArray) (hI : IntsAre vs ns) (hlen : ns.length ≤ 63)
    (hret : ∀ (L : Addr) (m : Str → Option Value) (h' : Heap) (tk' : Nat), Fr s.heap L h' m → Q (.bool true) { s with heap := h', toks := tk' }) :
    wpC (model PySem.Challenge.rw_pb0522_01.row.prog w) callerA (call (.ref 222) [.ref l]) Q E s := by
  have B := below_caller s.heap
  have D : KtsDicts (([] : List Env).filterMap (·.frame)) s.heap := fun b hb => nomatch hb
  refine wpC_call ?_
  k_dflt (refine' codeC_top X T ?k6 ?k7 ?k9 ?kB ?_ ?c2 ?c3 ?c4 ?c5; (case k6 => k_is); (case k7 => k_is); (case k9 => exact BindsTo.of_eq rfl); (case c5 => decide); (case kB => exact locs rfl); (case c2 => exact rfl); (case c3 => exact rfl); (case c4 => exact rfl); k_whole)
  intro dp un gd L h₁ tk hd hu hL F
  generalize hg : s.heap = g at X T hl B D F hL hret
  have N : News g L h₁ [] := fun _ hp => nomatch hp
  refine wpC_never ?_
  try dsimp only
  refine wpC_execs_safe ?_
  k_steps
  try dsimp only
  refine wpC_execs_safe ?_
  k_steps
  try dsimp only
  rename_i D1 ws h5 hWs hC hL' l13 l2 c2 h4 l12 bx h3 l11 h2 fr h1 l10 h0 kF kN
  obtain ⟨t1, t2, t3, t4, t5, t6, N1⟩ : ∃ t1 t2 t3 t4 t5 t6 : Tok, News g L h0 [(bx, listOf #[.ref l2, .int 0 t6] 0), (l2, listOf ws.toArray c2), (fr, listOf #[.int 2305843009213693952 t1, .int (4611686018427387904 - 300) t2, .int (4611686018427387904 - 130) t3, .int (4611686018427387904 - 129) t4, .int (4611686018427387904 - 2) t5] 0)] :=
    ⟨_, _, _, _, _, _, news_sub kN sub_law⟩
  clear kN
  have hbl : bx ≠ l2 := Nat.ne_of_gt l11.1
  have hbl2 : l2 ≠ bx := Nat.ne_of_lt l11.1
  have hW24 : (List.take 24 ns).length ≤ 24 := by rw [List.length_take]; omega
  generalize List.take 24 ns = zs at *
  have hn0 : ∀ p ∈ ([] : List (Addr × Obj)), p.1 ≠ bx := fun _ hp => nomatch hp
  refine wpC_execs_safe ?_
  k_steps
  (with_reducible rename Fr g _ _ _ => kF)
  (with_reducible rename News g _ _ _ => kN)
  (with_unfolding_all refine item_any (isList_of kN (.tail _ (.tail _ (.head _)))) (by assumption) (by assumption) (by omega) ?_ (by rfl))
  intro v hv
  refine hide fun G hG => ?_
  obtain ⟨coming, hsv, hcm⟩ := seen_menu v hv
  refine hG ?_
  clear hG G
  clear hv
  have kN2 := news_sub kN sub_law2
  clear kN
  k_steps
  try dsimp only
  refine wpC_execs_safe ?_
  refine wpAny_halt ?_
  k_steps
  refine haltO ?_
  try dsimp only
  refine wpC_execs_cons (wpC_Return (wpC_And ?_))
  refine wpC_Call ?_
  k_steps
  try dsimp only
  refine callWithC_K (K := (MineH.hd.heap_39 w.params)) (by k_is) ?_
  k_steps
  refine' row_spec ?k1 ?k2 ?k3 ?k4 ?k5 ?k6 X T D hWs hW24 ?a1 ?a2 hbl hbl2 hn0 ?kd ?ku ?_
  (case k1 => k_asm); (case k2 => k_asm); (case k3 => k_asm); (case k4 => k_asm); (case k5 => first | exact rfl | assumption); (case k6 => k_asm)
  (case a1 => decide)
  (case a2 => decide)
  (case kd => omega)
  (case ku => omega)
  intro t7 k7 g7 h7 tk7 T7 B7 F7 X7 P7 D7 q7 q8 N7
  (try clear kF); (try clear kN2)
  refine wpAny_truthy_bool ?_
  rw [if_pos rfl]
  refine wpC_Call ?_
  k_steps
  try dsimp only
  refine callWithC_K (K := (MineH.hd.heap_39 w.params)) (by k_is) ?_
  k_steps
  refine' shortest_spec ?k1 ?k2 ?k3 ?k4 ?k5 ?k6 X T D7 hWs hW24 ?a1 ?a2 hbl hbl2 hn0 ?kd ?ku ?_
  (case k1 => k_asm); (case k2 => k_asm); (case k3 => k_asm); (case k4 => k_asm); (case k5 => first | exact rfl | assumption); (case k6 => k_asm)
  (case a1 => omega)
  (case a2 => omega)
  (case kd => omega)
  (case ku => omega)
  intro g8 h8 tk8 T8 B8 F8 X8 P8 D8
  try dsimp only
  have T9 := T7.trans T8
  exact hret L _ h8 tk8 ⟨F8.ns, fun b o e => F8.keep _ _ (T9.other b o e (fun hm => nomatch hm)), hL⟩
end
section
open PySem PySem.W PyProof.Rows PySem.Spec PySem.Calls
set_option maxRecDepth 100000
set_option maxHeartbeats 8000000
set_option linter.unusedVariables false
theorem fresh_F1 : True := by
  w_top off
  trivial
open PySem PySem.W PyProof.Rows PySem.Spec PySem.Calls
set_option maxRecDepth 100000
set_option maxHeartbeats 8000000
set_option linter.unusedVariables false
theorem final : PySem.Challenge.rw_pb0522_01.Holds := by
  refine MineH.hd ?_
  k_fill
  intro w s₀ s₁ mg mb G Y fa o pm cd doc dV kV ho hd hcd hD hmg hg args vals as hpre hlay hrd hwl hlo
  have KX := kIn_of Y
  refine Ground.open G ?_
  intro T B D TE TW
  obtain rfl : fa = 222 := by
    have h := mg_of (n := Str.ofString "law") KX T.g (by k_is)
    have h' : mg (Str.ofString "law") = some (.ref fa) := hmg
    rw [h] at h'
    cases h'
    rfl
  wrow_args hpre hlay hrd hwl hlo
  (rename Heap.IsList _ _ _ => hl)
  (rename IntsAre _ _ => hI)
  (rename ¬ (_ < _) => hlen)
  refine law_spec KX T hl hI (by omega) (fun L m h' tk' F => ?_)
  refine GoodW.toG ?_
  (k_end; wrow_close)
end
end Mine
theorem PySem.Challenge.cw_pb0522_01_holds : PySem.Challenge.rw_pb0522_01.Holds :=
  Mine.final
