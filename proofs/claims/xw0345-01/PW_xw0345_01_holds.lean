import PyProof.Rows.All
import Wide.All
import OpenK.AllK
import Wide.FinOn
import Lean
import PySem.Challenge.RW_xw0345_01
-- xw0345-01. Order: the logic of clean contexts (wpC, codeC), the own holds_open, the heap and the view, the head (theorem top),
-- the objects as record predicates, a contract for every function that the law reaches, the law (theorem walk), the claim.
open PySem PySem.W PySem.Calls PyProof.Rows PySem.Spec
set_option Elab.async false
set_option maxRecDepth 100000
set_option maxHeartbeats 0
set_option compiler.extract_closed false
set_option linter.unusedVariables false
-- Clean
namespace Mine
open PySem.Sem (wp)

/-- the built-ins of which bytearray asks whether one of them stands on the stack -/
def holders : List String := Builtin.Bytes.decodersThatHold ++ ["bytearray.__contains__", "bytearray.__mod__", "bytearray.__rmod__", "_struct.pack_into.held", "bytearray.find.held"]
def okCode : Code → Bool
  | .builtin id _ => !holders.contains id
  | _ => true
def Pure (l : List (Code × Pos)) : Prop := ∀ x ∈ l, okCode x.1 = true
theorem Pure.cons {c : Code} {p : Pos} {l : List (Code × Pos)} (h : okCode c = true) (hl : Pure l) : Pure ((c, p) :: l) := by
  intro x hx
  rcases List.mem_cons.mp hx with rfl | hx
  · exact h
  · exact hl x hx

def wpC {α : Type} (M : Model) (A : Around) (t : Sem α) (Q : α → Shared → Prop) (E : Value → Shared → Prop) (s : Shared) : Prop :=
  ∀ Γ p, Γ.In A → okCode Γ.code = true → Pure Γ.below → wp M Γ t (fun a _ s' => Q a s') (fun e _ s' => E e s') p s
def codeC (M : Model) (A : Around) (c : Code) (R : Result → Shared → Prop) (s : Shared) : Prop :=
  ∀ Γ p, Γ.code = c → Γ.Below A → Pure Γ.below → wpCode M Γ R p s

section
variable {α β : Type} {M : Model} {A : Around} {E : Value → Shared → Prop} {s : Shared}
theorem wpC_any {t : Sem α} {Q : α → Shared → Prop} (h : wpAny M A t Q E s) : wpC M A t Q E s := fun Γ p hΓ _ _ => h Γ p hΓ
theorem codeC_any {c : Code} {R : Result → Shared → Prop} (h : codeAny M A c R s) : codeC M A c R s := fun Γ p hc hΓ _ => h Γ p hc hΓ
theorem wpC_pure {a : α} {Q : α → Shared → Prop} (h : Q a s) : wpC M A (pure a) Q E s := fun _ _ _ _ _ => h
theorem wpC_mono {t : Sem α} {Q Q' : α → Shared → Prop} {E' : Value → Shared → Prop} (h : wpC M A t Q E s)
    (hQ : ∀ a s, Q a s → Q' a s) (hE : ∀ e s, E e s → E' e s) : wpC M A t Q' E' s :=
  fun Γ p hΓ a b => Sem.wp_mono M Γ t (fun a _ s => hQ a s) (fun e _ s => hE e s) p s (h Γ p hΓ a b)
theorem wpC_bind {m : Sem α} {f : α → Sem β} {Q : β → Shared → Prop} (h : wpC M A m (fun a s' => wpC M A (f a) Q E s') E s) :
    wpC M A (m >>= f) Q E s := fun Γ p hΓ x y => by
  rw [Sem.wp_bind']
  exact Sem.wp_mono M Γ m (fun a p' s' h' => h' Γ p' hΓ x y) (fun _ _ _ h' => h') p s (h Γ p hΓ x y)
/-- the first part by the common logic -/
theorem wpC_then {m : Sem α} {f : α → Sem β} {Q : β → Shared → Prop} (h : wpAny M A m (fun a s' => wpC M A (f a) Q E s') E s) :
    wpC M A (m >>= f) Q E s := wpC_bind (wpC_any h)
theorem wpC_holding {vs : List Value} {m : Sem α} {Q : α → Shared → Prop} (h : wpC M A m Q E s) : wpC M A (holding vs m) Q E s :=
  fun Γ p hΓ a b => by rw [Sem.wp_holding]; exact h Γ p hΓ a b
theorem wpC_keep {vs : List Value} {m : Sem α} {Q : α → Shared → Prop} (h : wpC M A m Q E s) : wpC M A (m.keep vs) Q E s :=
  fun Γ p hΓ a b => by rw [Sem.wp_keep]; exact h Γ p hΓ a b
theorem wpC_standAt {pos : Pos} {Q : Unit → Shared → Prop} (h : Q () s) : wpC M A (standAt pos) Q E s := fun _ _ _ _ _ => h
theorem wpC_eq {t : Sem α} {a : α} {Q : α → Shared → Prop} (e : t = pure a) (h : Q a s) : wpC M A t Q E s := by rw [e]; exact wpC_pure h
theorem wpC_onRaise {m : Sem α} {k : Value → Sem Unit} {Q : α → Shared → Prop}
    (h : wpC M A m Q (fun e s' => wpAny M A (k e) (fun _ s'' => E e s'') E s') s) : wpC M A (m.onRaise k) Q E s := fun Γ p hΓ a b => by
  rw [Sem.wp_onRaise]
  exact Sem.wp_mono M Γ m (fun _ _ _ h' => h') (fun e p' s' h' => h' Γ p' hΓ) p s (h Γ p hΓ a b)
theorem codeC_mono {c : Code} {R R' : Result → Shared → Prop} (h : codeC M A c R s) (hR : ∀ r s, R r s → R' r s) : codeC M A c R' s :=
  fun Γ p hc hΓ hp => wpCode_mono hR (h Γ p hc hΓ hp)
theorem wpC_run {c : Code} {h : Option Value} {Q : Flow → Shared → Prop}
    (hc : codeC M (A.mark h) c (fun r s' => match r with | .ok f => Q f s' | .error e => E e s') s) (hnb : h ≠ some byPass := by intro x; cases x) :
    wpC M A (run c h) Q E s :=
  fun Γ p hΓ a b => by rw [Sem.wp_run]; exact hc _ p rfl (hΓ.enter c h p hnb) (Pure.cons a b)
theorem wpC_runValue {c : Code} {Q : Value → Shared → Prop}
    (hc : codeC M A c (fun r s' => match r with | .ok (.ret v) => Q v s' | .ok _ => False | .error e => E e s') s) :
    wpC M A (runValue c) Q E s := fun Γ p hΓ a b => by rw [Sem.wp_runValue]; exact hc _ p rfl (hΓ.enter c none p (by intro x; cases x)) (Pure.cons a b)
theorem wpC_call {f : Value} {pos : List Value} {kw : List (Str × Value)} {Q : Value → Shared → Prop}
    (hc : codeC M A (.call f ⟨pos, kw⟩) (fun r s' => match r with | .ok (.ret v) => Q v s' | .ok _ => False | .error e => E e s') s) :
    wpC M A (call f pos kw) Q E s := wpC_runValue hc
theorem codeC_of_tree {c : Code} {R : Result → Shared → Prop} (ok : okCode c = true)
    (h : wpC M (A.under c) (M.den c) (fun fin s' => match fin with | .done f => R (.ok f) s' | .again c' => c'.quiet = true ∧ codeC M A c' R s')
      (fun e s' => R (.error e) s') s) : codeC M A c R s := fun Γ p hc hΓ hp => by
  rw [wpCode_iff_wp, hc]
  refine Sem.wp_mono M Γ _ (fun fin p' s' h' => ?_) (fun _ _ _ h' => h') p s (h Γ p (hc ▸ hΓ.in) (by rw [hc]; exact ok) hp)
  cases fin with
  | done f => exact h'
  | again c' => exact ⟨h'.1, h'.2 (Γ.goto c') p' rfl (hΓ.goto c') hp⟩
theorem codeC_of_any {c : Code} {R : Result → Shared → Prop} (ok : okCode c = true)
    (h : wpAny M (A.under c) (M.den c) (fun fin s' => match fin with | .done f => R (.ok f) s' | .again c' => c'.quiet = true ∧ codeC M A c' R s')
      (fun e s' => R (.error e) s') s) : codeC M A c R s := codeC_of_tree ok (wpC_any h)
/-- what is asked of the stack: nothing on it holds a buffer -/
theorem wpC_stackAny {f : Code × Pos → Bool} {Q : Bool → Shared → Prop} (hf : ∀ x, okCode x.1 = true → f x = false) (h : Q false s) :
    wpC M A (do return (← stack).any f) Q E s := fun Γ p _ a b => by
  show Q (((Γ.code, p) :: Γ.below).any f) s
  have e : ((Γ.code, p) :: Γ.below).any f = false := by
    rw [List.any_eq_false]
    intro x hx
    rw [hf x (Pure.cons a b x hx)]
    exact Bool.false_ne_true
  rw [e]; exact h
end

-- statements, one by one
section
variable {M : Model} {A : Around} {E : Value → Shared → Prop} {s : Shared} {env : Env} {Q : Flow → Shared → Prop}
theorem execsC {st : Stmt} {rest : List Stmt} (h : wpC M A (exec st env) (fun fl s' => match fl with | .next => wpC M A (execs rest env) Q E s' | f => Q f s') E s) :
    wpC M A (execs (st :: rest) env) Q E s := by
  rw [arm_execs_cons]
  refine wpC_bind (wpC_mono h (fun fl s' h' => ?_) fun _ _ x => x)
  cases fl <;> first | exact h' | exact wpC_pure h'
theorem execsC_any {st : Stmt} {rest : List Stmt} (h : wpAny M A (exec st env) (fun fl s' => match fl with | .next => wpC M A (execs rest env) Q E s' | f => Q f s') E s) :
    wpC M A (execs (st :: rest) env) Q E s := execsC (wpC_any h)
theorem ifC {test : PySem.Expr} {body orelse : List Stmt} {pos : Pos}
    (h : wpC M A (PySem.isTrue test env (eval test env)) (fun b s' => match b with | true => wpC M A (execs body env) Q E s' | false => wpC M A (execs orelse env) Q E s') E s) :
    wpC M A (exec (.If test body orelse pos) env) Q E s := by
  rw [arm_exec_If]
  refine wpC_bind (wpC_standAt (wpC_bind (wpC_mono h (fun b s' h' => ?_) fun _ _ x => x)))
  cases b <;> exact h'
theorem ifC_any {test : PySem.Expr} {body orelse : List Stmt} {pos : Pos}
    (h : wpAny M A (PySem.isTrue test env (eval test env)) (fun b s' => match b with | true => wpC M A (execs body env) Q E s' | false => wpC M A (execs orelse env) Q E s') E s) :
    wpC M A (exec (.If test body orelse pos) env) Q E s := ifC (wpC_any h)
/-- «not f(..)», where the call gives a bool -/
theorem notC {f : PySem.Expr} {args : List PySem.Expr} {kws : List PySem.Keyword} {pos pos' : Pos} {whole : Sem Value} {Q : Bool → Shared → Prop}
    (h : wpC M A (eval (.Call f args kws pos) env) (fun v s' => ∃ b, v = .bool b ∧ Q (!b) s') E s) :
    wpC M A (PySem.isTrue (.UnaryOp .Not (.Call f args kws pos) pos') env whole) Q E s := by
  rw [arm_isTrue_UnaryOp]
  refine wpC_bind ?_
  have e : PySem.isTrue (.Call f args kws pos) env (eval (.Call f args kws pos) env) = (do let v ← eval (.Call f args kws pos) env; standAt (PySem.Expr.Call f args kws pos).pos; holding [v] (truthy v)) := rfl
  rw [e]
  · refine wpC_bind (wpC_mono h (fun v s' h' => ?_) fun _ _ x => x)
    obtain ⟨b, rfl, hq⟩ := h'
    refine wpC_bind (wpC_standAt (wpC_holding (wpC_eq (a := b) rfl ?_)))
    exact wpC_pure hq
end
end Mine
-- Clean2
namespace Mine
open PySem.Sem (wp)
section
variable {M : Model} {A : Around} {E : Value → Shared → Prop} {s : Shared} {env : Env}
/-- «x = e» -/
theorem assignNameC {x : Str} {pos' pos : Pos} {value : PySem.Expr} {Q : Flow → Shared → Prop}
    (h : wpC M A (eval value env) (fun v s₁ => wpAny M A (storeName env x v) (fun _ => Q .next) E s₁) E s)
    (hs : swapsWith value (some (.Name x pos')) pos.line env = pure false := by rfl) :
    wpC M A (exec (.Assign [.Name x pos'] value pos) env) Q E s := fun Γ p hΓ a b => by
  simp only [exec_Assign_Name env x pos' value pos hs, Sem.wp_bind', Sem.wp_cmd_standAt, Sem.wp_bindName, Sem.wp_pure']
  exact Sem.wp_mono M Γ _ (fun v _ s₁ h₁ => h₁ Γ _ hΓ) (fun _ _ _ h' => h') _ _ (h Γ _ hΓ a b)
/-- «o.a = e» -/
theorem assignAttrC {o : PySem.Expr} {attr : Str} {pos' pos : Pos} {value : PySem.Expr} {Q : Flow → Shared → Prop}
    (h : wpC M A (eval value env) (fun v s₁ => wpAny M A (eval o env) (fun ov s₂ => wpAny M A (setAttr ov attr v) (fun _ => Q .next) E s₂) E s₁) E s)
    (hs : swapsWith value (some (.Attribute o attr pos')) pos.line env = pure false := by rfl) :
    wpC M A (exec (.Assign [.Attribute o attr pos'] value pos) env) Q E s := fun Γ p hΓ a b => by
  simp only [plainObj_exec_Assign_Attribute o attr pos' value pos hs, assign_Attribute, Sem.wp_bind', Sem.wp_holding, Sem.wp_cmd_standAt, Sem.wp_release, Sem.wp_pure']
  exact Sem.wp_mono M Γ _ (fun v p₁ s₁ h₁ => Sem.wp_mono M Γ _ (fun ov _ s₂ h₂ => h₂ Γ _ hΓ) (fun _ _ _ h' => h') _ _ (h₁ Γ p₁ hΓ)) (fun _ _ _ h' => h') _ _ (h Γ _ hΓ a b)
/-- «f(..)», f a name -/
theorem callWithC {P : Heap → Prop} {pos : Pos} {f : Value} {first : List Value} {Q : Value → Shared → Prop} {args : List (Bool × Sem Value)} {keywords : List (Option Str × Sem Value)} (hplain : (args.any (·.1) || keywords.any (·.1.isNone)) = false)
    (hk : ∀ h, P h → ∃ k, (k = Keeper.frame ∨ k = Keeper.machine ∨ k = Keeper.boundFrame) ∧ Looks M h (keeperOf f) k)
    (h : wpAny M A (evalArgs f true args keywords) (fun a s₁ => P s₁.heap ∧ wpC M A (call f (first ++ a.pos) a.kw) Q E s₁) E s) : wpC M A (callWith pos f first args keywords) Q E s := by
  unfold callWith
  refine wpC_bind (wpC_any (wpAny_holding (wpAny_mono h (fun a s₁ h₁ => wpC_bind (wpC_standAt ?_)) fun _ _ x => x)))
  obtain ⟨k, hk', L⟩ := hk _ h₁.1
  simp only [hplain]
  refine wpC_then (L.here ?_)
  have tail : ∀ {t : Sem Value}, wpC M A t Q E s₁ → wpC M A (t >>= fun r => holding [r] point >>= fun _ => pure r) Q E s₁ :=
    fun ht => wpC_bind (wpC_mono ht (fun r s₂ hr => wpC_then (wpAny_holding (wpAny_point (wpC_pure hr)))) fun _ _ x => x)
  have marked (mk : Value) : wpC M A (callMarked mk f (first ++ a.pos) a.kw) Q E s₁ := by unfold callMarked; exact wpC_keep h₁.2
  rcases hk' with rfl | rfl | rfl <;> dsimp only <;> first | exact tail h₁.2 | (split <;> first | exact tail h₁.2 | exact tail (marked _))
theorem callC_K {K : Frag} {pos : Pos} {f : Value} {Q : Value → Shared → Prop} {h₀ : Heap} {e : PySem.Expr} {rest : List PySem.Expr} (_X : K.In h₀) (hk : keepIn K f = true)
    (h : wpAny M A (spliced (backTo pos (starEach (e :: rest) env))) (fun vs s₁ => K.In s₁.heap ∧ wpC M A (call f vs) Q E s₁) E s)
    (he : starEach (e :: rest) env = (false, eval e env) :: starEach rest env := by rfl) (hplain : (backTo pos (starEach rest env)).any (·.1) = false := by rfl) :
    wpC M A (callWith pos f [] (backTo pos (starEach (e :: rest) env)) []) Q E s := by
  rw [he] at h ⊢
  exact callWithC (by show ((false || (backTo pos (starEach rest env)).any (·.1)) || false) = false; rw [hplain]; rfl) (keeps_K hk) (evalArgs_plain h)
theorem evalCallC {id : Str} {p pos : Pos} {args : List PySem.Expr} {keywords : List PySem.Keyword} {Q : Value → Shared → Prop}
    (h : wpAny M A (eval (.Name id p) env) (fun f s₁ => wpC M A (callWith pos f [] (backTo pos (starEach args env)) (backToKw pos (keywordEach keywords env))) Q E s₁) E s) :
    wpC M A (eval (.Call (.Name id p) args keywords pos) env) Q E s := by
  rw [arm_eval_Call_Name']
  exact wpC_then h
end

section
variable {prog : Program} {w : World} {A : Around} {s : Shared} {R : Result → Shared → Prop}
theorem codeC_call_builtin_at {id : String} {args : Args} {b : Builtin} (ok : okCode (.builtin id args) = true) (hq : (Code.builtin id args).quiet = true) (hb : entryFor table id = some b)
    (h : wpAny (model prog w) A.in1 (checkBuiltinCall id args) (fun _ s₁ => wpC (model prog w) (A.under (.builtin id args)) (b args)
      (fun fin s' => match fin with | .done f => R (.ok f) s' | .again c' => c'.quiet = true ∧ codeC (model prog w) A c' R s') (fun e s' => R (.error e) s') s₁)
      (fun e s' => R (.error e) s') s) : codeC (model prog w) A (.call (.builtin id) args) R s := by
  refine codeC_of_any rfl ?_
  show wpAny _ A.in1 (do checkBuiltinCall id args; again (.builtin id args)) _ _ s
  refine wpAny_bind (wpAny_mono h (fun _ s₁ h₁ => wpAny_pure (And.intro hq (codeC_of_tree ok ?_))) fun _ _ h' => h')
  show wpC _ _ (match entryFor table id with | some b => b args | none => unsupported ((withoutEnding? id "#data").getD id)) _ _ s₁
  rw [hb]; exact h₁
theorem codeC_builtin {id : String} {args : Args} {b : Builtin} (ok : okCode (.builtin id args) = true) (hb : entryFor table id = some b)
    (h : wpC (model prog w) (A.under (.builtin id args)) (b args)
      (fun fin s' => match fin with | .done f => R (.ok f) s' | .again c' => c'.quiet = true ∧ codeC (model prog w) A c' R s') (fun e s' => R (.error e) s') s) :
    codeC (model prog w) A (.builtin id args) R s := by
  refine codeC_of_tree ok ?_
  show wpC _ _ (match entryFor table id with | some b => b args | none => unsupported ((withoutEnding? id "#data").getD id)) _ _ s
  rw [hb]; exact h
theorem codeC_func {body : List Stmt} {env : Env}
    (h : wpC (model prog w) (A.deeper env) (execs body env) (fun f s' => R (.ok (.ret (match f with | .ret v => v | _ => .none))) s')
      (fun e s' => wpAny (model prog w) (A.deeper env) (leaving env e) (fun _ s'' => R (.error e) s'') (fun e' s'' => R (.error e') s'') s') s) :
    codeC (model prog w) A (.func body env) R s := by
  refine codeC_of_tree rfl ?_
  show wpC _ (A.deeper env) (do point; match ← (execs body env).onRaise (leaving env) with | .ret v => ret v | _ => ret .none) _ _ s
  refine wpC_then (wpAny_point (wpC_bind (wpC_onRaise (wpC_mono h (fun f s' h' => ?_) fun _ _ h' => h'))))
  cases f <;> exact wpC_pure h'
theorem codeC_call_function {a : Addr} {args : Args} {o : Obj} {fd : FuncData} {body : List Stmt} (hroom : A.depth < recursionLimit)
    (ho : s.heap.get? a = some o)
    (hd' : o.data = .func fd) (hco : fd.scope.isCoroutine = false) (hgen : fd.scope.isGenerator = false) (hbody : fd.body = .stmts body) (hcd : s.heap.CodeRec fd.code fd.qualname)
    (h : wpAny (model prog w) A.in1 (bindArgs fd args) (fun binds s₁ =>
      wpAny (model prog w) A.in1 (newFunctionEnv fd.scope fd.globals fd.closure binds (fd.qualname ++ ".<locals>.") (some a) fd.code none fd.builtins)
        (fun env s₂ => s₂.heap.NoLimit ∧ codeC (model prog w) A (.func body env) R s₂) (fun e s' => R (.error e) s') s₁) (fun e s' => R (.error e) s') s) :
    codeC (model prog w) A (.call (.ref a) args) R s := by
  refine codeC_of_any rfl ?_
  show wpAny _ A.in1 (callAny (.ref a) args) _ _ s
  simp only [callAny]
  refine wpAny_bind (wpAny_load ho ?_)
  obtain ⟨c, oc, vs, tq, hc, hoc, hdc, hq⟩ := hcd
  simp only [hd', callFunction, hco, hgen, hbody, hc]
  rw [hc] at h
  refine wpAny_bind (m := field (.ref c) 1) (wpAny_field hoc hdc hq (wpAny_bind (wpAny_pure ?_)))
  exact wpAny_bind (wpAny_mono h (fun binds s₁ h₁ => wpAny_bind (wpAny_mono h₁ (fun env s₂ h₂ => wpAny_bind (wpAny_enterFrame h₂.1 hroom
    (wpAny_pure (And.intro rfl h₂.2)))) fun _ _ h' => h')) fun _ _ h' => h')
end
end Mine
-- Clean3
namespace Mine
open PySem.Sem (wp)
section
variable {prog : Program} {w : World} {A A₀ : Around} {E : Value → Shared → Prop} {s : Shared} {K : Frag} {C L : Addr} {h₀ base : Heap} {m mg mb : Str → Option Value} {news : List (Addr × Obj)} {p : Program} {loose : List Str} {mean : ExcName → Option Value} {Q : Value → Shared → Prop}
theorem code_defC {env : Env} {outer : List Env} {R : Result → Shared → Prop} {name qual : Str} {params : Arguments} {body : List Stmt} {scope : Scope} {dV kV doc pm cdv ct oc : Value} {an od : Option Addr} {osl : Array (Option Value)} {f : Addr} {args : Args} {binds : List (Str × Value)}
    (B : Below A₀ base outer h₀) (F : Fr h₀ L s.heap m) (X₀ : K.In h₀) (N : News h₀ L s.heap news) (T : Top p loose mean mg mb h₀) (hA : A.frames = some (env :: outer)) (hf : env.frame = some L) (hke : env.scope.kind = .function)
    (ho : K.lookup f = some ⟨oc, od, .func (fnOf name qual params body scope dV kV doc pm an cdv ct), osl⟩) (hcd : codeIn K cdv qual = true) (hroom : A.depth < recursionLimit)
    (hbind : BindsTo s (fnOf name qual params body scope dV kV doc pm an cdv ct) args binds) (hloc : ∀ y ∈ binds, scope.names.lookup y.1 = some .local)
    (h : ∀ g L' h₁ tk, Fr h₀ L g m → Fr g L' h₁ (fun y => binds.reverse.lookup y) → News g L' h₁ news → Below A base (env :: outer) g → K.In g → Top p loose mean mg mb g →
      wpC (model prog w) (A.deeper (envOf qual scope L' f cdv)) (execs body (envOf qual scope L' f cdv))
        (fun fl s' => LeaveK h₀ L m g R (match fl with | .ret v => v | _ => .none) s')
        (fun e s' => wpAny (model prog w) (A.deeper (envOf qual scope L' f cdv)) (leaving (envOf qual scope L' f cdv) e) (fun _ s'' => R (.error e) s'') (fun e' s'' => R (.error e') s'') s')
        { s with heap := h₁, toks := tk })
    (hco : scope.isCoroutine = false) (hgen : scope.isGenerator = false) (hk : scope.kind = .function)
    (hcell : ∀ x ∈ scope.names, x.2 ≠ .cell) : codeC (model prog w) A (.call (.ref f) args) R s := by
  have ho' := (X₀.keeps F.keep) _ _ ho
  have hcd' := codeRec_of (X₀.keeps F.keep) hcd
  obtain ⟨FG, BG, st, lv⟩ := groundX (R := R) B F N hA hf hke
  refine codeC_call_function hroom ho' rfl hco hgen rfl hcd' (hbind _ _ _ _ ?_)
  refine wpAny_newFunctionEnv hcell hloc (fun h₁ hns hsb => ⟨((T.nolimit).keeps F.keep).fresh _ hsb, codeC_func ?_⟩) hk
  have hk₁ : ∀ b o, s.heap.get? b = some o → h₁.get? b = some o := fun b o e => hsb.extBut b o (Nat.ne_of_lt (Heap.lt_size e)) (Heap.get?_push_of_some _ e)
  exact wpC_mono (h _ s.heap.objs.size h₁ _ FG ⟨hns, fun b o e => hk₁ b o (of_hideAll _ e), Nat.le_of_eq (hideAll_size _ _)⟩
    (fun p hp => ⟨hk₁ _ _ (N p hp).1, Nat.ne_of_lt (Heap.lt_size (N p hp).1), hideAll_none _ (List.mem_map_of_mem hp)⟩) BG (X₀.keeps st) (T.keeps st)) (fun fl s' hl => lv _ _ hl) fun _ _ y => y
end

theorem wpC_ifF {α : Type} {M : Model} {A : Around} {E : Value → Shared → Prop} {s : Shared} {c : Bool} {a b : Sem α} {Q : α → Shared → Prop} (hc : c = false) (h : wpC M A b Q E s) : wpC M A (if c = true then a else b) Q E s := by
  subst hc; exact h
theorem wpC_ifT {α : Type} {M : Model} {A : Around} {E : Value → Shared → Prop} {s : Shared} {c : Bool} {a b : Sem α} {Q : α → Shared → Prop} (hc : c = true) (h : wpC M A a Q E s) : wpC M A (if c = true then a else b) Q E s := by
  subst hc; exact h
section
variable {prog : Program} {w : World} {A : Around} {K : Frag} {C : Addr} {R : Result → Shared → Prop} {h : Heap} {g : Array GenState} {d : Drawn} {t : Nat} {os : OsState}
theorem make_coreC {rest : List Value} {kw : List (Str × Value)} {init : Value} (Y : Makes (model prog w) h C) (hi : Looks (model prog w) h (typeLookup (.ref C) "__init__") (some init))
    (hb : ∀ self, Looks (model prog w) h (bindSpecial init self) (init, [self])) (hne : (some init != some (Value.builtin "object.__init__")) = true ∨ (rest = [] ∧ kw = []))
    (hq : codeC (model prog w) (A.under (.builtin "type.__call__" ⟨.ref C :: rest, kw⟩)) (.call init ⟨.ref (h.objs.size + 1) :: rest, kw⟩) (InitBack (h.objs.size + 1) R) ⟨(h.push emptyDict).push (instObj C h.objs.size), g, d, t, os⟩) :
    codeC (model prog w) A (.call (.ref C) ⟨rest, kw⟩) R ⟨h, g, d, t, os⟩ := by
  have Y' := Y
  obtain ⟨⟨oc, od, cd, sl, hC, e1, e2, e4⟩, made, base, self, top, call, typ⟩ := Y
  refine codeC_of_any rfl ?_
  show wpAny _ _ (callAny (.ref C) _) _ _ _
  refine nd_load hC ?_
  show wpAny _ _ (callAny.viaDunder (.ref C) _) _ _ _
  unfold callAny.viaDunder
  refine wpAny_bind (call.at ?_)
  dsimp only
  rw [tc_bind]
  refine wpAny_bind (wpAny_pure (wpAny_bind (wpAny_pure ?_)))
  refine wpAny_pure (a := Fin.again (.call (.builtin "type.__call__") ⟨.ref C :: rest, kw⟩)) (And.intro rfl ?_)
  refine codeC_call_builtin_at (show (!holders.contains "type.__call__") = true by decide +kernel) (Code.quiet_builtin _ (by decide +kernel)) entry_typeCall (check_slot tc_kind tc_split typ (tc_args _ _ _) ?_)
  unfold Builtin.«type.__call__»
  have hm : Looks (model prog w) h (mroOf (.ref C)) cd.mro := ((Looks.ld (part := none) hC).andThen .now).andThen .now
  have k : ∀ b o, h.get? b = some o → ((h.push emptyDict).push (instObj C h.objs.size)).get? b = some o := fun b o e => Heap.get?_push_of_some _ (Heap.get?_push_of_some _ e)
  have hx : ((h.push emptyDict).push (instObj C h.objs.size)).get? (h.objs.size + 1) = some (instObj C h.objs.size) := by heap_get
  have t1 : Looks (model prog w) ((h.push emptyDict).push (instObj C h.objs.size)) (typeOf (.ref (h.objs.size + 1))) (.ref C) := (Looks.ld hx).andThen .now
  have s1 := self.keeps k
  have i1 := hi.keeps k
  have b1 := (hb (.ref (h.objs.size + 1))).keeps k
  have i9 : Looks (model prog w) ((h.push emptyDict).push (instObj C h.objs.size)) (isInstance (.ref (h.objs.size + 1)) (.ref C)) true := t1.andThen s1
  have sp : Looks (model prog w) ((h.push emptyDict).push (instObj C h.objs.size)) (specialOf (.ref (h.objs.size + 1)) (Str.ofString "__init__")) (some init) := t1.andThen i1
  refine wpC_ifF rfl ?_
  refine wpC_then (hm.here ?_)
  refine wpC_ifF e4 ?_
  refine wpC_then (made.here ?_)
  refine wpC_then (wpAny_pure ?_)
  refine wpC_then (wpAny_holding (wpAny_call (new_K Y' hi hne ?_)))
  refine wpC_then (i9.here ?_)
  refine wpC_ifF rfl ?_
  refine wpC_bind (wpC_holding ?_)
  unfold callSpecial?
  refine wpC_then (sp.here ?_)
  refine wpC_holding ?_
  refine wpC_then (b1.here ?_)
  refine wpC_bind (wpC_call (codeC_mono hq fun r s' z => ?_))
  rcases r with e | (v | _ | _ | _) <;> first | exact z | exact z.elim | skip
  obtain ⟨rfl, z⟩ := z
  refine wpC_pure ?_
  refine wpC_ifF rfl ?_
  exact wpC_pure z
end
section
variable {prog : Program} {w : World} {A : Around} {K : Frag} {C x : Addr} {s : Shared} {h₀ : Heap} {L : Addr} {m : Str → Option Value} {news : List (Addr × Obj)} {R : Result → Shared → Prop}
/-- an own class is called, its own __init__ in the narrower logic -/
theorem make_KC {rest : List Value} {kw : List (Str × Value)} {fI : Addr} (F : Fr h₀ L s.heap m) (N : News h₀ L s.heap news) (X : K.In s.heap) (hm : makesIn K C = true)
    (hi : findIn K (.ref C) "__init__" = some (some (.ref fI))) (hf : typeIn K (.ref fI) = some (.type "function"))
    (h : ∀ x dx h', Fr h₀ L h' m → News h₀ L h' ((x, instObj C dx) :: (dx, emptyDict) :: news) → (∀ p ∈ news, p.1 < dx) → dx < x →
      codeC (model prog w) (A.under (.builtin "type.__call__" ⟨.ref C :: rest, kw⟩)) (.call (.ref fI) ⟨.ref x :: rest, kw⟩) (InitBack x R) { s with heap := h' }) :
    codeC (model prog w) A (.call (.ref C) ⟨rest, kw⟩) R s := by
  obtain ⟨hh, g, d, t, os⟩ := s
  refine make_coreC (makes_of X hm) (looks_findIn X hi) (fun self => bind_fn X self hf) (.inl rfl) (h _ hh.objs.size _ ((F.push _).push _) ?_ (fun p hp => Heap.lt_size (N p hp).1) (Nat.lt_succ_self _))
  have := (N.push F emptyDict).push (F.push _) (instObj C hh.objs.size)
  rwa [Heap.size_push] at this
end
end Mine
-- Clean4
namespace Mine
open PySem.Sem (wp)
theorem ba_mro : mroOf (.type "bytearray") = pure [.type "bytearray", .type "object"] := by rw [mroOf_type]; kernel_rfl
theorem ba_lookup_new : typeLookup (.type "bytearray") "__new__" = pure (some (.builtin "bytearray.__new__")) := by rw [typeLookup_type, builtinLookup_eq_fast]; kernel_rfl
theorem ba_slot_init : Slot "bytearray" "__init__" "bytearray.__init__" :=
  .of (owner := "bytearray") (n := "__init__") (by rw [typeLookup_type, builtinLookup_eq_fast]; kernel_rfl) (by decide +kernel) (by decide +kernel) (by decide +kernel)
    (by first | exact .inl (by decide +kernel) | exact .inr (by decide +kernel)) (by rw [isSubtype_type]; kernel_rfl)
theorem ba_called : TypeCalled "bytearray" "bytearray.__new__" "bytearray.__init__" :=
  ⟨by decide +kernel, by decide +kernel, ⟨_, _, ba_mro⟩, madeBy_type ba_mro ba_lookup_new (by decide +kernel), by decide +kernel, by rw [isSubtype_type]; kernel_rfl, ba_slot_init⟩
theorem ba_typeCall : checkTypeCall "bytearray" ⟨[], []⟩ = pure () := by kernel_rfl
theorem ba_newCall : checkBuiltinCall "bytearray.__new__" ⟨[.type "bytearray"], []⟩ = pure () := by kernel_rfl
theorem ba_plain_new : plainId "bytearray.__new__" = true := by decide +kernel
theorem ba_plain_init : plainId "bytearray.__init__" = true := by decide +kernel
theorem ba_entry_new : entryFor table "bytearray.__new__" = some Builtin.«list.__new__» :=
  entryFor_alias (id' := "list.__new__") (by rw [fastTable_eq_tree]; kernel_rfl) (by first | rfl | decide +kernel) (by decide +kernel) (by rw [fastTable_eq_tree]; kernel_rfl)
theorem ba_entry_init : entryFor table "bytearray.__init__" = some Builtin.«bytearray.__init__» := by first | exact entryFor_of_tree (by kernel_rfl) | exact entryFor_of_fast (by kernel_rfl)
theorem ba_args_init (a : Value) : argsOk "bytearray.__init__" ⟨[a], []⟩ := by unfold argsOk; kernel_rfl
theorem ba_bind : Builtin.Bytes.bindOptional "bytearray.__init__" "bytearray" ["source", "encoding", "errors"] [] [] = pure [none, none, none] := by kernel_rfl
theorem ba_release : typeLookup (.type "bytearray") "__release_buffer__" = pure (some (.builtin "bytearray.__release_buffer__")) := by rw [typeLookup_type, builtinLookup_eq_fast]; kernel_rfl
theorem ba_sub : isSubtype (.type "bytearray") (.type "bytearray") = pure true := by rw [isSubtype_type]; kernel_rfl
theorem ba_ends : "bytearray.__release_buffer__".endsWith ("." ++ "__release_buffer__") = true := by decide +kernel
theorem ba_drop : "bytearray.__release_buffer__".dropRight ("__release_buffer__".length + 1) = "bytearray" := by decide +kernel
def baObj : Obj := { cls := .type "bytearray", data := .bytearray #[] }
section
variable {prog : Program} {w : World} {A : Around} {E : Value → Shared → Prop} {s : Shared}
theorem ba_new {Q₁ : Value → Shared → Prop} (h : Q₁ (.ref s.heap.objs.size) { s with heap := s.heap.push baObj }) :
    codeAny (model prog w) A (.call (.builtin "bytearray.__new__") ⟨[.type "bytearray"], []⟩) (wants Q₁ E) s := by
  refine codeAny_of_tree ?_
  show wpAny _ A.in1 (do checkBuiltinCall "bytearray.__new__" ⟨[.type "bytearray"], []⟩; again (.builtin "bytearray.__new__" ⟨[.type "bytearray"], []⟩)) _ _ s
  refine wpAny_bind (wpAny_of_eq ba_newCall (wpAny_pure ⟨plainId_quiet ba_plain_new _, codeAny_builtin_stack ba_entry_new rfl fun p st => ?_⟩))
  rw [Around.under_plainId ba_plain_new _]
  have hsub := ba_sub
  have hown : ("bytearray.__new__".splitOn ".__new__").headD "" = "bytearray" := by rw [split_bytearray]; rfl
  obtain ⟨hp, g, d, tk, os⟩ := s
  simp only [hown]
  wp_walk
  exact h
theorem ba_own {a : Addr} {Q : Bool → Shared → Prop} (hT : s.TypeIs (.ref a) "bytearray") (h : Q false s) : wpAny (model prog w) A (Builtin.Bytes.ownRelease (.ref a)) Q E s := by
  unfold Builtin.Bytes.ownRelease Builtin.Bytes.slotIsOwn
  refine wpAny_bind (wpAny_bind (wpAny_specialOf hT ba_release ?_))
  dsimp only
  rw [ba_ends, ba_drop]
  refine bm_if_false rfl ?_
  refine wpAny_mono (wpAny_isInstance (Q := fun b s' => b = true ∧ s' = s) hT ba_sub ⟨rfl, rfl⟩) (fun b s' hb => ?_) fun _ _ x => x
  obtain ⟨rfl, rfl⟩ := hb
  exact wpAny_pure h
theorem ba_exported {v : Value} {Q : Bool → Shared → Prop} (h : Q false s) : wpC (model prog w) A (Builtin.Bytes.exported v) Q E s := by
  unfold Builtin.Bytes.exported
  refine wpC_stackAny (fun x hx => ?_) h
  obtain ⟨c, p⟩ := x
  cases c with
  | builtin id args =>
    have hx : (!holders.contains id) = true := hx
    have nh : ∀ y ∈ holders, id ≠ y := fun y hy e => by
      subst e
      have : holders.contains id = true := List.contains_iff_mem.mpr hy
      rw [this] at hx; cases hx
    have nd : Builtin.Bytes.decodersThatHold.contains id = false := by
      cases e : Builtin.Bytes.decodersThatHold.contains id with
      | false => rfl
      | true => exact absurd rfl (nh id (List.mem_append_left _ (List.contains_iff_mem.mp e)))
    have n1 : ¬ id = "bytearray.__contains__" := nh _ (by decide +kernel)
    have n2 : ¬ id = "bytearray.__mod__" := nh _ (by decide +kernel)
    have n3 : ¬ id = "bytearray.__rmod__" := nh _ (by decide +kernel)
    have n4 : ¬ id = "_struct.pack_into.held" := nh _ (by decide +kernel)
    have n5 : ¬ id = "bytearray.find.held" := nh _ (by decide +kernel)
    clear hx nh
    obtain ⟨ps, kw⟩ := args
    delta Builtin.Bytes.exported.match_1
    refine Eq.trans (dif_neg n1) (Eq.trans (dif_neg n2) (Eq.trans (dif_neg n3) (Eq.trans (dif_neg n4) (Eq.trans (dif_neg n5) ?_))))
    cases ps with
    | nil => rfl
    | cons a l =>
      show (Builtin.Bytes.sameRef a v && Builtin.Bytes.decodersThatHold.contains id) = false
      rw [nd, Bool.and_false]
  | _ => rfl
theorem ba_write {a : Addr} {f : Array UInt8 → Array UInt8} {Q : Unit → Shared → Prop} (ha : s.heap.get? a = some baObj) (hf : (f #[]).size ≤ sizeLine)
    (h : Q () { s with heap := s.heap.update a (Obj.mapBytearray f) }) : wpAny (model prog w) A (Builtin.Bytes.write (.ref a) f) Q E s := by
  show wpAny _ _ (updateBytearray a f) _ _ _
  unfold updateBytearray
  refine wpAny_bind (wpAny_load ha ?_)
  show wpAny _ _ (update a (Obj.mapBytearray f) >>= fun _ => lookBehind a) _ _ _
  refine wpAny_bind (wpAny_update ha ?_)
  refine wpAny_lookBehind (Heap.get?_update_self (Obj.mapBytearray f) ha rfl) ?_ h
  show (if (f #[]).size > sizeLine then some "bytearray:memory" else none) = none
  rw [if_neg (Nat.not_lt.mpr hf)]
theorem ba_init {a : Addr} {R : Result → Shared → Prop} (ha : s.heap.get? a = some baObj)
    (h : R (.ok (.ret .none)) { s with heap := s.heap.update a (Obj.mapBytearray fun _ => #[]) }) :
    codeC (model prog w) A (.call (.builtin "bytearray.__init__") ⟨[.ref a], []⟩) R s := by
  have hT : s.TypeIs (.ref a) "bytearray" := ⟨_, ha, rfl⟩
  refine codeC_call_builtin_at (show (!holders.contains "bytearray.__init__") = true by decide +kernel) (Code.quiet_builtin _ (by decide +kernel)) ba_entry_init ?_ 
  · refine ba_slot_init.check _ _ _ _ _ _ _ _ hT (ba_args_init _) ?_
    unfold Builtin.«bytearray.__init__»
    refine wpC_then (ba_own hT ?_)
    refine wpC_ifF rfl ?_
    refine wpC_then (wpAny_of_eq ba_bind ?_)
    refine wpC_then (wpAny_of_eq (a := ()) rfl ?_)
    refine wpC_then (wpAny_of_eq (a := ()) rfl ?_)
    refine wpC_bind ?_
    refine wpC_bind (ba_exported ?_)
    show wpC _ _ (Builtin.Bytes.exportsOf (.ref a) >>= fun n => pure (decide (n > 0))) _ _ _
    have ex : ∀ {Q : Nat → Shared → Prop} {A : Around} {E : Value → Shared → Prop}, Q 0 s → wpAny (model prog w) A (Builtin.Bytes.exportsOf (.ref a)) Q E s := fun q => wpAny_bind (wpAny_load ha (wpAny_pure q))
    refine wpC_any (wpAny_bind (ex (wpAny_pure ?_)))
    refine wpC_ifF rfl ?_
    refine wpC_then (ba_write ha (Nat.zero_le _) ?_)
    exact wpC_pure h
theorem call_bytearray {Q : Value → Shared → Prop} (h : ∀ h', (∀ b o, b ≠ s.heap.objs.size → (s.heap.push baObj).get? b = some o → h'.get? b = some o) → h'.get? s.heap.objs.size = some baObj → Q (.ref s.heap.objs.size) { s with heap := h' }) :
    wpC (model prog w) A (call (.type "bytearray") []) Q E s := by
  have ft := ba_called
  obtain ⟨c, tl, hmro⟩ := ft.mro
  refine wpC_call (codeC_of_any rfl ?_)
  show wpAny _ _ (callAny (.type "bytearray") _) _ _ _
  refine wpAny_pure ⟨Code.quiet_builtin _ (by decide +kernel), codeC_builtin (show (!holders.contains "type.__call__") = true by decide +kernel) PySem.F.entry_type_call ?_⟩
  rw [Around.under_plain (weight_type_call_type "bytearray" [] []) rfl]
  unfold Builtin.«type.__call__»
  dsimp only
  have hl : (s.heap.push baObj).get? s.heap.objs.size = some baObj := Heap.get?_push_size _ rfl
  have hT : ({ s with heap := s.heap.push baObj } : Shared).TypeIs (.ref s.heap.objs.size) "bytearray" := ⟨_, hl, rfl⟩
  refine wpC_ifF rfl ?_
  refine wpC_ifF ft.canCreate ?_
  refine wpC_then (wpAny_of_eq ba_typeCall ?_)
  refine wpC_then (wpAny_of_eq ba_mro ?_)
  refine wpC_ifF rfl ?_
  refine wpC_then (wpAny_of_eq ft.made ?_)
  refine wpC_then (wpAny_pure ?_)
  refine wpC_then (wpAny_holding (wpAny_call (codeAny_mono (ba_new (Q₁ := fun v s' => v = .ref s.heap.objs.size ∧ s' = { s with heap := s.heap.push baObj }) (E := fun _ _ => False) ⟨rfl, rfl⟩) fun r s' hr => ?_)))
  cases r with
  | error e => exact hr.elim
  | ok fl =>
    cases fl with
    | ret v =>
      obtain ⟨rfl, rfl⟩ := hr
      refine wpC_then (wpAny_isInstance hT ba_sub ?_)
      refine wpC_ifF rfl ?_
      refine wpC_bind (wpC_holding ?_)
      unfold callSpecial?
      refine wpC_then (wpAny_specialOf hT ba_slot_init.lookup ?_)
      refine wpC_holding ?_
      refine wpC_then (wpAny_of_eq (ba_slot_init.bind _) ?_)
      refine wpC_bind (wpC_call (ba_init hl ?_))
      refine wpC_pure ?_
      refine wpC_ifF rfl ?_
      refine wpC_pure ?_
      exact h _ (fun b o hb e => (Heap.get?_update_other _ _ (Ne.symm hb)).trans e) (Heap.get?_update_self (Obj.mapBytearray fun _ => #[]) hl rfl)
    | _ => exact hr.elim
end
end Mine
-- Clean5
namespace Mine
open PySem.Sem (wp)
theorem wp_of_wpC_done {M : Model} {A : Around} {Γ : PySem.Ctx} {t : Sem PySem.Fin} {R : Result → Shared → Prop} {s : Shared} (hin : Γ.In A) (h1 : okCode Γ.code = true) (h2 : Pure Γ.below)
    (h : wpC M A t (fun fin s' => ∃ f, fin = .done f ∧ R (.ok f) s') (fun e s' => R (.error e) s') s) (p : Pos) :
    wp M Γ t (Sem.finPost M Γ R) (fun e _ s' => R (.error e) s') p s := by
  refine Sem.wp_mono M Γ t (fun fin p' s' h' => ?_) (fun _ _ _ h' => h') p s (h Γ p hin h1 h2)
  obtain ⟨f, rfl, hf⟩ := h'
  exact hf
theorem thread_endsC {prog : Program} {w : World} {t : Sem PySem.Fin} {s : Shared} {R : Result → Shared → Prop} (hreg : s.asleep)
    (h : wpC (model prog w) callerA t (fun fin s' => ∃ f, fin = .done f ∧ (R (.ok f) s' ∧ leftWithCleanup s'.gens = false)) (fun e s' => R (.error e) s' ∧ leftWithCleanup s'.gens = false) s) :
    ∃ n r s' s'', runN (denote table) prog w n s ⟨t, .builtin "claim.caller" {}, default, []⟩ = .halted (outcomeOf r) s' ∧
      schedN (denote table) prog w n (.single s ⟨t, .builtin "claim.caller" {}, default, []⟩) = .halted (outcomeOf r) s' ∧ s'.forget = s''.forget ∧ R r s'' := by
  obtain ⟨n, r, s₁, s₂, hs, hn, hfo, hR⟩ := wp_halts_full (M := model prog w) (R := R) hreg
    (wp_of_wpC_done (R := fun r s' => R r s' ∧ leftWithCleanup s'.gens = false) caller_in (show (!holders.contains "claim.caller") = true by decide +kernel) (fun _ hx => absurd hx List.not_mem_nil) h default)
  exact ⟨n, r, s₂, s₁, hn, hs, hfo, hR⟩
theorem callFromC {c : ClaimW} {tree : List Value → Sem PySem.Fin} {w : World} {s : Shared} {free : Addr → Prop} {gens : Prop} {kept : Heap → Prop} (hz : s.asleep) (hgens : s.gens = #[])
    (hspec : ∀ args, c.pre args = true → WData.layableAll args = true →
      ∀ ord : List DictEntry → List DictEntry, (∀ l, (ord l).Perm l) →
      ∃ vs s₁, layAllW c.records (classAt s.heap) w.params ord args s = some (vs, s₁) ∧
        wpC (model c.prog w) callerA (tree vs) (fun fin s' => ∃ f, fin = .done f ∧ (c.Ends s args vs s₁ (.ok f) s' ∧ s'.os = s.os ∧ AllBare s'.gens ∧ kept s'.heap))
          (fun e s' => c.Ends s args vs s₁ (.error e) s' ∧ s'.os = s.os ∧ AllBare s'.gens ∧ kept s'.heap) s₁) :
    c.CallFrom (fun vs => ⟨tree vs, .builtin "claim.caller" {}, default, []⟩) w free gens kept s := by
  intro args hpre hlay ord hord
  obtain ⟨vs, s₁, hlaid, hcode⟩ := hspec args hpre hlay ord hord
  have hal := layAllW_rest _ _ _ hlaid
  obtain ⟨k, r, s', s'', hrun, hsched, hfo, hcase, hos, hkp⟩ := thread_endsC (prog := c.prog) (w := w) (t := tree vs) (s := s₁)
    (R := fun r s' => c.Ends s args vs s₁ r s' ∧ s'.os = s.os ∧ kept s'.heap)
    (Shared.asleep_of_life hal.2.2.2 hz)
    (wpC_mono hcode (by
      rintro fin s' ⟨f, e, h1, h2, h3, h4⟩
      exact ⟨f, e, ⟨h1, h2, h4⟩, leftWithCleanup_false_of_bare h3⟩) (by
      rintro e s' ⟨h1, h2, h3, h4⟩
      exact ⟨⟨h1, h2, h4⟩, leftWithCleanup_false_of_bare h3⟩))
  obtain ⟨eh, _, _, eo, _⟩ := Shared.forget_eq hfo
  have hcase := hcase.congr eh
  have hkp : kept s'.heap := by rw [eh]; exact hkp
  rw [← eo] at hos
  have hlife : s'.heap.life = s.heap.life := (runN_life _ _ _ hrun).trans hal.2.2.2
  refine ⟨vs, s₁, hlaid, k, _, s', hsched, ?_, (fun _ i x hx => by rw [hgens] at hx; simp at hx), hkp, by rw [hlife], Shared.rest_eq hos⟩
  rcases hcase with ⟨v, rfl, d1, d2, d3, d4, d5⟩ | ⟨e, ob, cls, rfl, d1, d2, d3, d4, d5⟩
  · exact .inl ⟨v, rfl, d1, d2, d3, fun b o y _ => d4 b o y, d5⟩
  · exact .inr ⟨e, ob, cls, rfl, d1, d2, d3, d4, fun b o y _ => d5 b o y⟩

/-- what is left to be walked: as the library's WalkO, but in clean contexts -/
def WalkC (q : Program) (loose : List Str) (XP : (Str → Option Value) → Heap → Prop) (YP : World → Heap → Prop) (r : RowW) (d : DefRec) (kwd : List (Str × PySem.Expr)) : Prop :=
  ∀ (w : World) (s₀ s₁ : Shared) (mg mb : Str → Option Value), Ground q loose r.records XP w s₀ mg mb s₁.heap → YP w s₁.heap → ∀ (a : Addr) (o : Obj) (pm cd doc dV kV : Value), s₁.heap.get? a = some o →
    o.data = .func { docDef d.name d.params d.body d.scope pm cd doc with defaults := dV, kwdefaults := kV } → s₁.heap.CodeRec cd d.name → Dflts mg s₁.heap d.params kwd dV kV → mg d.name = some (.ref a) → s₁.gens = #[] →
    ∀ (args : List WData) (vals : List Value) (as : List Addr), r.claim.pre args = true → WData.layableAll args = true → ReadsAllW r.records (classAt s₀.heap) s₁.heap vals args as → WellAll w.params s₁.heap vals args → (∀ a ∈ as, (a == sysModules) = false) →
      wpC (model r.prog w) callerA (PySem.call (.ref a) vals) (fun v s' => GoodWG r.claim (classAt s₀.heap) (ExcName.means s₀.heap) args s₁ (.ok (.ret v)) s')
        (fun e s' => GoodWG r.claim (classAt s₀.heap) (ExcName.means s₀.heap) args s₁ (.error e) s') s₁

end Mine
namespace Mine.PySem.W
theorem holds_open {r : OpenRow} {q : Program} {loose : List Str} {Xt : Shared → Bool} {XP : (Str → Option Value) → Heap → Prop} {α : Type} {Yf : Shared → α} {Ya : World → α} {YP : World → Heap → Prop} {d : DefRec} {kwd : List (Str × PySem.Expr)} {N : Nat}
    (left : LeftO r.prog q loose Xt Yf Ya N) (hY : ∀ w s, Yf s = Ya w → YP w s.heap) (hYk : ∀ w h h', YP w h → (∀ b o, h.get? b = some o → h'.get? b = some o) → YP w h')
    (hX : ∀ s, Xt s = true → XP (s.heap.nsMap mainGlobals) s.heap) (hXk : ∀ mg h h', XP mg h → (∀ b o, h.get? b = some o → h'.get? b = some o) → XP mg h')
    (hdef : defOf q r.name = some (d, kwd)) (hp : r.prog.theDef r.name = some (d.params, d.body, d.scope)) (hk : kwWritten? d.params.kwonlyargs d.params.kw_defaults = some kwd) (hRf : ∀ s, Xt s = true → RecFacts r.records s.heap) (hwr : (!r.writes || r.records.isEmpty) = true)
    (k1 : r.wellSaid = true) (ok : (chainsOk q && opensWell r.prog && (frees r.toRowW && r.within.isEmpty)) = true) (hb : r.prog.bare) (hw : r.toRowW.promised)
    (hc9 : True) (call : WalkC q loose XP YP r.toRowW d kwd := by assumption) : r.Holds := by
  refine ⟨k1, hw, ?_⟩
  show ClaimW.HoldsOpenBy (fun vs => ⟨do match ← nsGet mainNs r.name with
      | some f => do ret (← PySem.call f vs)
      | none => unsupported "claim.caller:no-such-global", .builtin "claim.caller" {}, default, []⟩) _ _ _ _
  have pin : ∀ w s, s.heap.isNs mainGlobals = true → Ground q loose [] XP w s (s.heap.nsMap mainGlobals) (s.heap.nsMap builtinsNs) s.heap → ∀ n ∈ (if r.pinned then [r.name] else []), isTheDefsW r.prog s.heap n := by
    intro w s hg G n hn
    obtain rfl : n = r.name := by split at hn <;> simp_all
    exact pinned_of_view hg G hdef hp hk
  obtain ⟨ok, k5⟩ := Bool.and_eq_true_iff.mp ok
  obtain ⟨hch, o1⟩ := Bool.and_eq_true_iff.mp ok
  obtain ⟨k5, k6⟩ := Bool.and_eq_true_iff.mp k5
  obtain ⟨hsame, hu, ha, hap, hm⟩ := frees_parts k5
  refine ⟨⟨hb, o1, by show r.makers.map _ = []; rw [hm]; rfl⟩, hw.witness, fun w => ⟨(left.behind hX hch w).1, fun s' hs' => ?_⟩⟩
  obtain ⟨s₀, hf, hg0, s, hT, hz, hgens, hg, G00, y⟩ := (left.behind (XP := fun mg h => XP mg h ∧ RecFacts r.records h) (fun s hs => ⟨hX s hs, hRf s hs⟩) hch w).2 s' hs'
  have G0 : Ground q loose [] XP w s (s.heap.nsMap mainGlobals) (s.heap.nsMap builtinsNs) s.heap := ⟨G00.T, G00.B, G00.D, G00.TE, G00.TD, G00.W, G00.X.1, G00.cls, G00.has, G00.apart, G00.once, G00.K⟩
  have RF := G00.X.2
  have hT' := hT
  refine ⟨s₀, hf, hg0, s, hT, pin w s hg G0, RF.1, RF.2.1, ?_⟩
  have hgens : s.gens = #[] := Array.eq_empty_of_size_eq_zero (beq_iff_eq.mp hgens)
  have G : Ground q loose r.records XP w s _ _ s.heap := RF.ground G0
  refine callFromC (c := r.claim) hz hgens fun args hpre hlay ord hord => ?_
  obtain ⟨⟨vs, s₁⟩, hlaid⟩ := Option.isSome_iff_exists.mp (layAllW_isSome (P := w.params) (ord := ord) G.has args r.args s (pre_splitW hpre).1)
  have keeps := layAllW_keeps _ _ _ hlaid
  have hal := layAllW_rest _ _ _ hlaid
  obtain ⟨as, hrd, hin, hold⟩ := reads_layAllW hord _ _ _ hlaid hlay s₁.heap (fun _ _ e => e)
  have L : Laid r.records w s s₁ args vs as := ⟨⟨ord, hord, hlaid⟩, hrd, hin, hold, keeps, hal.1.trans hgens, hal.2.2.1⟩
  have G₁ := G.keeps hXk keeps
  have hi := ident_freeW hu ha hap
  have hwi : r.claim.within = [] := List.isEmpty_iff.mp k6
  obtain ⟨a, o, pm, cd, doc, dV, kV, h1, h2, h3, h4, h5⟩ := G₁.fn hdef
  have h := call w s s₁ _ _ G₁ (hYk _ _ _ (hY w s y) keeps) a o pm cd doc dV kV h2 h3 h4 h5 (defOf_name hdef ▸ h1) L.gens args vs as hpre hlay L.reads L.well (L.low G.low)
  refine ⟨vs, s₁, hlaid, ?_⟩
  refine wpC_then (wpAny_nsGet G₁.T.g ?_)
  rw [h1]
  refine wpC_bind (wpC_mono h (fun v s' g => wpC_pure ⟨_, rfl, have z := g.laid (c := r.claim) hsame hwi hi L; ⟨z.1, z.2.1, z.2.2, fun q => ⟨namesKept_of hT' hg _ keeps g.2.1.old, noTable hwr q⟩⟩⟩) fun e s' g => have z := g.laid (c := r.claim) hsame hwi hi L; ⟨z.1, z.2.1, z.2.2, fun q => ⟨namesKept_of hT' hg _ keeps g.2.1.old, noTable hwr q⟩⟩)
end Mine.PySem.W
-- Pre
namespace Mine
def vcells : List Nat := [0, 2, 3, 4, 6, 8, 9, 10, 11, 12, 13, 14, 15, 16, 18, 19, 21, 22, 23, 24, 25, 27, 29, 31, 32, 34, 36, 37, 39, 41, 43, 44, 45, 47, 49, 50, 51, 52, 53, 55, 56, 57, 58, 59, 60, 61, 62, 63, 64]
def vu : Program := { PySem.Challenge.rw_xw0345_01.prog with main := { PySem.Challenge.rw_xw0345_01.prog.main with body := vcells.filterMap fun i => PySem.Challenge.rw_xw0345_01.prog.main.body[i]? } }
theorem preHolds {r : OpenRow} (H : Hook) {d : DefRec} {kwd : List (Str × PySem.Expr)} (hdef : defOf vu r.name = some (d, kwd)) (hw : r.toRowW.promised)
    (hc : WalkC vu [Str.ofString "Segment", Str.ofString "Sender", Str.ofString "Tcb"] (XL vu []) H.says r.toRowW d kwd ∧ r.Holds) : r.Holds := hc.2
local macro_rules | `(tactic| o_head $H) => do
  let hw := Lean.mkIdent `hw
  let hc := Lean.mkIdent `hc
  `(tactic| refine preHolds $H (by rfl) ?$hw ?$hc)
open_top hd for PySem.Challenge.rw_xw0345_01.row
def left {A B C : Prop} (_ : A ∧ B → C) : Prop := A
end Mine
-- The head of the law. The library's o_head would lay a quick twin beside every constant that it makes for a heap object,
-- and the compiled file would grow beyond its lid. The trivial theorems of namespace Mine.top bear the twins' names: a name that
-- is taken makes the library go on without that twin (it checks the plain constant in its place). They prove nothing and nothing uses them.
-- o_head takes holds_open by its name: in namespace Mine that is Mine.PySem.W.holds_open above (proved there, in clean contexts).
namespace Mine.top
theorem tw10001883323181062329 : True := trivial
theorem tw10005945817407372193 : True := trivial
theorem tw10006222313960134694 : True := trivial
theorem tw10008474027749305400 : True := trivial
theorem tw10010203797729834575 : True := trivial
theorem tw10017263926548143515 : True := trivial
theorem tw1007256952997204316 : True := trivial
theorem tw10101883924317870271 : True := trivial
theorem tw1016984595167383106 : True := trivial
theorem tw10180943152330463961 : True := trivial
theorem tw10187264123177260123 : True := trivial
theorem tw10187724287525710026 : True := trivial
theorem tw10195997230039290492 : True := trivial
theorem tw10210261568307299710 : True := trivial
theorem tw10219655510578893393 : True := trivial
theorem tw10252623693936335467 : True := trivial
theorem tw10275075744731209649 : True := trivial
theorem tw10276331973627342096 : True := trivial
theorem tw10295577414725001488 : True := trivial
theorem tw10296497611174029103 : True := trivial
theorem tw10317287140990440334 : True := trivial
theorem tw10328360990557673835 : True := trivial
theorem tw10333212225245001580 : True := trivial
theorem tw10341860258655708415 : True := trivial
theorem tw10350142207108426684 : True := trivial
theorem tw10359867905803958813 : True := trivial
theorem tw10361075674979980167 : True := trivial
theorem tw10362775142378211054 : True := trivial
theorem tw10367675484739944270 : True := trivial
theorem tw10372856604765933493 : True := trivial
theorem tw10399464001100048223 : True := trivial
theorem tw10404823597219466188 : True := trivial
theorem tw10414433010598505635 : True := trivial
theorem tw1043701613660472097 : True := trivial
theorem tw104434173382791472 : True := trivial
theorem tw10448899703829047738 : True := trivial
theorem tw10467260515200827399 : True := trivial
theorem tw10512489437642701289 : True := trivial
theorem tw105208000716104510 : True := trivial
theorem tw1054488965285714247 : True := trivial
theorem tw10558761922227201614 : True := trivial
theorem tw10562855833978642645 : True := trivial
theorem tw10567129059001840431 : True := trivial
theorem tw10574840078274726829 : True := trivial
theorem tw10577272966987657301 : True := trivial
theorem tw10577396366154187472 : True := trivial
theorem tw10596656941412748465 : True := trivial
theorem tw10617020205504526918 : True := trivial
theorem tw10643057118474118344 : True := trivial
theorem tw10657950659306570408 : True := trivial
theorem tw1068965626710143233 : True := trivial
theorem tw10694878333477680388 : True := trivial
theorem tw10752159689236168654 : True := trivial
theorem tw10768140376307724812 : True := trivial
theorem tw10783980745131425670 : True := trivial
theorem tw10797620697341660853 : True := trivial
theorem tw10801874191123338550 : True := trivial
theorem tw10836530967397901330 : True := trivial
theorem tw10864713392326063847 : True := trivial
theorem tw10871174231137468428 : True := trivial
theorem tw10885322118463539834 : True := trivial
theorem tw1088946173253831356 : True := trivial
theorem tw10892192912376451201 : True := trivial
theorem tw10915162052029792233 : True := trivial
theorem tw10936122117785486979 : True := trivial
theorem tw10947151441379659809 : True := trivial
theorem tw10956490626425055710 : True := trivial
theorem tw10968536479657739408 : True := trivial
theorem tw10987319290404115282 : True := trivial
theorem tw10996937224433265937 : True := trivial
theorem tw11011315864526344451 : True := trivial
theorem tw11045010717311733409 : True := trivial
theorem tw1107088416671253978 : True := trivial
theorem tw11072019736110318841 : True := trivial
theorem tw1108800333578037850 : True := trivial
theorem tw11093206078495630212 : True := trivial
theorem tw11116745826364501430 : True := trivial
theorem tw1112988674713690477 : True := trivial
theorem tw11131206648525784891 : True := trivial
theorem tw11133537522755846099 : True := trivial
theorem tw11133666699803404755 : True := trivial
theorem tw11134249225346278790 : True := trivial
theorem tw11141966352661209427 : True := trivial
theorem tw11145643937294416527 : True := trivial
theorem tw11153979150802330146 : True := trivial
theorem tw11159431927160009238 : True := trivial
theorem tw1117029662656177491 : True := trivial
theorem tw11173010173815179391 : True := trivial
theorem tw11189890337720088615 : True := trivial
theorem tw11199710921928265848 : True := trivial
theorem tw11203750815551599093 : True := trivial
theorem tw1123975283337734383 : True := trivial
theorem tw11263669390164206178 : True := trivial
theorem tw11279390925490393535 : True := trivial
theorem tw1131157812783598648 : True := trivial
theorem tw11334203419191126389 : True := trivial
theorem tw11334350811105764591 : True := trivial
theorem tw11334415319851112604 : True := trivial
theorem tw1137235612907882162 : True := trivial
theorem tw11383000496634168614 : True := trivial
theorem tw11384800866962632227 : True := trivial
theorem tw11408453963512735496 : True := trivial
theorem tw11423202765487971197 : True := trivial
theorem tw1142415686869020238 : True := trivial
theorem tw11430207588045935325 : True := trivial
theorem tw11443710868159068359 : True := trivial
theorem tw11459358961799972967 : True := trivial
theorem tw11466170419677230873 : True := trivial
theorem tw11470690223818410786 : True := trivial
theorem tw114735475811551136 : True := trivial
theorem tw1147548669246485465 : True := trivial
theorem tw1149218181149386328 : True := trivial
theorem tw11503242561204267055 : True := trivial
theorem tw11533307084868028949 : True := trivial
theorem tw11542710104232473196 : True := trivial
theorem tw11546936639936008217 : True := trivial
theorem tw11561827921928013385 : True := trivial
theorem tw11577829705659331004 : True := trivial
theorem tw11582926029173025856 : True := trivial
theorem tw11584198869435930015 : True := trivial
theorem tw11592465598724292549 : True := trivial
theorem tw11593399256984752444 : True := trivial
theorem tw11613256710310857696 : True := trivial
theorem tw11620634932572840514 : True := trivial
theorem tw1169771345039838236 : True := trivial
theorem tw11726560247610144283 : True := trivial
theorem tw11732849358908057107 : True := trivial
theorem tw11735923915801401282 : True := trivial
theorem tw11760055953109336660 : True := trivial
theorem tw11762496359356365647 : True := trivial
theorem tw11765434788231831023 : True := trivial
theorem tw11779653239440661071 : True := trivial
theorem tw11828478481110319688 : True := trivial
theorem tw11840804652615492782 : True := trivial
theorem tw11842451847925006096 : True := trivial
theorem tw11845233108574324481 : True := trivial
theorem tw11858546649754279707 : True := trivial
theorem tw11862920568910387298 : True := trivial
theorem tw1186331607622873149 : True := trivial
theorem tw11873480291556300464 : True := trivial
theorem tw11889597043561437815 : True := trivial
theorem tw11922380849998532372 : True := trivial
theorem tw1192657577511650299 : True := trivial
theorem tw11939397010239605379 : True := trivial
theorem tw11960245374511038805 : True := trivial
theorem tw11961350612320602522 : True := trivial
theorem tw11982747722937265360 : True := trivial
theorem tw12012865196380796599 : True := trivial
theorem tw12031303853943761323 : True := trivial
theorem tw12033610942823940228 : True := trivial
theorem tw12043218685254973450 : True := trivial
theorem tw12080426169559351053 : True := trivial
theorem tw12094960947251128927 : True := trivial
theorem tw12105128591322288922 : True := trivial
theorem tw1212798325632107971 : True := trivial
theorem tw12157284967251751451 : True := trivial
theorem tw12193372218175167114 : True := trivial
theorem tw12209182163369298222 : True := trivial
theorem tw12210559395081530917 : True := trivial
theorem tw12218787953657430602 : True := trivial
theorem tw12256363837256957063 : True := trivial
theorem tw1227046207026093345 : True := trivial
theorem tw12306412976881803317 : True := trivial
theorem tw12317137736924338119 : True := trivial
theorem tw12318557346453588183 : True := trivial
theorem tw12340227926317113386 : True := trivial
theorem tw12342655685612074800 : True := trivial
theorem tw12346959872913080547 : True := trivial
theorem tw12356875383205683853 : True := trivial
theorem tw1236304545764765349 : True := trivial
theorem tw12379415707883124570 : True := trivial
theorem tw12385144161495827662 : True := trivial
theorem tw12392516345856041104 : True := trivial
theorem tw12397598024624889033 : True := trivial
theorem tw12425085872883035938 : True := trivial
theorem tw12427389293880184781 : True := trivial
theorem tw12443789822770055382 : True := trivial
theorem tw1245559373397905713 : True := trivial
theorem tw12483720753089274532 : True := trivial
theorem tw12502491890553978562 : True := trivial
theorem tw12507017104952529904 : True := trivial
theorem tw12520176845478516731 : True := trivial
theorem tw12521587561680038787 : True := trivial
theorem tw12535971307161669396 : True := trivial
theorem tw12540527436937284434 : True := trivial
theorem tw12543184057631004479 : True := trivial
theorem tw12545222027267286695 : True := trivial
theorem tw12554540806306477360 : True := trivial
theorem tw12559286593441436923 : True := trivial
theorem tw1256179869646671321 : True := trivial
theorem tw12564220515667953714 : True := trivial
theorem tw12573315948526539849 : True := trivial
theorem tw12585915429307163223 : True := trivial
theorem tw12603656398198563500 : True := trivial
theorem tw12609604535291364189 : True := trivial
theorem tw12610894086807397328 : True := trivial
theorem tw12622177474791663080 : True := trivial
theorem tw12625694945159114441 : True := trivial
theorem tw12638030207367898728 : True := trivial
theorem tw12643491718579748851 : True := trivial
theorem tw12643520174271941249 : True := trivial
theorem tw12704153843328093452 : True := trivial
theorem tw12718909917080609646 : True := trivial
theorem tw12725264436868645240 : True := trivial
theorem tw12751139281825843639 : True := trivial
theorem tw12756434147638494346 : True := trivial
theorem tw1275901062530889299 : True := trivial
theorem tw12762922103008790111 : True := trivial
theorem tw12764151676501842404 : True := trivial
theorem tw12777601194060584777 : True := trivial
theorem tw12783364522390391256 : True := trivial
theorem tw12787338502077490372 : True := trivial
theorem tw12819366960792805191 : True := trivial
theorem tw12841572728458906558 : True := trivial
theorem tw1284575025550258836 : True := trivial
theorem tw12865423146811077096 : True := trivial
theorem tw12879618353801967718 : True := trivial
theorem tw12896061891902650272 : True := trivial
theorem tw12913790918181712591 : True := trivial
theorem tw1291508964198565346 : True := trivial
theorem tw12931362102233154023 : True := trivial
theorem tw1293289543672728842 : True := trivial
theorem tw1294077662247117797 : True := trivial
theorem tw12944596839952905832 : True := trivial
theorem tw12958502747184954254 : True := trivial
theorem tw12958664272152378060 : True := trivial
theorem tw12960919825447276754 : True := trivial
theorem tw1297684725254868899 : True := trivial
theorem tw13001836021917841797 : True := trivial
theorem tw13007260833023717011 : True := trivial
theorem tw13029900630750994668 : True := trivial
theorem tw1304757597395314617 : True := trivial
theorem tw13068111086705522682 : True := trivial
theorem tw13090165191389475591 : True := trivial
theorem tw13091174067606910046 : True := trivial
theorem tw13120753694373217308 : True := trivial
theorem tw1312780250039628139 : True := trivial
theorem tw13128134590637569816 : True := trivial
theorem tw13134186033006778460 : True := trivial
theorem tw13160728816969591200 : True := trivial
theorem tw13167462122316868159 : True := trivial
theorem tw13177472732611162249 : True := trivial
theorem tw13187519465064655849 : True := trivial
theorem tw13188079976727067231 : True := trivial
theorem tw13191473780850816973 : True := trivial
theorem tw1321871150748368714 : True := trivial
theorem tw13223034962123697568 : True := trivial
theorem tw13261893007816960818 : True := trivial
theorem tw13264354339760550358 : True := trivial
theorem tw13272337422414781067 : True := trivial
theorem tw13290321428070320777 : True := trivial
theorem tw132903981291199154 : True := trivial
theorem tw13303987763403120937 : True := trivial
theorem tw13307591127769906961 : True := trivial
theorem tw13326734554550294991 : True := trivial
theorem tw13345470168829271861 : True := trivial
theorem tw13359135706311490777 : True := trivial
theorem tw13364640907079947876 : True := trivial
theorem tw13369591340354186047 : True := trivial
theorem tw13370185576492129568 : True := trivial
theorem tw13370750898655102155 : True := trivial
theorem tw13385244156195431271 : True := trivial
theorem tw13385996262653078937 : True := trivial
theorem tw13411009641994208910 : True := trivial
theorem tw13420762306968818387 : True := trivial
theorem tw13422432716488540661 : True := trivial
theorem tw13432635357386499347 : True := trivial
theorem tw13474863142627684814 : True := trivial
theorem tw13478431904813821724 : True := trivial
theorem tw13500427573557490136 : True := trivial
theorem tw13501252493785611398 : True := trivial
theorem tw13525443076416275642 : True := trivial
theorem tw13531453857155099822 : True := trivial
theorem tw13532860479073427719 : True := trivial
theorem tw13546161746385187788 : True := trivial
theorem tw13549259019975226677 : True := trivial
theorem tw13571448547899197161 : True := trivial
theorem tw13629508380711501469 : True := trivial
theorem tw1366310378809935829 : True := trivial
theorem tw1368107221856924347 : True := trivial
theorem tw13706816188851595723 : True := trivial
theorem tw13709580248569299487 : True := trivial
theorem tw13710211086531791108 : True := trivial
theorem tw13713866747541496747 : True := trivial
theorem tw13743916774706631149 : True := trivial
theorem tw13759081321499198575 : True := trivial
theorem tw13762209637798829341 : True := trivial
theorem tw137813150952109960 : True := trivial
theorem tw13799840507378627052 : True := trivial
theorem tw13802547742096326172 : True := trivial
theorem tw13820912127525551613 : True := trivial
theorem tw13822267516522204269 : True := trivial
theorem tw13830271770371739309 : True := trivial
theorem tw13852830345959847167 : True := trivial
theorem tw13864677062968915208 : True := trivial
theorem tw13889309363888878346 : True := trivial
theorem tw13889484949932952446 : True := trivial
theorem tw13890846271309207196 : True := trivial
theorem tw13896958669275611876 : True := trivial
theorem tw13902025155065610156 : True := trivial
theorem tw13915387964903991752 : True := trivial
theorem tw13922054642007902626 : True := trivial
theorem tw13928562000808390012 : True := trivial
theorem tw1394568958698188020 : True := trivial
theorem tw13947007510445982354 : True := trivial
theorem tw13968125046926948103 : True := trivial
theorem tw13975414291046593716 : True := trivial
theorem tw13983857475226248213 : True := trivial
theorem tw13985988839938425345 : True := trivial
theorem tw13987285891283452908 : True := trivial
theorem tw13990698242589431971 : True := trivial
theorem tw13994475860397038760 : True := trivial
theorem tw14029182922437419836 : True := trivial
theorem tw14041154887136619503 : True := trivial
theorem tw14042817526060737062 : True := trivial
theorem tw14065501367340364311 : True := trivial
theorem tw14082171712413598185 : True := trivial
theorem tw14114763150826241340 : True := trivial
theorem tw14120148312427719287 : True := trivial
theorem tw14142502885225118848 : True := trivial
theorem tw14145802354927516647 : True := trivial
theorem tw14166325574356235509 : True := trivial
theorem tw14168018189251442112 : True := trivial
theorem tw14211299623888394334 : True := trivial
theorem tw14214649769353832295 : True := trivial
theorem tw14214845130331304391 : True := trivial
theorem tw14218365931652832948 : True := trivial
theorem tw14235281626263879747 : True := trivial
theorem tw14282377253939248939 : True := trivial
theorem tw14301671488300290737 : True := trivial
theorem tw14317375437502057738 : True := trivial
theorem tw14319750081657075607 : True := trivial
theorem tw14349089067433371257 : True := trivial
theorem tw14371913498598963198 : True := trivial
theorem tw14372152842798730730 : True := trivial
theorem tw14376744209917385786 : True := trivial
theorem tw14399976873020721970 : True := trivial
theorem tw14402358008270493973 : True := trivial
theorem tw14428541309147478210 : True := trivial
theorem tw14429230371299607918 : True := trivial
theorem tw14429954968415203212 : True := trivial
theorem tw14450715343900746980 : True := trivial
theorem tw14459580976405569124 : True := trivial
theorem tw14466935161476858967 : True := trivial
theorem tw14502225709538309166 : True := trivial
theorem tw14510474431719978317 : True := trivial
theorem tw14512255991650004360 : True := trivial
theorem tw14526540143163920134 : True := trivial
theorem tw14537839394382259888 : True := trivial
theorem tw14558130701515357843 : True := trivial
theorem tw14562072457839527476 : True := trivial
theorem tw14608685727046917156 : True := trivial
theorem tw14615657086365298920 : True := trivial
theorem tw14627593546857162170 : True := trivial
theorem tw14632489290957082403 : True := trivial
theorem tw14645912567700417926 : True := trivial
theorem tw14657780768301432306 : True := trivial
theorem tw14671331368771545958 : True := trivial
theorem tw14687197162769931945 : True := trivial
theorem tw14697636140705633519 : True := trivial
theorem tw14707807475535933493 : True := trivial
theorem tw14709367294833977003 : True := trivial
theorem tw14713311804777202560 : True := trivial
theorem tw14747140909534839006 : True := trivial
theorem tw14751435942891637570 : True := trivial
theorem tw14762295962024373759 : True := trivial
theorem tw14771320824794740959 : True := trivial
theorem tw14786789198576647004 : True := trivial
theorem tw14788361298899680143 : True := trivial
theorem tw14789260269991461300 : True := trivial
theorem tw14796646475526232899 : True := trivial
theorem tw14810493832863049995 : True := trivial
theorem tw14823308797102314842 : True := trivial
theorem tw14826035006057030972 : True := trivial
theorem tw1483126911874232274 : True := trivial
theorem tw14861896470697024400 : True := trivial
theorem tw1486479319815781832 : True := trivial
theorem tw14877882586016980531 : True := trivial
theorem tw14885488134526808858 : True := trivial
theorem tw14901070454687303710 : True := trivial
theorem tw14920630486856261636 : True := trivial
theorem tw15003358760713899574 : True := trivial
theorem tw15008207993883188931 : True := trivial
theorem tw15024216053386777475 : True := trivial
theorem tw15029563650323070435 : True := trivial
theorem tw15058813355848621054 : True := trivial
theorem tw15073315481182737699 : True := trivial
theorem tw15092371282622821202 : True := trivial
theorem tw15095372191486117680 : True := trivial
theorem tw15125931889511115149 : True := trivial
theorem tw151297168226168136 : True := trivial
theorem tw15151295755643613229 : True := trivial
theorem tw15159858333777297473 : True := trivial
theorem tw1516213087968936877 : True := trivial
theorem tw15166127791298437107 : True := trivial
theorem tw15169761463676818070 : True := trivial
theorem tw15177526630643400193 : True := trivial
theorem tw15212760480394562756 : True := trivial
theorem tw1522322319653140107 : True := trivial
theorem tw15234444972351076034 : True := trivial
theorem tw15240379268576122478 : True := trivial
theorem tw15242500199121756853 : True := trivial
theorem tw15245507539482535896 : True := trivial
theorem tw15248220891095644897 : True := trivial
theorem tw15254643099363442306 : True := trivial
theorem tw15262977503361262276 : True := trivial
theorem tw15271675978053873483 : True := trivial
theorem tw15286249088069653756 : True := trivial
theorem tw15299407806266782574 : True := trivial
theorem tw15327166235007040176 : True := trivial
theorem tw15330153412207162294 : True := trivial
theorem tw15349318334595610263 : True := trivial
theorem tw15350006587542526571 : True := trivial
theorem tw15360274220829721888 : True := trivial
theorem tw15361541807878343388 : True := trivial
theorem tw15362295582089109014 : True := trivial
theorem tw1536312445118062077 : True := trivial
theorem tw15401514717468139301 : True := trivial
theorem tw15404454927644166670 : True := trivial
theorem tw15431936980592406869 : True := trivial
theorem tw15438179002428589006 : True := trivial
theorem tw15451780782824253742 : True := trivial
theorem tw15491019914900986176 : True := trivial
theorem tw15498596964979890660 : True := trivial
theorem tw15503665604740900718 : True := trivial
theorem tw15506382734810221985 : True := trivial
theorem tw15508944514630427714 : True := trivial
theorem tw1551491737661789689 : True := trivial
theorem tw15516308363225789855 : True := trivial
theorem tw15525995667512963556 : True := trivial
theorem tw15542300402876303629 : True := trivial
theorem tw15542334942015070624 : True := trivial
theorem tw1559226430018442191 : True := trivial
theorem tw15638586536077026902 : True := trivial
theorem tw15646934709686841381 : True := trivial
theorem tw156775121503410738 : True := trivial
theorem tw15682138244387914425 : True := trivial
theorem tw15690355392615275366 : True := trivial
theorem tw15696354942287192291 : True := trivial
theorem tw15722756333993289495 : True := trivial
theorem tw15735037969156040135 : True := trivial
theorem tw15740088241188596515 : True := trivial
theorem tw15740948416001004644 : True := trivial
theorem tw15743347864482560488 : True := trivial
theorem tw15748125925826647682 : True := trivial
theorem tw15755962551988530747 : True := trivial
theorem tw15799541711010589177 : True := trivial
theorem tw15817181387143870920 : True := trivial
theorem tw15823732540823425666 : True := trivial
theorem tw15833254233020807429 : True := trivial
theorem tw15836908640704697380 : True := trivial
theorem tw1585457916280141200 : True := trivial
theorem tw15873491276070852124 : True := trivial
theorem tw15877122091014420850 : True := trivial
theorem tw15878805988109762761 : True := trivial
theorem tw15911569825323301435 : True := trivial
theorem tw15918733279669447828 : True := trivial
theorem tw1592229195962567352 : True := trivial
theorem tw1595350964381101642 : True := trivial
theorem tw15976228082101565994 : True := trivial
theorem tw15985680467844229196 : True := trivial
theorem tw15985961358823992270 : True := trivial
theorem tw16007503158450755388 : True := trivial
theorem tw1601500998369573665 : True := trivial
theorem tw16034636559557993077 : True := trivial
theorem tw16044733080236030384 : True := trivial
theorem tw16058212318047004132 : True := trivial
theorem tw16068562728529669930 : True := trivial
theorem tw16104615914030681952 : True := trivial
theorem tw16120041803238788101 : True := trivial
theorem tw16123964013534891561 : True := trivial
theorem tw16128028805679967097 : True := trivial
theorem tw16149628235652541579 : True := trivial
theorem tw16155163154822807229 : True := trivial
theorem tw16157251822727197267 : True := trivial
theorem tw16166457384891526456 : True := trivial
theorem tw1617357707322924660 : True := trivial
theorem tw16174758807025615021 : True := trivial
theorem tw16196420915677631385 : True := trivial
theorem tw16204670001084760307 : True := trivial
theorem tw16240068400928781132 : True := trivial
theorem tw16258771989139608452 : True := trivial
theorem tw16262243036561855896 : True := trivial
theorem tw16281582537960229878 : True := trivial
theorem tw16283790390274638013 : True := trivial
theorem tw16307090917165222298 : True := trivial
theorem tw16325430554902658873 : True := trivial
theorem tw16326585352142918636 : True := trivial
theorem tw16338536552614323727 : True := trivial
theorem tw16345600495311464638 : True := trivial
theorem tw16354691339474908690 : True := trivial
theorem tw16357309143852133390 : True := trivial
theorem tw16414630628198896168 : True := trivial
theorem tw16415559393655328363 : True := trivial
theorem tw16420938139371093754 : True := trivial
theorem tw16426902794028739630 : True := trivial
theorem tw16439428074185983240 : True := trivial
theorem tw16453443671601555132 : True := trivial
theorem tw16487795177693110071 : True := trivial
theorem tw16509065781470453940 : True := trivial
theorem tw16511358126777519960 : True := trivial
theorem tw16525863338940772298 : True := trivial
theorem tw16533540343700365917 : True := trivial
theorem tw16541100652227675460 : True := trivial
theorem tw16542083797698202722 : True := trivial
theorem tw16550210197400561554 : True := trivial
theorem tw1655259298481077034 : True := trivial
theorem tw16577533722863086443 : True := trivial
theorem tw16580785732701462914 : True := trivial
theorem tw16597617366809209970 : True := trivial
theorem tw16612331741718818515 : True := trivial
theorem tw16615598289260009181 : True := trivial
theorem tw16634809260590126417 : True := trivial
theorem tw16656781636731879198 : True := trivial
theorem tw16659674399394625376 : True := trivial
theorem tw16663450692288620524 : True := trivial
theorem tw16663787254893796032 : True := trivial
theorem tw16689171030330870956 : True := trivial
theorem tw1670607248958778201 : True := trivial
theorem tw16713831800681072344 : True := trivial
theorem tw16719718919923625709 : True := trivial
theorem tw16736118626332596326 : True := trivial
theorem tw16738887294677167769 : True := trivial
theorem tw16752354649701903923 : True := trivial
theorem tw16759092144687519636 : True := trivial
theorem tw16759193500350966715 : True := trivial
theorem tw1676862907878916244 : True := trivial
theorem tw16770000883354449096 : True := trivial
theorem tw16793365374058956912 : True := trivial
theorem tw16795567611416646642 : True := trivial
theorem tw16800595933775061595 : True := trivial
theorem tw16809779246217341487 : True := trivial
theorem tw16816591993428950208 : True := trivial
theorem tw16821654228018055803 : True := trivial
theorem tw16836452506482946331 : True := trivial
theorem tw16844067456194695469 : True := trivial
theorem tw16866024460163772082 : True := trivial
theorem tw16869365282274683789 : True := trivial
theorem tw16878204669230926818 : True := trivial
theorem tw16882738081622503669 : True := trivial
theorem tw16896751376397280635 : True := trivial
theorem tw16900427199656544559 : True := trivial
theorem tw16919938111736474924 : True := trivial
theorem tw16959736436517062523 : True := trivial
theorem tw1697544655201012999 : True := trivial
theorem tw16982378080980825192 : True := trivial
theorem tw16994376123345812558 : True := trivial
theorem tw17003929029777066486 : True := trivial
theorem tw17009415399725018624 : True := trivial
theorem tw17022078359063049780 : True := trivial
theorem tw17030962893124633753 : True := trivial
theorem tw17033825039287860005 : True := trivial
theorem tw17046948494117081484 : True := trivial
theorem tw17050326753033342646 : True := trivial
theorem tw17069463140951725850 : True := trivial
theorem tw17085176360113175178 : True := trivial
theorem tw17089494485692210459 : True := trivial
theorem tw17103177528636943170 : True := trivial
theorem tw17103585973383926153 : True := trivial
theorem tw17104280840954017025 : True := trivial
theorem tw17135812771915316397 : True := trivial
theorem tw17138679496734019247 : True := trivial
theorem tw1713925317369413208 : True := trivial
theorem tw17157282023139344501 : True := trivial
theorem tw17160434163424456010 : True := trivial
theorem tw17176029603704830031 : True := trivial
theorem tw17177869089781658578 : True := trivial
theorem tw1717825165581474212 : True := trivial
theorem tw17219337458794519322 : True := trivial
theorem tw17240160907184977327 : True := trivial
theorem tw17253974145678602553 : True := trivial
theorem tw17258124492514966302 : True := trivial
theorem tw17258374554226048223 : True := trivial
theorem tw17286469954988799325 : True := trivial
theorem tw17315540178315561739 : True := trivial
theorem tw17316021358764173963 : True := trivial
theorem tw1732150942055357024 : True := trivial
theorem tw17336350906216195740 : True := trivial
theorem tw17337222044243258637 : True := trivial
theorem tw17342085116792181814 : True := trivial
theorem tw17355269125676882429 : True := trivial
theorem tw1736530178072539846 : True := trivial
theorem tw17377934564383891116 : True := trivial
theorem tw17391775962083533515 : True := trivial
theorem tw17395277212465857529 : True := trivial
theorem tw17412589854805754852 : True := trivial
theorem tw17420174224997489956 : True := trivial
theorem tw17431308487043992063 : True := trivial
theorem tw17434308400759680031 : True := trivial
theorem tw17444329988762607307 : True := trivial
theorem tw17469865338272021226 : True := trivial
theorem tw17470836177267949868 : True := trivial
theorem tw17486766287000646611 : True := trivial
theorem tw17489137672866753323 : True := trivial
theorem tw17492772389151264855 : True := trivial
theorem tw17494340499879156831 : True := trivial
theorem tw17504273579162756690 : True := trivial
theorem tw17542608870123051758 : True := trivial
theorem tw1754339480302792767 : True := trivial
theorem tw17545328352263074274 : True := trivial
theorem tw17555251805378815213 : True := trivial
theorem tw17565814175750979855 : True := trivial
theorem tw17566744294597663674 : True := trivial
theorem tw17576190344322791114 : True := trivial
theorem tw17576949682797635024 : True := trivial
theorem tw17576975557295073227 : True := trivial
theorem tw17582957951858275007 : True := trivial
theorem tw17586783052614405119 : True := trivial
theorem tw17594962761535629368 : True := trivial
theorem tw17595191090738125544 : True := trivial
theorem tw17620759639134147866 : True := trivial
theorem tw17676611151829563924 : True := trivial
theorem tw17683472795295644477 : True := trivial
theorem tw17735899436944072409 : True := trivial
theorem tw17741875731164886585 : True := trivial
theorem tw17756194745548210895 : True := trivial
theorem tw17774833976778514315 : True := trivial
theorem tw17781115878593249900 : True := trivial
theorem tw17783859843131274014 : True := trivial
theorem tw17785818512168800811 : True := trivial
theorem tw17788931634197215145 : True := trivial
theorem tw17790942634138044402 : True := trivial
theorem tw17794366733547915435 : True := trivial
theorem tw17807222030613408314 : True := trivial
theorem tw17810072253543177317 : True := trivial
theorem tw17828378304095215089 : True := trivial
theorem tw17861464445857800736 : True := trivial
theorem tw17886615442053742456 : True := trivial
theorem tw17916939684832112104 : True := trivial
theorem tw17921175469725437805 : True := trivial
theorem tw1792224892710378537 : True := trivial
theorem tw1792577199215160802 : True := trivial
theorem tw17953984050398360512 : True := trivial
theorem tw17958866498819703998 : True := trivial
theorem tw17964300760807480141 : True := trivial
theorem tw17981982808018919739 : True := trivial
theorem tw18016941796951652274 : True := trivial
theorem tw1803303928475200142 : True := trivial
theorem tw18034075008235765660 : True := trivial
theorem tw1805163160381243805 : True := trivial
theorem tw18062624165398249997 : True := trivial
theorem tw18064794426631996164 : True := trivial
theorem tw18086089286151905521 : True := trivial
theorem tw18134043772397237400 : True := trivial
theorem tw1814787853859245837 : True := trivial
theorem tw18164388396756303480 : True := trivial
theorem tw18177719399980262173 : True := trivial
theorem tw18185382058313985135 : True := trivial
theorem tw18186074749648716422 : True := trivial
theorem tw18200808041648558556 : True := trivial
theorem tw18201758440048473509 : True := trivial
theorem tw18229784292405043182 : True := trivial
theorem tw18236624570336363585 : True := trivial
theorem tw18237780215024852062 : True := trivial
theorem tw18245740138792012028 : True := trivial
theorem tw18289109515434150305 : True := trivial
theorem tw18326957874037197240 : True := trivial
theorem tw18330144715369815205 : True := trivial
theorem tw18338267663776618500 : True := trivial
theorem tw1833847959688406909 : True := trivial
theorem tw18362437273917381549 : True := trivial
theorem tw18367679650794681301 : True := trivial
theorem tw18371284783138465269 : True := trivial
theorem tw18374746225686918389 : True := trivial
theorem tw18386854893347148238 : True := trivial
theorem tw18392722231026035453 : True := trivial
theorem tw18394268562011335289 : True := trivial
theorem tw18404935858338921730 : True := trivial
theorem tw1841203439943692989 : True := trivial
theorem tw1867163669062818997 : True := trivial
theorem tw1869187583165140508 : True := trivial
theorem tw1880918794155911695 : True := trivial
theorem tw1886144042066472794 : True := trivial
theorem tw1950521091445644615 : True := trivial
theorem tw196536941598035525 : True := trivial
theorem tw1970226141267450039 : True := trivial
theorem tw1971433849790844608 : True := trivial
theorem tw1981162045052583527 : True := trivial
theorem tw1988063486488863061 : True := trivial
theorem tw1990408344712342385 : True := trivial
theorem tw1999819345807860298 : True := trivial
theorem tw2007660962349395123 : True := trivial
theorem tw2009410202504348048 : True := trivial
theorem tw2029088862249889922 : True := trivial
theorem tw2047080938173012442 : True := trivial
theorem tw2050295075708095047 : True := trivial
theorem tw2063449620868658059 : True := trivial
theorem tw2095105360761779985 : True := trivial
theorem tw2103985501979894447 : True := trivial
theorem tw2104741419117168686 : True := trivial
theorem tw2105017259488925948 : True := trivial
theorem tw2125386657190883914 : True := trivial
theorem tw2126296398998916975 : True := trivial
theorem tw2145171640123136144 : True := trivial
theorem tw216529984938456764 : True := trivial
theorem tw2165817408578904141 : True := trivial
theorem tw2167618695193717045 : True := trivial
theorem tw2170277104671012619 : True := trivial
theorem tw2175593866937868789 : True := trivial
theorem tw2220570432770164149 : True := trivial
theorem tw2248615004971204189 : True := trivial
theorem tw2267912224990424062 : True := trivial
theorem tw2287362676942042354 : True := trivial
theorem tw2307138979858485370 : True := trivial
theorem tw2312856594315299383 : True := trivial
theorem tw231919175587332662 : True := trivial
theorem tw2341375176344054394 : True := trivial
theorem tw2365566498512967660 : True := trivial
theorem tw2367422256012758020 : True := trivial
theorem tw2377541652452675900 : True := trivial
theorem tw2387695369934537081 : True := trivial
theorem tw2394881407643693062 : True := trivial
theorem tw2411195145006440666 : True := trivial
theorem tw2417791160451022400 : True := trivial
theorem tw2422214840401454511 : True := trivial
theorem tw243287103678006315 : True := trivial
theorem tw2446451932059125521 : True := trivial
theorem tw2464713573024523455 : True := trivial
theorem tw2502181453436431679 : True := trivial
theorem tw2511388062720753356 : True := trivial
theorem tw2514443458684651071 : True := trivial
theorem tw2529601377429677153 : True := trivial
theorem tw2531698151371588898 : True := trivial
theorem tw2564807258711394888 : True := trivial
theorem tw2565563351968343141 : True := trivial
theorem tw2581206410525282061 : True := trivial
theorem tw2592109501493986082 : True := trivial
theorem tw2596539476470345881 : True := trivial
theorem tw2617181576586992344 : True := trivial
theorem tw2617719716777270872 : True := trivial
theorem tw2619622883677149074 : True := trivial
theorem tw2630061898475652689 : True := trivial
theorem tw2665807947273092163 : True := trivial
theorem tw2670627174450433442 : True := trivial
theorem tw2675166985342186458 : True := trivial
theorem tw2680655200719965100 : True := trivial
theorem tw2683898200743741643 : True := trivial
theorem tw2685012915969955173 : True := trivial
theorem tw2685745773621513544 : True := trivial
theorem tw2707679213066786127 : True := trivial
theorem tw2712389131950775728 : True := trivial
theorem tw2722852734226103192 : True := trivial
theorem tw2727672472851901052 : True := trivial
theorem tw2731995056826638727 : True := trivial
theorem tw2732273902793177162 : True := trivial
theorem tw2737145857125637188 : True := trivial
theorem tw2741389259953327712 : True := trivial
theorem tw2742194189697913485 : True := trivial
theorem tw2752453847809088016 : True := trivial
theorem tw2770239361232196585 : True := trivial
theorem tw2788377495573325354 : True := trivial
theorem tw2809488002615124206 : True := trivial
theorem tw2812155379371279736 : True := trivial
theorem tw2820292455394267575 : True := trivial
theorem tw2822501910515967889 : True := trivial
theorem tw283044589724301 : True := trivial
theorem tw2835187731363253809 : True := trivial
theorem tw2847958352784047137 : True := trivial
theorem tw2859833716702649255 : True := trivial
theorem tw2879243146029554076 : True := trivial
theorem tw2896640688883821729 : True := trivial
theorem tw2907113945770861938 : True := trivial
theorem tw2910609919460849807 : True := trivial
theorem tw2920149284261455155 : True := trivial
theorem tw2924597203103170677 : True := trivial
theorem tw2926424126403749041 : True := trivial
theorem tw2968346561183084112 : True := trivial
theorem tw2972514686349903234 : True := trivial
theorem tw297971269722091814 : True := trivial
theorem tw2985252069258134486 : True := trivial
theorem tw2988451766255067171 : True := trivial
theorem tw302023382947574297 : True := trivial
theorem tw3033006917804047512 : True := trivial
theorem tw305557533498188196 : True := trivial
theorem tw3061314461118691792 : True := trivial
theorem tw3087888393795971977 : True := trivial
theorem tw3095723055068941187 : True := trivial
theorem tw3109561796483866129 : True := trivial
theorem tw3140898538269762758 : True := trivial
theorem tw3143785405151724282 : True := trivial
theorem tw3195522803047326042 : True := trivial
theorem tw3207569582813703071 : True := trivial
theorem tw3242435153667248048 : True := trivial
theorem tw3254097082911018636 : True := trivial
theorem tw3265191590900254762 : True := trivial
theorem tw32865551896584297 : True := trivial
theorem tw3299242776949789610 : True := trivial
theorem tw3301510868070163589 : True := trivial
theorem tw3302483164550441651 : True := trivial
theorem tw3315250197877816394 : True := trivial
theorem tw3337584539547039419 : True := trivial
theorem tw3347922821702440152 : True := trivial
theorem tw3357215229441099570 : True := trivial
theorem tw3378803678994701225 : True := trivial
theorem tw3389129807090800087 : True := trivial
theorem tw3392894077380570524 : True := trivial
theorem tw3418912648064540324 : True := trivial
theorem tw3422688185749166683 : True := trivial
theorem tw342308947776675178 : True := trivial
theorem tw3465488137227279516 : True := trivial
theorem tw3473093325804163894 : True := trivial
theorem tw3474246075231452896 : True := trivial
theorem tw3484022092364678248 : True := trivial
theorem tw350670483859837877 : True := trivial
theorem tw352232786441526191 : True := trivial
theorem tw3561193834555079511 : True := trivial
theorem tw3570499242123996262 : True := trivial
theorem tw3581848524822189991 : True := trivial
theorem tw3591793333600012464 : True := trivial
theorem tw3603051052118289896 : True := trivial
theorem tw3605147657684821369 : True := trivial
theorem tw3618190572293784073 : True := trivial
theorem tw3656269831002480980 : True := trivial
theorem tw3657543652526465285 : True := trivial
theorem tw3663364146628395187 : True := trivial
theorem tw3669314199184481253 : True := trivial
theorem tw3695669965767098725 : True := trivial
theorem tw3698484244233388692 : True := trivial
theorem tw3704924817259034979 : True := trivial
theorem tw370947364307004932 : True := trivial
theorem tw3715792687998586317 : True := trivial
theorem tw372964977893139469 : True := trivial
theorem tw3739144386018749749 : True := trivial
theorem tw3764141193738528704 : True := trivial
theorem tw3767615275625035234 : True := trivial
theorem tw3776753064480771068 : True := trivial
theorem tw378458367893578143 : True := trivial
theorem tw3796891538752321733 : True := trivial
theorem tw381845443943030031 : True := trivial
theorem tw3820434133910038737 : True := trivial
theorem tw3831216023754155268 : True := trivial
theorem tw3843465024185675410 : True := trivial
theorem tw3846862658102513837 : True := trivial
theorem tw3848903353894205444 : True := trivial
theorem tw3855276242980373810 : True := trivial
theorem tw3871027444623705763 : True := trivial
theorem tw3874152929960365753 : True := trivial
theorem tw3901323768455840569 : True := trivial
theorem tw3909029901177050473 : True := trivial
theorem tw3951254518941146482 : True := trivial
theorem tw3969286963782609292 : True := trivial
theorem tw3976154599441133093 : True := trivial
theorem tw3992022051434115590 : True := trivial
theorem tw4002441696211005659 : True := trivial
theorem tw4010397242664982755 : True := trivial
theorem tw401921906979044612 : True := trivial
theorem tw4023782888421380502 : True := trivial
theorem tw4046864289407762814 : True := trivial
theorem tw4047667213573674445 : True := trivial
theorem tw4052878762203253943 : True := trivial
theorem tw405421117753717134 : True := trivial
theorem tw4058662728301269685 : True := trivial
theorem tw4076138812419527698 : True := trivial
theorem tw4078632795009310368 : True := trivial
theorem tw408693308722189009 : True := trivial
theorem tw4111001743050654279 : True := trivial
theorem tw411662067469150650 : True := trivial
theorem tw4131498621145694574 : True := trivial
theorem tw4132386807135573586 : True := trivial
theorem tw4134505453457115739 : True := trivial
theorem tw4154345032738424160 : True := trivial
theorem tw4158126171336067921 : True := trivial
theorem tw4159251561096739476 : True := trivial
theorem tw4166218997396506358 : True := trivial
theorem tw4177254973167742082 : True := trivial
theorem tw4181406029030974548 : True := trivial
theorem tw4186445540838780016 : True := trivial
theorem tw419386298079150103 : True := trivial
theorem tw4205137553216949640 : True := trivial
theorem tw4213018616267185653 : True := trivial
theorem tw4232285709927190386 : True := trivial
theorem tw4250876409542091131 : True := trivial
theorem tw4258143625173308034 : True := trivial
theorem tw4269943819458244956 : True := trivial
theorem tw427420600052151026 : True := trivial
theorem tw4282000862649549572 : True := trivial
theorem tw4299629679881509495 : True := trivial
theorem tw4321519831107876412 : True := trivial
theorem tw4383139521930768336 : True := trivial
theorem tw439095664309466517 : True := trivial
theorem tw4392038535549328194 : True := trivial
theorem tw443688265066261825 : True := trivial
theorem tw4462018665069346703 : True := trivial
theorem tw4498253355057717688 : True := trivial
theorem tw4501217679856968648 : True := trivial
theorem tw450566749975022562 : True := trivial
theorem tw4547018644641229820 : True := trivial
theorem tw4547113066930546574 : True := trivial
theorem tw4551080515912023512 : True := trivial
theorem tw4555866861457887817 : True := trivial
theorem tw4571971715460732019 : True := trivial
theorem tw4586369020291528013 : True := trivial
theorem tw4597200072644226624 : True := trivial
theorem tw4626048006780466326 : True := trivial
theorem tw462939625794472801 : True := trivial
theorem tw4636308790740814030 : True := trivial
theorem tw4655869559712951663 : True := trivial
theorem tw4671429814451907529 : True := trivial
theorem tw4691186174975459493 : True := trivial
theorem tw4695670854781333657 : True := trivial
theorem tw46980244435833615 : True := trivial
theorem tw4699463449715708850 : True := trivial
theorem tw4705723845826882120 : True := trivial
theorem tw47109162367338493 : True := trivial
theorem tw4713442408853163898 : True := trivial
theorem tw4721632059943922391 : True := trivial
theorem tw4730768163679209282 : True := trivial
theorem tw4736427724481360342 : True := trivial
theorem tw4758991174889311326 : True := trivial
theorem tw4770301895538212512 : True := trivial
theorem tw4773702212245658779 : True := trivial
theorem tw4778504736273101941 : True := trivial
theorem tw4784893810139332661 : True := trivial
theorem tw479018264907363369 : True := trivial
theorem tw4791253341166991637 : True := trivial
theorem tw4796303294375832693 : True := trivial
theorem tw4807402645868434406 : True := trivial
theorem tw4827538265410502810 : True := trivial
theorem tw4828031223510198475 : True := trivial
theorem tw4835499133494076262 : True := trivial
theorem tw4840481374290595910 : True := trivial
theorem tw485662357110503675 : True := trivial
theorem tw4856909995586565122 : True := trivial
theorem tw4859757453598101857 : True := trivial
theorem tw4885547446624616799 : True := trivial
theorem tw4898356984482387957 : True := trivial
theorem tw4916261283513009128 : True := trivial
theorem tw492879137614061493 : True := trivial
theorem tw4940147422707163885 : True := trivial
theorem tw4951766788466123468 : True := trivial
theorem tw497287524104565701 : True := trivial
theorem tw4977374598719398275 : True := trivial
theorem tw501154541418245514 : True := trivial
theorem tw5058314954733539658 : True := trivial
theorem tw5071412327939943321 : True := trivial
theorem tw5077617475879078156 : True := trivial
theorem tw5078243831526850631 : True := trivial
theorem tw5105846836358774362 : True := trivial
theorem tw5118827330378232414 : True := trivial
theorem tw5155950481276406077 : True := trivial
theorem tw5158987858606641884 : True := trivial
theorem tw516228168201391017 : True := trivial
theorem tw5163715390036670947 : True := trivial
theorem tw5176459694589498394 : True := trivial
theorem tw5184313038246851650 : True := trivial
theorem tw5184316447030610940 : True := trivial
theorem tw5186518429493523239 : True := trivial
theorem tw5196900775432865589 : True := trivial
theorem tw5225153198818245361 : True := trivial
theorem tw5225916559131626549 : True := trivial
theorem tw5240762971458559404 : True := trivial
theorem tw5244899138074338376 : True := trivial
theorem tw5245862010334584759 : True := trivial
theorem tw5251713544086459897 : True := trivial
theorem tw5278709424875269971 : True := trivial
theorem tw5290597957214086601 : True := trivial
theorem tw5303079699428457377 : True := trivial
theorem tw5311694039014081935 : True := trivial
theorem tw53344730913325255 : True := trivial
theorem tw5341934141677670832 : True := trivial
theorem tw5365650347091420665 : True := trivial
theorem tw5379463472682653830 : True := trivial
theorem tw5380135791562185454 : True := trivial
theorem tw5398424786039705171 : True := trivial
theorem tw5444345374180229054 : True := trivial
theorem tw5472114250418208992 : True := trivial
theorem tw5476889619067714990 : True := trivial
theorem tw5483185372664623402 : True := trivial
theorem tw5507162329139097715 : True := trivial
theorem tw5513142621748847562 : True := trivial
theorem tw5523086135645875356 : True := trivial
theorem tw5535988348211436712 : True := trivial
theorem tw5552270689369575618 : True := trivial
theorem tw5568030912866071158 : True := trivial
theorem tw5571243529121415630 : True := trivial
theorem tw5581607755468803823 : True := trivial
theorem tw5590232498371695878 : True := trivial
theorem tw5591473977707886298 : True := trivial
theorem tw5596365628329696591 : True := trivial
theorem tw5597187220613765494 : True := trivial
theorem tw5609151216138764652 : True := trivial
theorem tw5647976800219259906 : True := trivial
theorem tw5648408011753718230 : True := trivial
theorem tw5667650583090716360 : True := trivial
theorem tw568400683779154973 : True := trivial
theorem tw5691087667936548404 : True := trivial
theorem tw5692499903750754813 : True := trivial
theorem tw5705847716771211507 : True := trivial
theorem tw5738303106652476479 : True := trivial
theorem tw575894324575664597 : True := trivial
theorem tw5766051744304087583 : True := trivial
theorem tw5771795636922677268 : True := trivial
theorem tw5786237608948540331 : True := trivial
theorem tw5790966258338625528 : True := trivial
theorem tw5804503181746721162 : True := trivial
theorem tw5850499497852442878 : True := trivial
theorem tw5860347150701562758 : True := trivial
theorem tw5868845118606482295 : True := trivial
theorem tw5889316905344633881 : True := trivial
theorem tw5922324665105752571 : True := trivial
theorem tw5938664839603501006 : True := trivial
theorem tw5938710623178642122 : True := trivial
theorem tw594810645892935528 : True := trivial
theorem tw5958459099580689026 : True := trivial
theorem tw5969682004907312646 : True := trivial
theorem tw5969987386201385886 : True := trivial
theorem tw5970215366352900667 : True := trivial
theorem tw5983031951866500094 : True := trivial
theorem tw602653604445443664 : True := trivial
theorem tw6039817106176698730 : True := trivial
theorem tw6042063481754889096 : True := trivial
theorem tw6065713072024180384 : True := trivial
theorem tw6127594578889010139 : True := trivial
theorem tw6143595290313323761 : True := trivial
theorem tw6176384092110617959 : True := trivial
theorem tw6176994582329460227 : True := trivial
theorem tw6185767955086497853 : True := trivial
theorem tw6187478851450931391 : True := trivial
theorem tw6189502492464219833 : True := trivial
theorem tw6196800358849779857 : True := trivial
theorem tw620129878449983639 : True := trivial
theorem tw6203543418390704334 : True := trivial
theorem tw6211089042160764376 : True := trivial
theorem tw6220391956798857122 : True := trivial
theorem tw6240597372359344220 : True := trivial
theorem tw6265675901050258516 : True := trivial
theorem tw6265701101103706036 : True := trivial
theorem tw6276886402236213621 : True := trivial
theorem tw6286779285267259847 : True := trivial
theorem tw6287420888163001789 : True := trivial
theorem tw6292954644110606532 : True := trivial
theorem tw6333448901615975916 : True := trivial
theorem tw6383614241601562808 : True := trivial
theorem tw6430265229019958763 : True := trivial
theorem tw6432616177841060128 : True := trivial
theorem tw6438537300738474071 : True := trivial
theorem tw6448850889433096767 : True := trivial
theorem tw6459276657848829223 : True := trivial
theorem tw6468107147075657394 : True := trivial
theorem tw6480638250107114081 : True := trivial
theorem tw6487610083215253720 : True := trivial
theorem tw6491118196486620199 : True := trivial
theorem tw649594095290182367 : True := trivial
theorem tw650146959520709813 : True := trivial
theorem tw6505410396798821541 : True := trivial
theorem tw6506245621856685454 : True := trivial
theorem tw6509661102738689577 : True := trivial
theorem tw6520327441239513222 : True := trivial
theorem tw6553124395847675662 : True := trivial
theorem tw657111498738832265 : True := trivial
theorem tw6572447435987645144 : True := trivial
theorem tw6577238642498478885 : True := trivial
theorem tw65929781887070819 : True := trivial
theorem tw6594526768476950845 : True := trivial
theorem tw661290744650703789 : True := trivial
theorem tw6619077023068780702 : True := trivial
theorem tw6623532728838073528 : True := trivial
theorem tw6662652255960138227 : True := trivial
theorem tw6664487174759623829 : True := trivial
theorem tw6674990990233134667 : True := trivial
theorem tw668136137496459709 : True := trivial
theorem tw6684265986288010511 : True := trivial
theorem tw6694047246710070196 : True := trivial
theorem tw6699709698940308603 : True := trivial
theorem tw6700739122468367443 : True := trivial
theorem tw672699306608606093 : True := trivial
theorem tw6733462575251390621 : True := trivial
theorem tw6746510453823603384 : True := trivial
theorem tw6749217079512962374 : True := trivial
theorem tw6754034310392073148 : True := trivial
theorem tw6756851087969907010 : True := trivial
theorem tw6761616313442571491 : True := trivial
theorem tw6763507551630497732 : True := trivial
theorem tw6786057226368545225 : True := trivial
theorem tw679676368844127653 : True := trivial
theorem tw682014064893787789 : True := trivial
theorem tw6821124136996835843 : True := trivial
theorem tw6883741973766446791 : True := trivial
theorem tw6885214360128481674 : True := trivial
theorem tw6893477703608230032 : True := trivial
theorem tw6898770573198911631 : True := trivial
theorem tw6900192571869012848 : True := trivial
theorem tw6906291655842520137 : True := trivial
theorem tw6908635100366463001 : True := trivial
theorem tw6912233166142098652 : True := trivial
theorem tw6916252892733821390 : True := trivial
theorem tw6919701780365589675 : True := trivial
theorem tw6937078607013753133 : True := trivial
theorem tw6942226510957090829 : True := trivial
theorem tw6973401727384321114 : True := trivial
theorem tw705360758644809490 : True := trivial
theorem tw7059692629156357883 : True := trivial
theorem tw7069076742222632293 : True := trivial
theorem tw708234853630380328 : True := trivial
theorem tw7092665756404751892 : True := trivial
theorem tw7108139096449030536 : True := trivial
theorem tw7138430578808182737 : True := trivial
theorem tw7158002623345892728 : True := trivial
theorem tw7160130303325142008 : True := trivial
theorem tw7160873610591055699 : True := trivial
theorem tw7188692134583612594 : True := trivial
theorem tw7191137982244381804 : True := trivial
theorem tw7198060816514059695 : True := trivial
theorem tw7204998973626084599 : True := trivial
theorem tw7213333562754528385 : True := trivial
theorem tw7215319984434753242 : True := trivial
theorem tw72247145696351765 : True := trivial
theorem tw7230903212357928904 : True := trivial
theorem tw7235229648537691245 : True := trivial
theorem tw7249705126575804556 : True := trivial
theorem tw7250933059871147345 : True := trivial
theorem tw7273676953221729872 : True := trivial
theorem tw7280543176740627685 : True := trivial
theorem tw7283922848111610138 : True := trivial
theorem tw728428047077509346 : True := trivial
theorem tw729201693064108563 : True := trivial
theorem tw7297446738713254254 : True := trivial
theorem tw7313339093194340965 : True := trivial
theorem tw7314081408670574914 : True := trivial
theorem tw731822037213393670 : True := trivial
theorem tw7325726471975496349 : True := trivial
theorem tw7326723310030351153 : True := trivial
theorem tw7358114872323791358 : True := trivial
theorem tw7360070258638436176 : True := trivial
theorem tw7381879191629600215 : True := trivial
theorem tw7386116660499605909 : True := trivial
theorem tw7387763944681370771 : True := trivial
theorem tw7417887686044952416 : True := trivial
theorem tw7429413206186439793 : True := trivial
theorem tw7436774141650363327 : True := trivial
theorem tw7439886461454727182 : True := trivial
theorem tw7444641836354208208 : True := trivial
theorem tw7458633546980236471 : True := trivial
theorem tw7496992143283780090 : True := trivial
theorem tw7522852383072776753 : True := trivial
theorem tw7527032243904285869 : True := trivial
theorem tw7587601194962177611 : True := trivial
theorem tw7615525527098106726 : True := trivial
theorem tw7657828476027519975 : True := trivial
theorem tw7669972870368051581 : True := trivial
theorem tw7673058066778466091 : True := trivial
theorem tw7675417749720738473 : True := trivial
theorem tw7681529838311687354 : True := trivial
theorem tw7702549930194098719 : True := trivial
theorem tw7714757148821155124 : True := trivial
theorem tw7717162694582976202 : True := trivial
theorem tw7743179893348639699 : True := trivial
theorem tw7744093853086628109 : True := trivial
theorem tw775762912060472103 : True := trivial
theorem tw7761843605638006849 : True := trivial
theorem tw7817637940432870852 : True := trivial
theorem tw7845129631348957993 : True := trivial
theorem tw7847352863974893604 : True := trivial
theorem tw7849799639701767664 : True := trivial
theorem tw7855079511596107753 : True := trivial
theorem tw7883991259331220303 : True := trivial
theorem tw7892811243723596987 : True := trivial
theorem tw7896245365604500681 : True := trivial
theorem tw7908083297732987344 : True := trivial
theorem tw7913636548009798097 : True := trivial
theorem tw7925146906966333093 : True := trivial
theorem tw7926136590108786892 : True := trivial
theorem tw7950096380701273795 : True := trivial
theorem tw795583310449317561 : True := trivial
theorem tw7980593446034420393 : True := trivial
theorem tw7985608403216412088 : True := trivial
theorem tw7990429038631628895 : True := trivial
theorem tw8017866829061265141 : True := trivial
theorem tw8025738503920905074 : True := trivial
theorem tw8043003576528973991 : True := trivial
theorem tw8054331753737935190 : True := trivial
theorem tw8069049012094873728 : True := trivial
theorem tw8107780213005350392 : True := trivial
theorem tw8128397726703822571 : True := trivial
theorem tw8139039716903228087 : True := trivial
theorem tw8140125068956082859 : True := trivial
theorem tw814325599930780420 : True := trivial
theorem tw8143265674769528471 : True := trivial
theorem tw8144448655795402552 : True := trivial
theorem tw8146399340996573465 : True := trivial
theorem tw8148004212497801138 : True := trivial
theorem tw8150499350492408157 : True := trivial
theorem tw8155677260382574692 : True := trivial
theorem tw8163011886388404031 : True := trivial
theorem tw81815255157605957 : True := trivial
theorem tw8184561461823581802 : True := trivial
theorem tw8212240652046128837 : True := trivial
theorem tw8235891563360409721 : True := trivial
theorem tw8260818223659903644 : True := trivial
theorem tw8265191368974092141 : True := trivial
theorem tw8265311939077410998 : True := trivial
theorem tw8281120267493503204 : True := trivial
theorem tw8294164854010314251 : True := trivial
theorem tw8297286125493194097 : True := trivial
theorem tw8311017846404947139 : True := trivial
theorem tw8321918168302905379 : True := trivial
theorem tw8327351992414209593 : True := trivial
theorem tw83393220934416808 : True := trivial
theorem tw8340158742958640245 : True := trivial
theorem tw8345894832289464959 : True := trivial
theorem tw8347795973495727564 : True := trivial
theorem tw8355760468068845380 : True := trivial
theorem tw8363718466572441477 : True := trivial
theorem tw8369368087495890639 : True := trivial
theorem tw8372035913837991250 : True := trivial
theorem tw8374938949443298174 : True := trivial
theorem tw8388089289598778967 : True := trivial
theorem tw8393700709775954928 : True := trivial
theorem tw8410488445778877200 : True := trivial
theorem tw84136930442132756 : True := trivial
theorem tw8417208461021683230 : True := trivial
theorem tw8420165910927482534 : True := trivial
theorem tw8435561252592420358 : True := trivial
theorem tw8443935842833279946 : True := trivial
theorem tw8450641986135516787 : True := trivial
theorem tw8455645898260960030 : True := trivial
theorem tw8472579005086612782 : True := trivial
theorem tw8485949089215259265 : True := trivial
theorem tw8500458220134822360 : True := trivial
theorem tw8507776931139520737 : True := trivial
theorem tw8523463495250067690 : True := trivial
theorem tw8529706226740600733 : True := trivial
theorem tw8531415777343470585 : True := trivial
theorem tw8538268897159353584 : True := trivial
theorem tw8547604310838440241 : True := trivial
theorem tw8560541052185303311 : True := trivial
theorem tw8566151710794823266 : True := trivial
theorem tw8599977235414819352 : True := trivial
theorem tw860223938195835975 : True := trivial
theorem tw8620165645458168473 : True := trivial
theorem tw8628236747792435071 : True := trivial
theorem tw8637452081102412489 : True := trivial
theorem tw8640399195822439974 : True := trivial
theorem tw8640417174963836015 : True := trivial
theorem tw8645369167282567922 : True := trivial
theorem tw864819663365544661 : True := trivial
theorem tw8657480035899644758 : True := trivial
theorem tw8672883130414831044 : True := trivial
theorem tw8679839319945467846 : True := trivial
theorem tw8687831153774095200 : True := trivial
theorem tw8689318265317240412 : True := trivial
theorem tw8693662901424576113 : True := trivial
theorem tw8694864300669457046 : True := trivial
theorem tw870079450109401425 : True := trivial
theorem tw8705804658700671556 : True := trivial
theorem tw8716659796364181309 : True := trivial
theorem tw8722410040271553984 : True := trivial
theorem tw8729362747519067210 : True := trivial
theorem tw8735323631387419056 : True := trivial
theorem tw8746941081350896204 : True := trivial
theorem tw8779778587388263019 : True := trivial
theorem tw8796014573356951340 : True := trivial
theorem tw8800459187187324500 : True := trivial
theorem tw8810280945414196856 : True := trivial
theorem tw8813761850579938390 : True := trivial
theorem tw8817415213059835157 : True := trivial
theorem tw8823455108540655025 : True := trivial
theorem tw8833944927944761889 : True := trivial
theorem tw8874702517807110003 : True := trivial
theorem tw887695700811335699 : True := trivial
theorem tw8879822979380727411 : True := trivial
theorem tw8892184565913893157 : True := trivial
theorem tw8903290554218469011 : True := trivial
theorem tw8912170899635468890 : True := trivial
theorem tw8922926602274725614 : True := trivial
theorem tw8968299171318014206 : True := trivial
theorem tw8973803690348224638 : True := trivial
theorem tw8975108423156789194 : True := trivial
theorem tw8985709366574770022 : True := trivial
theorem tw8987010028205321725 : True := trivial
theorem tw8999917154711486175 : True := trivial
theorem tw9016798869158615873 : True := trivial
theorem tw9038659593494541401 : True := trivial
theorem tw9041457687873607070 : True := trivial
theorem tw9049384490690496663 : True := trivial
theorem tw9059672392935016618 : True := trivial
theorem tw9059832203979395877 : True := trivial
theorem tw9063741608606530840 : True := trivial
theorem tw9075757514644619006 : True := trivial
theorem tw908825868028484722 : True := trivial
theorem tw9104712851299545879 : True := trivial
theorem tw9108098604805947806 : True := trivial
theorem tw9111341701214203307 : True := trivial
theorem tw913810622518204374 : True := trivial
theorem tw9149571693438533347 : True := trivial
theorem tw9152664641465651067 : True := trivial
theorem tw9165953624949470791 : True := trivial
theorem tw9166809390415177425 : True := trivial
theorem tw9178861053002065721 : True := trivial
theorem tw9190159020981308655 : True := trivial
theorem tw9195894827357321740 : True := trivial
theorem tw9227057690007400460 : True := trivial
theorem tw9227541089923242437 : True := trivial
theorem tw9233335307524088747 : True := trivial
theorem tw9233344734837729466 : True := trivial
theorem tw9233715247699887402 : True := trivial
theorem tw9238823003894178615 : True := trivial
theorem tw9250549774821547598 : True := trivial
theorem tw9259421805112917234 : True := trivial
theorem tw9272544492142499777 : True := trivial
theorem tw9287724387753133302 : True := trivial
theorem tw93012567124736588 : True := trivial
theorem tw9305691244287143441 : True := trivial
theorem tw9319964216562750351 : True := trivial
theorem tw9326722878772556681 : True := trivial
theorem tw9328819404386307858 : True := trivial
theorem tw9332579688445097367 : True := trivial
theorem tw9335426496214029073 : True := trivial
theorem tw9358617607463016204 : True := trivial
theorem tw9366391650621772374 : True := trivial
theorem tw9378254376102152143 : True := trivial
theorem tw9382581127745807760 : True := trivial
theorem tw9407396174263392564 : True := trivial
theorem tw9410359166525395380 : True := trivial
theorem tw9429129263215473398 : True := trivial
theorem tw9442318146202087700 : True := trivial
theorem tw9456006794991739263 : True := trivial
theorem tw9486757043174368735 : True := trivial
theorem tw9487724021038755048 : True := trivial
theorem tw9503340733035011235 : True := trivial
theorem tw9511011655687381423 : True := trivial
theorem tw9514800995652322822 : True := trivial
theorem tw9523839732342829001 : True := trivial
theorem tw953821971998124167 : True := trivial
theorem tw956089473029861405 : True := trivial
theorem tw956942650209027819 : True := trivial
theorem tw9572121911122791463 : True := trivial
theorem tw9576743257966636567 : True := trivial
theorem tw9589608677651300831 : True := trivial
theorem tw9590619109379692515 : True := trivial
theorem tw9590735534726013551 : True := trivial
theorem tw9601329371697537090 : True := trivial
theorem tw9614876229902214918 : True := trivial
theorem tw9622763587122877835 : True := trivial
theorem tw9631074621892390191 : True := trivial
theorem tw9635476784945057844 : True := trivial
theorem tw965346924571166687 : True := trivial
theorem tw9666326922614434849 : True := trivial
theorem tw9682687983338836895 : True := trivial
theorem tw9684699057600944294 : True := trivial
theorem tw9685713192446186341 : True := trivial
theorem tw9694206877528517478 : True := trivial
theorem tw9723989250521069032 : True := trivial
theorem tw9739860059890490050 : True := trivial
theorem tw9743097575036673082 : True := trivial
theorem tw9757572049824486728 : True := trivial
theorem tw9759319705405543751 : True := trivial
theorem tw9777375502002234229 : True := trivial
theorem tw9800703332001039478 : True := trivial
theorem tw9806617501295524395 : True := trivial
theorem tw9811366534603930577 : True := trivial
theorem tw9831455883205970180 : True := trivial
theorem tw9833397302626899308 : True := trivial
theorem tw9835852885743449411 : True := trivial
theorem tw9843447840031818808 : True := trivial
theorem tw9843949296442739443 : True := trivial
theorem tw984902984118615328 : True := trivial
theorem tw9851269098105209369 : True := trivial
theorem tw9854310039474760501 : True := trivial
theorem tw987869383939708018 : True := trivial
theorem tw9908339238214195531 : True := trivial
theorem tw9908739903337578654 : True := trivial
theorem tw9913501989792142831 : True := trivial
theorem tw9919435345466941130 : True := trivial
theorem tw9930815651645962114 : True := trivial
theorem tw9936536881743500907 : True := trivial
theorem tw99440450732166138 : True := trivial
theorem tw9951221954081769418 : True := trivial
theorem tw995497684801637723 : True := trivial
theorem tw9961057766049560675 : True := trivial
theorem tw9989051494896439582 : True := trivial
theorem tw9990226795618131978 : True := trivial
end Mine.top
namespace Mine
set_option Elab.async true
theorem top (h : left hd) : PySem.Challenge.rw_xw0345_01.Holds := by
  w_on; o_law; k_head; (case hw => w_witness2)
  trivial
set_option Elab.async false
end Mine
namespace Mine
theorem still : True := trivial
theorem calm : True := by
  w_top off
  trivial
end Mine
-- Clean6
namespace Mine
open PySem.Sem (wp)
/-- a def is left; what stood when it was entered stands yet -/
def LeaveP (h₀ : Heap) (L : Addr) (m : Str → Option Value) (g : Heap) (R : Result → Shared → Prop) (v : Value) (s' : Shared) : Prop :=
  ∃ L' m' news', Fr g L' s'.heap m' ∧ News g L' s'.heap news' ∧ (Fr h₀ L s'.heap m → News h₀ L s'.heap news' → (∀ p ∈ news', g.get? p.1 = none) → (∀ b o, g.get? b = some o → s'.heap.get? b = some o) → R (.ok (.ret v)) s')
theorem leaveP_ {h₀ : Heap} {L : Addr} {m : Str → Option Value} {g : Heap} {R : Result → Shared → Prop} {v : Value} {s' : Shared} {L' : Addr} {m' : Str → Option Value} {news' : List (Addr × Obj)} (F' : Fr g L' s'.heap m') (N' : News g L' s'.heap news')
    (k : Fr h₀ L s'.heap m → News h₀ L s'.heap news' → (∀ p ∈ news', g.get? p.1 = none) → (∀ b o, g.get? b = some o → s'.heap.get? b = some o) → R (.ok (.ret v)) s') : LeaveP h₀ L m g R v s' := ⟨L', m', news', F', N', k⟩
section
variable {prog : Program} {w : World} {A A₀ : Around} {E : Value → Shared → Prop} {s : Shared} {K : Frag} {C L : Addr} {h₀ base : Heap} {m mg mb : Str → Option Value} {news : List (Addr × Obj)} {p : Program} {loose : List Str} {mean : ExcName → Option Value} {Q : Value → Shared → Prop}
theorem code_defP {env : Env} {outer : List Env} {R : Result → Shared → Prop} {name qual : Str} {params : Arguments} {body : List Stmt} {scope : Scope} {dV kV doc pm cdv ct oc : Value} {an od : Option Addr} {osl : Array (Option Value)} {f : Addr} {args : Args} {binds : List (Str × Value)}
    (B : Below A₀ base outer h₀) (F : Fr h₀ L s.heap m) (X₀ : K.In h₀) (N : News h₀ L s.heap news) (T : Top p loose mean mg mb h₀) (hA : A.frames = some (env :: outer)) (hf : env.frame = some L) (hke : env.scope.kind = .function)
    (ho : K.lookup f = some ⟨oc, od, .func (fnOf name qual params body scope dV kV doc pm an cdv ct), osl⟩) (hcd : codeIn K cdv qual = true) (hroom : A.depth < recursionLimit)
    (hbind : BindsTo s (fnOf name qual params body scope dV kV doc pm an cdv ct) args binds) (hloc : ∀ y ∈ binds, scope.names.lookup y.1 = some .local)
    (h : ∀ g L' h₁ tk, (∀ b o, s.heap.get? b = some o → b ∉ news.map (·.1) → g.get? b = some o) → Fr h₀ L g m → Fr g L' h₁ (fun y => binds.reverse.lookup y) → News g L' h₁ news → Below A base (env :: outer) g → K.In g → Top p loose mean mg mb g →
      wpC (model prog w) (A.deeper (envOf qual scope L' f cdv)) (execs body (envOf qual scope L' f cdv))
        (fun fl s' => LeaveP h₀ L m g R (match fl with | .ret v => v | _ => .none) s')
        (fun e s' => wpAny (model prog w) (A.deeper (envOf qual scope L' f cdv)) (leaving (envOf qual scope L' f cdv) e) (fun _ s'' => R (.error e) s'') (fun e' s'' => R (.error e') s'') s')
        { s with heap := h₁, toks := tk })
    (hco : scope.isCoroutine = false) (hgen : scope.isGenerator = false) (hk : scope.kind = .function)
    (hcell : ∀ x ∈ scope.names, x.2 ≠ .cell) : codeC (model prog w) A (.call (.ref f) args) R s := by
  have ho' := (X₀.keeps F.keep) _ _ ho
  have hcd' := codeRec_of (X₀.keeps F.keep) hcd
  obtain ⟨FG, BG, st, lv⟩ := groundX (R := R) B F N hA hf hke
  refine codeC_call_function hroom ho' rfl hco hgen rfl hcd' (hbind _ _ _ _ ?_)
  refine wpAny_newFunctionEnv hcell hloc (fun h₁ hns hsb => ⟨((T.nolimit).keeps F.keep).fresh _ hsb, codeC_func ?_⟩) hk
  have hk₁ : ∀ b o, s.heap.get? b = some o → h₁.get? b = some o := fun b o e => hsb.extBut b o (Nat.ne_of_lt (Heap.lt_size e)) (Heap.get?_push_of_some _ e)
  exact wpC_mono (h _ s.heap.objs.size h₁ _ (fun b o e hb => hideAll_get _ e hb) FG ⟨hns, fun b o e => hk₁ b o (of_hideAll _ e), Nat.le_of_eq (hideAll_size _ _)⟩
    (fun p hp => ⟨hk₁ _ _ (N p hp).1, Nat.ne_of_lt (Heap.lt_size (N p hp).1), hideAll_none _ (List.mem_map_of_mem hp)⟩) BG (X₀.keeps st) (T.keeps st))
    (fun fl s' hl => lv _ _ (by obtain ⟨L', m', news', F', N', k⟩ := hl; exact ⟨L', m', news', F', N', fun a b => k a b (fun p hp => (N' p hp).2.2) F'.keep⟩)) fun _ _ y => y
theorem callC_type0 {M : Model} {env : Env} {T : String} {pos : Pos} (h : wpC M A (call (.type T) []) Q E s) : wpC M A (callWith pos (.type T) [] (backTo pos (starEach [] env)) (backToKw pos (keywordEach [] env))) Q E s :=
  callWithC (P := fun _ => True) rfl (fun h _ => ⟨.machine, .inr (.inl rfl), Looks.of_pure rfl⟩) (evalArgs_nil3 ⟨trivial, h⟩)
theorem bytearray_K (F : Fr h₀ L s.heap m) (N : News h₀ L s.heap news) (h : ∀ (x : Addr) (h' : Heap), Fr h₀ L h' m → News h₀ L h' ((x, baObj) :: news) → (∀ p ∈ news, p.1 < x) → Q (.ref x) { s with heap := h' }) :
    wpC (model prog w) A (call (.type "bytearray") []) Q E s := by
  refine call_bytearray fun h' k1 k2 => ?_
  have up : ∀ b o, s.heap.get? b = some o → h'.get? b = some o := fun b o e => k1 b o (Nat.ne_of_lt (Heap.lt_size e)) (Heap.get?_push_of_some _ e)
  have N2 := N.push F baObj
  refine h _ h' (F.keeps up) (fun p hp => ?_) fun p hp => Heap.lt_size (N p hp).1
  rcases List.mem_cons.mp hp with rfl | hp
  · exact ⟨k2, (N2 _ List.mem_cons_self).2⟩
  · exact ⟨up _ _ (N p hp).1, (N p hp).2⟩
end
end Mine
-- BB
namespace Mine
open PySem.Sem (wp)
theorem bb_bytes : typeLookup (.type "bytes") "__bytes__" = pure (some (.builtin "bytes.__bytes__")) := by rw [typeLookup_type, builtinLookup_eq_fast]; kernel_rfl
section
variable {prog : Program} {w : World} {A : Around} {E : Value → Shared → Prop} {s : Shared}
theorem bb_new {b : Array UInt8} {t : Tok} {Q : Value → Shared → Prop} (h : Q (.bytes b t) s) :
    codeAny (model prog w) A (.call (.builtin "bytes.__new__") ⟨[.type "bytes", .bytes b t], []⟩) (wants Q E) s := by
  refine codeAny_of_tree ?_
  show wpAny _ A.in1 (do checkBuiltinCall "bytes.__new__" ⟨[.type "bytes", .bytes b t], []⟩; again (.builtin "bytes.__new__" ⟨[.type "bytes", .bytes b t], []⟩)) _ _ s
  refine wpAny_bind (wpAny_of_eq (F.bm_newCall _) (wpAny_pure ⟨plainId_quiet F.bm_plain _, codeAny_builtin F.bm_entry ?_⟩))
  rw [Around.under_plainId F.bm_plain _]
  unfold Builtin.«bytes.__new__»
  refine wpAny_bind (wpAny_of_eq (a := true) rfl ?_)
  refine bm_if_false rfl ?_
  refine wpAny_bind (wpAny_of_eq F.bm_sub ?_)
  refine bm_if_false rfl ?_
  refine wpAny_bind (wpAny_of_eq (F.bm_bind _) ?_)
  refine wpAny_bind (wpAny_of_eq (a := ()) rfl ?_)
  refine wpAny_bind (wpAny_of_eq (a := ()) rfl ?_)
  refine bm_if_false rfl ?_
  refine wpAny_bind (wpAny_specialOf (typeIs_bytes _ b t) bb_bytes ?_)
  dsimp only
  refine wpAny_bind (wpAny_rule ?_)
  refine wpAny_bind (wpAny_typeOf (typeIs_bytes _ b t) ?_)
  refine bm_if_true rfl ?_
  trace_state
  exact wpAny_pure h
theorem call_bytes_bytes {b : Array UInt8} {t : Tok} {Q : Value → Shared → Prop} (h : Q (.bytes b t) s) : wpAny (model prog w) A (call (.type "bytes") [.bytes b t]) Q E s := by
  refine callType_codes (Q₁ := fun obj s₁ => s₁.TypeIs obj "bytes" ∧ Q obj s₁) F.bm_called (F.bm_typeCall _) F.entry_object_init
    (bb_new ⟨PySem.W.typeIs_bytes _ _ _, h⟩) fun obj s₁ h₁ => ?_
  exact ⟨h₁.1, F.args_object_init_2 obj _, object_init_meets F.bm_called.init.lookup F.bm_called.made (by decide) prog w A.in1 _ s₁ ⟨h₁.1, rfl, h₁.2⟩⟩
end
end Mine
-- BA
namespace Mine
theorem ba_slot_len : Slot "bytearray" "__len__" "bytearray.__len__" :=
  .of (owner := "bytearray") (n := "__len__") (by rw [typeLookup_type, builtinLookup_eq_fast]; kernel_rfl) (by decide +kernel) (by decide +kernel) (by decide +kernel)
    (by first | exact .inl (by decide +kernel) | exact .inr (by decide +kernel)) (by rw [isSubtype_type]; kernel_rfl)
theorem ba_entry_len : entryFor table "bytearray.__len__" = some Builtin.«bytearray.__len__» := by first | exact entryFor_of_tree (by kernel_rfl) | exact entryFor_of_fast (by kernel_rfl)
theorem ba_args_len (a : Value) : argsOk "bytearray.__len__" ⟨[a], []⟩ := by unfold argsOk; kernel_rfl
section
variable {prog : Program} {w : World} {A : Around} {E : Value → Shared → Prop} {s : Shared} {h₀ : Heap} {L : Addr} {news : List (Addr × Obj)}
theorem call_len_ba {a : Addr} {Q : Value → Shared → Prop} (N : News h₀ L s.heap news) (hm : (a, baObj) ∈ news)
    (h : Q (.int 0 (s.toks + 1)) { s with toks := s.toks + 1 + 1 }) : wpAny (model prog w) A (call (.builtin "len") [.ref a]) Q E s := by
  have ho := (N _ hm).1
  have hT : s.TypeIs (.ref a) "bytearray" := ⟨_, ho, rfl⟩
  refine call_function_entry kind_len plain_len entry_len (args_len1 _) ?_
  unfold Builtin.«len»
  refine wpAny_bind (m := oneArg "len" _) (wpAny_pure ?_)
  refine wpAny_bind (m := callSpecial? (.ref a) (Str.ofString "__len__")) (wpAny_callSpecial?_slot (name := Str.ofString "__len__") hT ba_slot_len
    (wpAny_call_entry ba_slot_len hT ba_entry_len ?_ (ba_args_len _)))
  show wpAny _ _ (do retInt (← Builtin.Bytes.payload (.ref a)).size) _ _ s
  unfold Builtin.Bytes.payload Builtin.Bytes.payload?
  refine wpAny_bind (wpAny_bind (wpAny_bind (wpAny_load ho (wpAny_pure ?_))))
  refine wpAny_pure (wpAny_bind (wpAny_mkInt (wpAny_pure ⟨_, rfl, ?_⟩)))
  refine wpAny_bind (wpAny_holding (wpAny_pure ?_))
  refine wpAny_bind (wpAny_letGo ?_)
  show wpAny _ _ (if ((0 : Nat) : Int) < 0 then _ else _) _ _ _
  rw [if_neg (by omega)]
  show wpAny _ _ (if ((0 : Nat) : Int) ≥ 2 ^ 63 then _ else _) _ _ _
  rw [if_neg (by omega)]
  exact wpAny_bind (wpAny_mkInt (wpAny_pure ⟨_, rfl, h⟩))
end
end Mine
-- TN
namespace Mine
open PySem.SeqAt PySem.MeetsSeq
theorem bInts_inj0 {a b : Array UInt8} (h : KBw.bInts a = KBw.bInts b) : a = b := by
  unfold KBw.bInts at h
  have := List.map_inj_right (f := fun c : UInt8 => (c.toNat : Int)) (fun x y e => UInt8.toNat_inj.mp (Int.ofNat.inj e)) |>.mp h
  exact Array.toList_inj.mp this
def Same (l : List Int) (b : Array UInt8) : Prop := KBw.bInts b = l
theorem same_eq {l : List Int} {a b : Array UInt8} (h : Same l a) (e : KBw.bInts b = l) : b = a := bInts_inj0 (e.trans (Eq.symm h))
inductive SameV : List Value → List Value → Prop
  | nil : SameV [] []
  | int {k : Int} {t u : Tok} {vs ws : List Value} : SameV vs ws → SameV (.int k t :: vs) (.int k u :: ws)
  | bytes {b : Array UInt8} {t u : Tok} {vs ws : List Value} : SameV vs ws → SameV (.bytes b t :: vs) (.bytes b u :: ws)
theorem SameV.length {vs ws : List Value} (h : SameV vs ws) : vs.length = ws.length := by
  induction h with
  | nil => rfl
  | int _ ih => simp [ih]
  | bytes _ ih => simp [ih]
theorem SameV.at {A : Around} {s : Shared} {vs ws : List Value} (h : SameV vs ws) : ∀ j (h1 : j < vs.length) (h2 : j < ws.length), EqAt A s vs[j] ws[j] true := by
  induction h with
  | nil => intro j h1; exact absurd h1 (Nat.not_lt_zero _)
  | @int k t u _ _ _ ih =>
    intro j h1 h2
    cases j with
    | zero => have := EqAt.int_int (A := A) (s := s) k t k u; rwa [beq_self_eq_true] at this
    | succ j => exact ih j (Nat.lt_of_succ_lt_succ h1) (Nat.lt_of_succ_lt_succ h2)
  | @bytes b t u _ _ _ ih =>
    intro j h1 h2
    cases j with
    | zero => exact fun prog w E Q hq => eqBool_bytes (by simpa using hq)
    | succ j => exact ih j (Nat.lt_of_succ_lt_succ h1) (Nat.lt_of_succ_lt_succ h2)
section
variable {prog : Program} {w : World} {A : Around} {E : Value → Shared → Prop} {s : Shared} {h₀ : Heap} {L : Addr} {news : List (Addr × Obj)}
theorem ne_rows {a b : Addr} {vs ws : List Value} {Q : Value → Shared → Prop} (N : News h₀ L s.heap news) (ma : (a, ({ cls := .type "tuple", data := .seq vs.toArray } : Obj)) ∈ news) (mb : (b, ({ cls := .type "tuple", data := .seq ws.toArray } : Obj)) ∈ news)
    (S : SameV vs ws) (hu : A.units < cLine) (h : Q (.bool false) s) : wpAny (model prog w) A (compareOp .NotEq (.ref a) (.ref b)) Q E s := by
  have ta : s.heap.IsTuple a vs.toArray := ⟨_, (N _ ma).1, rfl, 0, rfl⟩
  have tb : s.heap.IsTuple b ws.toArray := ⟨_, (N _ mb).1, rfl, 0, rfl⟩
  refine cmp_ofNotEq (RcNeAt.tuples (e := fun _ => true) ta tb hu (fun j h1 h2 => ?_) prog w E Q ?_)
  · exact S.at j (by simpa using h1) (by simpa using h2)
  · have e : (!((List.range (min vs.toArray.size ws.toArray.size)).all (fun _ => true) && vs.toArray.size == ws.toArray.size)) = false := by
      simp [S.length]
    rw [e]; exact h
end
end Mine
-- TN2
namespace Mine
open PySem.SeqAt PySem.MeetsSeq
section
variable {prog : Program} {w : World} {A : Around} {E : Value → Shared → Prop} {s : Shared} {h₀ : Heap} {L : Addr} {news : List (Addr × Obj)}
theorem eq_lists {a b : Addr} {vs ws : List Value} {n k : Nat} {Q : Value → Shared → Prop} (N : News h₀ L s.heap news) (ma : (a, W.listOf vs.toArray n) ∈ news) (mb : (b, W.listOf ws.toArray k) ∈ news)
    (S : SameV vs ws) (hu : A.units < cLine) (h : Q (.bool true) s) : wpAny (model prog w) A (compareOp .Eq (.ref a) (.ref b)) Q E s := by
  have ta : s.heap.IsList a vs.toArray := ⟨_, (N _ ma).1, rfl, n, rfl⟩
  have tb : s.heap.IsList b ws.toArray := ⟨_, (N _ mb).1, rfl, k, rfl⟩
  refine cmp_ofEq (RcAt.lists (e := fun _ => true) ta tb (by simpa using S.length) hu (fun j h1 h2 => ?_) prog w E Q ?_)
  · exact S.at j (by simpa using h1) (by simpa using h2)
  · have e : (List.range vs.toArray.size).all (fun _ => true) = true := by simp
    rw [e]; exact h
theorem bytes_S {D : Addr} {vs : List Value} {n : Nat} {ns : List Int} {m : Str → Option Value} {Q : Value → Shared → Prop} (F : Fr h₀ L s.heap m) (N : News h₀ L s.heap news) (hh : A.handled = none) (hm : (D, W.listOf vs.toArray n) ∈ news) (hi : IntsAre vs ns) (hr : KBa.In ns) (hn : ns.length ≤ 16777216)
    (h : ∀ b h' t' k, Same ns b → Fr h₀ L h' m → News h₀ L h' news → Q (.bytes b t') { s with heap := h', toks := k }) : wpAny (model prog w) A (call (.type "bytes") [.ref D]) Q E s :=
  KBa.make_K F N hh ⟨_, (N _ hm).1, rfl, n, rfl⟩ hi hr hn fun h' t' k F' N' _ => h _ h' t' k (KBa.ints_make hr) F' N'
end
end Mine
-- Frame
namespace Mine
open PySem.Sem (wp)
/-- the ledger's addresses are apart -/
def ND (l : List (Addr × Obj)) : Prop := (l.map (·.1)).Nodup
theorem ND.nil : ND [] := List.nodup_nil
theorem AllLt.notin {d : Addr} : ∀ {l : List (Addr × Obj)}, AllLt d l → d ∉ l.map (·.1)
  | [], _ => by simp
  | p :: r, ⟨h1, h2⟩ => by
    intro hm
    rcases List.mem_cons.mp hm with e | hm
    · exact Nat.lt_irrefl _ (e ▸ h1)
    · exact AllLt.notin h2 hm
theorem ND.cons_lt {d : Addr} {o : Obj} {r : List (Addr × Obj)} (h : AllLt d r) (D : ND r) : ND ((d, o) :: r) := List.nodup_cons.mpr ⟨AllLt.notin h, D⟩
theorem ND.cons_all {d : Addr} {o : Obj} {r : List (Addr × Obj)} (h : ∀ p ∈ r, p.1 < d) (D : ND r) : ND ((d, o) :: r) := ND.cons_lt (allLt_of h) D
theorem ND.two {x dx : Addr} {o o' : Obj} {r : List (Addr × Obj)} (h : ∀ p ∈ r, p.1 < dx) (h2 : dx < x) (D : ND r) : ND ((x, o) :: (dx, o') :: r) :=
  ND.cons_all (fun p hp => by rcases List.mem_cons.mp hp with rfl | hp; exact h2; exact Nat.lt_trans (h p hp) h2) (ND.cons_all h D)
inductive SetAt (d : Addr) (o o' : Obj) : List (Addr × Obj) → List (Addr × Obj) → Prop
  | head {r} : SetAt d o o' ((d, o) :: r) ((d, o') :: r)
  | tail {p r r'} : SetAt d o o' r r' → SetAt d o o' (p :: r) (p :: r')
theorem SetAt.mem {d : Addr} {o o' : Obj} {l l' : List (Addr × Obj)} (h : SetAt d o o' l l') : d ∈ l.map (·.1) := by
  induction h with
  | head => simp
  | tail _ ih => exact List.mem_cons_of_mem _ ih
theorem SetAt.keys {d : Addr} {o o' : Obj} {l l' : List (Addr × Obj)} (h : SetAt d o o' l l') : l'.map (·.1) = l.map (·.1) := by
  induction h with
  | head => rfl
  | tail _ ih => simp [ih]
theorem SetAt.nd {d : Addr} {o o' : Obj} {l l' : List (Addr × Obj)} (h : SetAt d o o' l l') (D : ND l) : ND l' := by
  unfold ND; rw [h.keys]; exact D
theorem SetAt.upd {d : Addr} {o o' : Obj} {l l' : List (Addr × Obj)} (h : SetAt d o o' l l') (D : ND l) : Upd d o o' l l' := by
  induction h with
  | head =>
    refine .head fun p hp e => ?_
    exact (List.nodup_cons.mp D).1 (List.mem_map.mpr ⟨p, hp, e⟩)
  | tail h ih =>
    refine .tail (fun e => ?_) (ih (List.nodup_cons.mp D).2)
    exact (List.nodup_cons.mp D).1 (by show _ ∈ _; dsimp only; rw [e]; exact h.mem)
inductive SetF (d : Addr) (o : Obj) : List (Addr × Obj) → (Obj → List (Addr × Obj)) → Prop
  | head {r} : SetF d o ((d, o) :: r) (fun o' => (d, o') :: r)
  | tail {p r g} : SetF d o r g → SetF d o (p :: r) (fun o' => p :: g o')
theorem SetF.mem {d : Addr} {o : Obj} {l : List (Addr × Obj)} {g : Obj → List (Addr × Obj)} (h : SetF d o l g) : d ∈ l.map (·.1) := by
  induction h with
  | head => simp
  | tail _ ih => exact List.mem_cons_of_mem _ ih
theorem SetF.upd {d : Addr} {o : Obj} {l : List (Addr × Obj)} {g : Obj → List (Addr × Obj)} (h : SetF d o l g) (D : ND l) : UpdF d o l g := by
  induction h with
  | head =>
    refine .head fun p hp e => ?_
    exact (List.nodup_cons.mp D).1 (List.mem_map.mpr ⟨p, hp, e⟩)
  | tail h ih =>
    refine .tail (fun e => ?_) (ih (List.nodup_cons.mp D).2)
    exact (List.nodup_cons.mp D).1 (by show _ ∈ _; dsimp only; rw [e]; exact h.mem)
inductive Take (p : Addr × Obj) : List (Addr × Obj) → List (Addr × Obj) → Prop
  | head {r} : Take p (p :: r) r
  | tail {q r r'} : Take p r r' → Take p (q :: r) (q :: r')
theorem Take.perm {p : Addr × Obj} {l l' : List (Addr × Obj)} (h : Take p l l') : List.Perm l (p :: l') := by
  induction h with
  | head => exact .refl _
  | tail _ ih => exact (ih.cons _).trans (.swap _ _ _)
inductive Pick : List (Addr × Obj) → List (Addr × Obj) → List (Addr × Obj) → Prop
  | nil {l} : Pick [] l l
  | cons {p S l l1 rest} : Take p l l1 → Pick S l1 rest → Pick (p :: S) l rest
theorem Pick.perm {S l rest : List (Addr × Obj)} (h : Pick S l rest) : List.Perm l (S ++ rest) := by
  induction h with
  | nil => exact .refl _
  | cons t _ ih => exact t.perm.trans (ih.cons _)
theorem ND.perm {l l' : List (Addr × Obj)} (D : ND l) (h : List.Perm l l') : ND l' := (h.map _).nodup_iff.mp D
theorem Pick.nd {S l rest : List (Addr × Obj)} (h : Pick S l rest) (D : ND l) : ND S :=
  (List.nodup_append.mp (by have := D.perm h.perm; unfold ND at this; rwa [List.map_append] at this)).1
theorem Pick.news {h₀ h : Heap} {L : Addr} {S l rest : List (Addr × Obj)} (P : Pick S l rest) (N : News h₀ L h l) : News h₀ L h S :=
  fun p hp => N p (P.perm.mem_iff.mpr (List.mem_append_left _ hp))
/-- what a call leaves behind, told from the ledger it was given -/
structure Post (h₀ : Heap) (L : Addr) (m : Str → Option Value) (h h' : Heap) (S S' : List (Addr × Obj)) : Prop where
  F : Fr h₀ L h' m
  N : News h₀ L h' S'
  D : ND S'
  K : ∀ b o, h.get? b = some o → b ∉ S.map (·.1) → h'.get? b = some o
  Z : ∀ p ∈ S', p.1 ∈ S.map (·.1) ∨ h.get? p.1 = none
theorem Post.of {h₀ g h h' : Heap} {L : Addr} {m : Str → Option Value} {S S' : List (Addr × Obj)} (F : Fr h₀ L h' m) (N : News h₀ L h' S') (fr : ∀ p ∈ S', g.get? p.1 = none) (kp : ∀ b o, h.get? b = some o → b ∉ S.map (·.1) → g.get? b = some o)
    (k : ∀ b o, g.get? b = some o → h'.get? b = some o) (D : ND S') : Post h₀ L m h h' S S' :=
  ⟨F, N, D, fun b o e hb => k b o (kp b o e hb), fun p hp => by
    by_cases q : p.1 ∈ S.map (·.1)
    · exact .inl q
    · cases e : h.get? p.1 with
      | none => exact .inr rfl
      | some o => have := kp _ _ e q; rw [fr p hp] at this; cases this⟩
theorem Pick.frame {h₀ h h' : Heap} {L : Addr} {m : Str → Option Value} {S S' l rest : List (Addr × Obj)} (P : Pick S l rest) (D : ND l) (N : News h₀ L h l) (T : Post h₀ L m h h' S S') : News h₀ L h' (S' ++ rest) ∧ ND (S' ++ rest) := by
  have D1 := D.perm P.perm
  unfold ND at D1
  rw [List.map_append] at D1
  obtain ⟨_, dr, ap⟩ := List.nodup_append.mp D1
  have Nr : ∀ p ∈ rest, h.get? p.1 = some p.2 ∧ p.1 ≠ L ∧ h₀.get? p.1 = none := fun p hp => N p (P.perm.mem_iff.mpr (List.mem_append_right _ hp))
  refine ⟨fun p hp => ?_, ?_⟩
  · rcases List.mem_append.mp hp with hp | hp
    · exact T.N p hp
    · exact ⟨T.K _ _ (Nr p hp).1 fun q => ap _ q _ (List.mem_map_of_mem hp) rfl, (Nr p hp).2⟩
  · unfold ND
    rw [List.map_append]
    refine List.nodup_append.mpr ⟨T.D, dr, fun a ha b hb e => ?_⟩
    obtain ⟨p, hp, rfl⟩ := List.mem_map.mp ha
    obtain ⟨q, hq, rfl⟩ := List.mem_map.mp hb
    rcases T.Z p hp with z | z
    · exact ap _ z _ (List.mem_map_of_mem hq) e
    · rw [e, (Nr q hq).1] at z; cases z
theorem Pick.leave {h₀ g h h' : Heap} {L : Addr} {m : Str → Option Value} {S S' l rest al : List (Addr × Obj)} {R : Prop} (P : Pick S l rest) (D : ND l) (N : News h₀ L h l) (F : Fr h₀ L h' m) (N0 : News h₀ L h' al) (fr : ∀ p ∈ al, g.get? p.1 = none)
    (kp : ∀ b o, h.get? b = some o → b ∉ S.map (·.1) → g.get? b = some o) (k : ∀ b o, g.get? b = some o → h'.get? b = some o) (sb : ∀ p ∈ S', p ∈ al) (D' : ND S') (ret : Fr h₀ L h' m → News h₀ L h' (S' ++ rest) → ND (S' ++ rest) → R) : R :=
  have T := P.frame D N (Post.of F (fun p hp => N0 p (sb p hp)) (fun p hp => fr p (sb p hp)) kp k D')
  ret F T.1 T.2
section
variable {prog : Program} {w : World} {A A₀ : Around} {E : Value → Shared → Prop} {s : Shared} {K : Frag} {C L : Addr} {h₀ base : Heap} {m mg mb : Str → Option Value} {news : List (Addr × Obj)} {p : Program} {loose : List Str} {mean : ExcName → Option Value} {Q : Value → Shared → Prop}
theorem code_defA {env : Env} {outer : List Env} {R : Result → Shared → Prop} {name qual : Str} {params : Arguments} {body : List Stmt} {scope : Scope} {dV kV doc pm cdv ct oc : Value} {an od : Option Addr} {osl : Array (Option Value)} {f : Addr} {args : Args} {binds : List (Str × Value)}
    (B : Below A₀ base outer h₀) (F : Fr h₀ L s.heap m) (X₀ : K.In h₀) (N : News h₀ L s.heap news) (T : Top p loose mean mg mb h₀) (hA : A.frames = some (env :: outer)) (hf : env.frame = some L) (hke : env.scope.kind = .function)
    (ho : K.lookup f = some ⟨oc, od, .func (fnOf name qual params body scope dV kV doc pm an cdv ct), osl⟩) (hcd : codeIn K cdv qual = true) (hroom : A.depth < recursionLimit)
    (hbind : BindsTo s (fnOf name qual params body scope dV kV doc pm an cdv ct) args binds) (hloc : ∀ y ∈ binds, scope.names.lookup y.1 = some .local)
    (h : ∀ g L' h₁ tk, (∀ b o, s.heap.get? b = some o → b ∉ news.map (·.1) → g.get? b = some o) → Fr h₀ L g m → Fr g L' h₁ (fun y => binds.reverse.lookup y) → News g L' h₁ news → Below A base (env :: outer) g → K.In g → Top p loose mean mg mb g →
      wpAny (model prog w) (A.deeper (envOf qual scope L' f cdv)) (execs body (envOf qual scope L' f cdv))
        (fun fl s' => LeaveP h₀ L m g R (match fl with | .ret v => v | _ => .none) s')
        (fun e s' => wpAny (model prog w) (A.deeper (envOf qual scope L' f cdv)) (leaving (envOf qual scope L' f cdv) e) (fun _ s'' => R (.error e) s'') (fun e' s'' => R (.error e') s'') s')
        { s with heap := h₁, toks := tk })
    (hco : scope.isCoroutine = false) (hgen : scope.isGenerator = false) (hk : scope.kind = .function)
    (hcell : ∀ x ∈ scope.names, x.2 ≠ .cell) : codeAny (model prog w) A (.call (.ref f) args) R s := by
  have ho' := (X₀.keeps F.keep) _ _ ho
  have hcd' := codeRec_of (X₀.keeps F.keep) hcd
  obtain ⟨FG, BG, st, lv⟩ := groundX (R := R) B F N hA hf hke
  refine codeAny_call_function hroom ho' rfl hco hgen rfl hcd' (hbind _ _ _ _ ?_)
  refine wpAny_newFunctionEnv hcell hloc (fun h₁ hns hsb => ⟨((T.nolimit).keeps F.keep).fresh _ hsb, codeAny_func ?_⟩) hk
  have hk₁ : ∀ b o, s.heap.get? b = some o → h₁.get? b = some o := fun b o e => hsb.extBut b o (Nat.ne_of_lt (Heap.lt_size e)) (Heap.get?_push_of_some _ e)
  exact wpAny_mono (h _ s.heap.objs.size h₁ _ (fun b o e hb => hideAll_get _ e hb) FG ⟨hns, fun b o e => hk₁ b o (of_hideAll _ e), Nat.le_of_eq (hideAll_size _ _)⟩
    (fun p hp => ⟨hk₁ _ _ (N p hp).1, Nat.ne_of_lt (Heap.lt_size (N p hp).1), hideAll_none _ (List.mem_map_of_mem hp)⟩) BG (X₀.keeps st) (T.keeps st))
    (fun fl s' hl => lv _ _ (by obtain ⟨L', m', news', F', N', k⟩ := hl; exact ⟨L', m', news', F', N', fun a b => k a b (fun p hp => (N' p hp).2.2) F'.keep⟩)) fun _ _ y => y
end
end Mine
-- R1
namespace Mine
open PySem.Sem (wp)
/-- the entries of an object's dictionary, told by names and values alone -/
inductive RecE : List (Str × Value) → List DictEntry → Prop
  | nil : RecE [] []
  | cons {k : Str} {v : Value} {hs : Int} {t : Tok} {fs : List (Str × Value)} {es : List DictEntry} : RecE fs es → RecE ((k, v) :: fs) (⟨hs, .str k t, v⟩ :: es)
noncomputable def recGet (name : Str) : List (Str × Value) → Option Value
  | [] => none
  | p :: r => if p.1 = name then some p.2 else recGet name r
noncomputable def recPut (name : Str) (v : Value) : List (Str × Value) → List (Str × Value)
  | [] => [(name, v)]
  | p :: r => if p.1 = name then (p.1, v) :: r else p :: recPut name v r
def Rec (fs : List (Str × Value)) (o : Obj) : Prop := ∃ es n, o = dictOf es n ∧ RecE fs es
def Has (o : Obj) (name : Str) (v : Value) : Prop := ∃ es n, o = dictOf es n ∧ getL name es = some (some v)
def HasI (o : Obj) (name : Str) (k : Int) : Prop := ∃ t, Has o name (.int k t)
def HasB (o : Obj) (name : Str) (b : Array UInt8) : Prop := ∃ t, Has o name (.bytes b t)
def Lacks (o : Obj) (name : Str) : Prop := ∃ es n, o = dictOf es n ∧ getL name es = some none
def Small (k : Nat) (o : Obj) : Prop := ∃ fs, Rec fs o ∧ fs.length ≤ k
def SetO (o o' : Obj) (name : Str) (v : Value) : Prop := ∀ fs, Rec fs o → Rec (recPut name v fs) o'
theorem isStr_iff {k name : Str} {t : Tok} : (Value.str k t).isStr name = decide (k = name) := by
  by_cases h : k = name
  · subst h; simp [Value.isStr]
  · simp [Value.isStr, h]
theorem RecE.getL {name : Str} {fs : List (Str × Value)} {es : List DictEntry} (h : RecE fs es) : getL name es = some (recGet name fs) := by
  have nr : es.any (·.refKey) = false := by
    induction h with
    | nil => rfl
    | cons _ ih => rw [List.any_cons, ih]; rfl
  induction h with
  | nil => rfl
  | @cons k v hs t fs es h ih =>
    have nr' : es.any (·.refKey) = false := by rw [List.any_cons] at nr; exact (Bool.or_eq_false_iff.mp nr).2
    have ih := ih nr'
    unfold PySem.W.getL at ih ⊢
    rw [nr'] at ih
    rw [nr, List.find?_cons]
    dsimp only
    rw [isStr_iff]
    by_cases q : k = name
    · simp [q, recGet]
    · simp only [q, decide_false, recGet, if_false]
      rw [← ih]
theorem RecE.putL {name : Str} {hsh : Int} {t : Tok} {v : Value} {fs : List (Str × Value)} {es : List DictEntry} (h : RecE fs es) : RecE (recPut name v fs) (putL name hsh (.str name t) v es) := by
  induction h with
  | nil => exact .cons .nil
  | @cons k v' hs t' fs es h ih =>
    unfold recPut PySem.W.putL
    rw [isStr_iff]
    by_cases q : k = name
    · subst q; simp only [decide_true, if_true]; exact .cons h
    · simp only [q, decide_false, if_false, Bool.false_eq_true]; exact .cons ih
theorem RecE.length {fs : List (Str × Value)} {es : List DictEntry} (h : RecE fs es) : es.length = fs.length := by
  induction h with
  | nil => rfl
  | cons _ ih => simp [ih]
theorem recPut_le {name : Str} {v : Value} : ∀ fs : List (Str × Value), (recPut name v fs).length ≤ fs.length + 1
  | [] => Nat.le_refl _
  | p :: r => by
    unfold recPut
    split
    · exact Nat.le_succ _
    · exact Nat.succ_le_succ (recPut_le r)
theorem Rec.get {name : Str} {v : Value} {fs : List (Str × Value)} {o : Obj} (R : Rec fs o) (h : recGet name fs = some v) : Has o name v := by
  obtain ⟨es, n, rfl, r⟩ := R
  exact ⟨es, n, rfl, by rw [r.getL, h]⟩
theorem Rec.lacks {name : Str} {fs : List (Str × Value)} {o : Obj} (R : Rec fs o) (h : recGet name fs = none) : Lacks o name := by
  obtain ⟨es, n, rfl, r⟩ := R
  exact ⟨es, n, rfl, by rw [r.getL, h]⟩
theorem recGet_none {name : Str} : ∀ {fs : List (Str × Value)}, (fs.map (·.1)).contains name = false → recGet name fs = none
  | [], _ => rfl
  | p :: r, h => by
    simp only [List.map_cons, List.contains_cons, Bool.or_eq_false_iff] at h
    have q : p.1 ≠ name := fun e => by simp [e] at h
    simp only [recGet, q, if_false]
    exact recGet_none h.2
theorem Rec.small {fs : List (Str × Value)} {o : Obj} {k : Nat} (R : Rec fs o) (h : fs.length ≤ k) : Small k o := ⟨fs, R, h⟩
theorem Rec.empty : Rec [] (dictOf [] 0) := ⟨[], 0, rfl, .nil⟩
theorem Small.empty : Small 0 (dictOf [] 0) := ⟨[], Rec.empty, Nat.le_refl _⟩
section
variable {prog : Program} {w : World} {A A₀ : Around} {E : Value → Shared → Prop} {s : Shared} {K : Frag} {x C dx L : Addr} {h₀ : Heap} {m : Str → Option Value} {news : List (Addr × Obj)} {g : Obj → List (Addr × Obj)} {o : Obj} {name : Str} {v : Value}
theorem get_has {expr : Bool} {Q : Value → Shared → Prop} {attr : Option Value} (F : Fr h₀ L s.heap m) (X₀ : K.In h₀) (N : News h₀ L s.heap news) (m1 : (x, instObj C dx) ∈ news) (m2 : (dx, o) ∈ news) (H : Has o name v)
    (hg : plainGet K C name = true) (hh : hasDictIn K C = true) (ha : findIn K (.ref C) name = some attr) (hn : noGet K attr = true) (hv : handedIn v = true) (h : Q v { s with toks := s.toks + 1 }) :
    wpAny (model prog w) A (getAttr (.ref x) name expr) Q E s := by
  obtain ⟨es, n, rfl, hl⟩ := H
  exact get_own F X₀ (InstAt.of_news N m1 m2) hg hh ha hn hl hv h
theorem get_hasI {expr : Bool} {Q : Value → Shared → Prop} {attr : Option Value} {k : Int} (F : Fr h₀ L s.heap m) (X₀ : K.In h₀) (N : News h₀ L s.heap news) (m1 : (x, instObj C dx) ∈ news) (m2 : (dx, o) ∈ news) (H : HasI o name k)
    (hg : plainGet K C name = true) (hh : hasDictIn K C = true) (ha : findIn K (.ref C) name = some attr) (hn : noGet K attr = true) (h : ∀ t, Q (.int k t) { s with toks := s.toks + 1 }) :
    wpAny (model prog w) A (getAttr (.ref x) name expr) Q E s := by
  obtain ⟨t, H⟩ := H
  exact get_has F X₀ N m1 m2 H hg hh ha hn rfl (h t)
theorem get_hasB {expr : Bool} {Q : Value → Shared → Prop} {attr : Option Value} {k : Array UInt8} (F : Fr h₀ L s.heap m) (X₀ : K.In h₀) (N : News h₀ L s.heap news) (m1 : (x, instObj C dx) ∈ news) (m2 : (dx, o) ∈ news) (H : HasB o name k)
    (hg : plainGet K C name = true) (hh : hasDictIn K C = true) (ha : findIn K (.ref C) name = some attr) (hn : noGet K attr = true) (h : ∀ t, Q (.bytes k t) { s with toks := s.toks + 1 }) :
    wpAny (model prog w) A (getAttr (.ref x) name expr) Q E s := by
  obtain ⟨t, H⟩ := H
  exact get_has F X₀ N m1 m2 H hg hh ha hn rfl (h t)
theorem method_has {pl : Sem Bool} {Q : Value × List Value → Shared → Prop} {f : Addr} (F : Fr h₀ L s.heap m) (X₀ : K.In h₀) (N : News h₀ L s.heap news) (m1 : (x, instObj C dx) ∈ news) (m2 : (dx, o) ∈ news) (H : Lacks o name)
    (hg : plainGet K C name = true) (hf : findIn K (.ref C) name = some (some (.ref f))) (ht : isFn K (.ref f) = true) (h : Q (.ref f, [.ref x]) s) : wpAny (model prog w) A (getMethod (.ref x) name pl) Q E s := by
  obtain ⟨es, n, rfl, hl⟩ := H
  exact method_inst F X₀ (InstAt.of_news N m1 m2) hg hf ht hl h
theorem SetF.keysF {d : Addr} {o : Obj} {l : List (Addr × Obj)} {g : Obj → List (Addr × Obj)} (h : SetF d o l g) (o' : Obj) : (g o').map (·.1) = l.map (·.1) := by
  induction h with
  | head => rfl
  | tail _ ih => simp [ih]
theorem SetF.nd {d : Addr} {o : Obj} {l : List (Addr × Obj)} {g : Obj → List (Addr × Obj)} (h : SetF d o l g) (D : ND l) (o' : Obj) : ND (g o') := by
  unfold ND; rw [h.keysF]; exact D
theorem SetF.get {d : Addr} {o : Obj} {l : List (Addr × Obj)} {g : Obj → List (Addr × Obj)} (h : SetF d o l g) : (d, o) ∈ l := by
  induction h with
  | head => exact List.mem_cons_self
  | tail _ ih => exact List.mem_cons_of_mem _ ih
theorem set_has {Q : Unit → Shared → Prop} {k : Nat} (F : Fr h₀ L s.heap m) (X₀ : K.In h₀) (N : News h₀ L s.heap news) (D : ND news) (m1 : (x, instObj C dx) ∈ news) (U : SetF dx o news g) (H : Small k o) (hk : Nat.ble k 900 = true)
    (hs : findIn K (.ref C) "__setattr__" = some (some (.builtin "object.__setattr__"))) (hp : plainOver K C = true) (ht : takerIn K C name = some none) (hh : hasDictIn K C = true)
    (h : ∀ o' h', SetO o o' name v → Small (k + 1) o' → Fr h₀ L h' m → News h₀ L h' (g o') → ND (g o') → Q () { s with heap := h', toks := s.toks + 2 }) :
    wpAny (model prog w) A (setAttr (.ref x) name v) Q E s := by
  have m2 := U.get
  have nd' := U.nd D
  have U := U.upd D
  obtain ⟨fs, ⟨es, n, rfl, R⟩, hl⟩ := H
  obtain ⟨pre, post, rfl, hg, a, b⟩ := U.split
  have hb := Nat.le_of_ble_eq_true hk
  have R' := R.putL (name := name) (hsh := PyData.keyHash w.params name) (t := s.toks + 1) (v := v)
  have I : InstAt s.heap x (instObj C dx) C (some (dictOf es n)) := InstAt.of_news N m1 m2
  refine set_plain (X₀.keeps F.keep) I hs (osa_dict (s := { s with toks := s.toks + 1 }) F N (X₀.keeps F.keep) I rfl hp ht hh (by rw [lookIn_dict, R.getL]; rfl) a b (putName_dict _ _ _ _ _ _) rfl ?_ fun h' F' N' => h _ h' (fun fs' R2 => ?_) ⟨_, ⟨_, _, rfl, R'⟩, ?_⟩ F' (hg _ ▸ N') (nd' _))
  · rw [R'.length]; have := recPut_le (name := name) (v := v) fs; omega
  · obtain ⟨es2, n2, e, r2⟩ := R2
    have e := congrArg Obj.data e
    simp only [Data.dict.injEq] at e
    obtain ⟨e, _⟩ := e
    obtain rfl : es = es2 := by simpa using e
    exact ⟨_, _, rfl, r2.putL⟩
  · have := recPut_le (name := name) (v := v) fs; omega
theorem newTuple_D {M : Model} {vs : List Value} {Q : Value → Shared → Prop} (F : Fr h₀ L s.heap m) (N : News h₀ L s.heap news) (D : ND news)
    (h : ∀ a h', Fr h₀ L h' m → News h₀ L h' ((a, ({ cls := .type "tuple", data := .seq vs.toArray } : Obj)) :: news) → ND ((a, ({ cls := .type "tuple", data := .seq vs.toArray } : Obj)) :: news) → Q (.ref a) { s with heap := h' }) (hz : vs.length ≤ sizeLine) : wpAny M A (newTuple vs) Q E s :=
  newTuple_N F N (fun h' F' N' => h _ h' F' N' (ND.cons_all (fun p hp => Heap.lt_size (N p hp).1) D)) hz
theorem newList_D {M : Model} {vs : List Value} {Q : Value → Shared → Prop} (F : Fr h₀ L s.heap m) (N : News h₀ L s.heap news) (D : ND news)
    (h : ∀ l h', Fr h₀ L h' m → News h₀ L h' ((l, W.listOf vs.toArray 0) :: news) → ND ((l, W.listOf vs.toArray 0) :: news) → Q (.ref l) { s with heap := h' }) (hsz : vs.length ≤ sizeLine) : wpAny M A (newList vs) Q E s :=
  newList_N F N (fun h' F' N' => h _ h' F' N' (ND.cons_all (fun p hp => Heap.lt_size (N p hp).1) D)) hsz
end
end Mine
-- R2
namespace Mine
theorem recGet_put {name : Str} {v : Value} : ∀ fs : List (Str × Value), recGet name (recPut name v fs) = some v
  | [] => by simp [recPut, recGet]
  | p :: r => by
    unfold recPut
    split
    · rename_i h; simp [recGet, h]
    · rename_i h; simp only [recGet, h, if_false]; exact recGet_put r
theorem recGet_put_ne {name n' : Str} {v : Value} (h : n' ≠ name) : ∀ fs : List (Str × Value), recGet name (recPut n' v fs) = recGet name fs
  | [] => by simp [recPut, recGet, h]
  | p :: r => by
    unfold recPut
    split
    · rename_i e; simp [recGet, e, h]
    · simp only [recGet]; rw [recGet_put_ne h r]
theorem hasI_put2 {k : Nat} {o3 o4 o5 o6 : Obj} {name n5 n6 : Str} {n : Int} {t : Tok} {v5 v6 : Value} (s6 : SetO o5 o6 n6 v6) (s5 : SetO o4 o5 n5 v5) (s4 : SetO o3 o4 name (.int n t)) (sm : Small k o3) (h5 : n5 ≠ name) (h6 : n6 ≠ name) : HasI o6 name n := by
  obtain ⟨fs, R, _⟩ := sm
  exact ⟨t, (s6 _ (s5 _ (s4 _ R))).get (by rw [recGet_put_ne h6, recGet_put_ne h5, recGet_put])⟩
end Mine
-- LC
namespace Mine
open PySem.Sem (wp)
def rit (i n : Nat) : Obj := { cls := .type "range_iterator", dict := none, data := .fields #[rawInt (0 + (i : Nat) * 1), rawInt ((n : Int) - (i : Nat)), rawInt 1], slots := #[] }
section
variable {prog : Program} {w : World} {A : Around} {s : Shared} {env : Env} {h₀ : Heap}
/-- a for over a range, its body in clean contexts and never raising -/
theorem codeC_for {R : Result → Shared → Prop} {x : Str} {px : Pos} {body : List Stmt} {I : Addr} {n : Nat} {adr : List Addr} (J : List (Addr × Obj) → Prop) (hh : A.handled = none) (hx : env.kindOf x = some .local)
    (hp : (env.scope.kind == .class || (env.scope.kind == .module && env.locals != env.globals)) = false)
    (hI0 : h₀.get? I = none) (hIL : I ≠ env.locals) (hIa : I ∉ adr) (had : adr.Nodup) (hJ : ∀ nx, J nx → nx.map (·.1) = adr)
    (step : ∀ i nx m₁ (s₁ : Shared), (∃ h tk, s₁ = { s with heap := h, toks := tk }) → J nx → Fr h₀ env.locals s₁.heap m₁ → News h₀ env.locals s₁.heap ((I, rit (i + 1) n) :: nx) → ND ((I, rit (i + 1) n) :: nx) →
      wpC (model prog w) A (execs body env) (fun f s' => f = .next ∧ ∃ m₂ nx' h' tk', s' = { s₁ with heap := h', toks := tk' } ∧ Fr h₀ env.locals h' m₂ ∧ News h₀ env.locals h' ((I, rit (i + 1) n) :: nx') ∧ J nx') (fun _ _ => False) s₁)
    (done : ∀ m' nx h' tk', J nx → Fr h₀ env.locals h' m' → News h₀ env.locals h' nx → R (.ok .next) { s with heap := h', toks := tk' }) :
    ∀ d i m nx h tk, i + d = n → h.get? I = some (rit i n) → Fr h₀ env.locals h m → News h₀ env.locals h nx → J nx → codeC (model prog w) A (.forLoop (.Name x px) (.ref I) body [] env) R { s with heap := h, toks := tk } := by
  have W := Walks.range (prog := prog) (w := w) (A := A) hh I 0 1 n
  intro d
  induction d with
  | zero =>
    intro i m nx h tk hi hst F N hj
    refine codeC_of_tree rfl ?_
    show wpC _ _ ((forTurn (.Name x px) (.ref I) body [] env).onRaise (fun x => do noteFrame x env; theTreesLotGoes x)) _ _ _
    refine wpC_onRaise (wpC_mono (E := fun _ _ => False) ?_ (fun _ _ h => h) (fun _ _ h => h.elim))
    simp only [forTurn]
    refine wpC_bind (wpC_standAt (wpC_then (wpAny_onRaise (wpAny_mono (E := fun _ _ => False) (W.done _ _ _ (by rw [← hi, Nat.add_zero]; rw [← hi, Nat.add_zero] at hst; exact hst) fun h₁ tk₁ hk₁ => ?_) (fun r s₁ h₁ => h₁) fun _ _ h' => h'.elim))))
    refine wpC_pure ⟨rfl, codeC_any (codeAny_block (wpAny_execs_nil (done m nx h₁ tk₁ hj ?_ ?_)))⟩
    · exact ⟨F.ns.at' fun o e => hk₁ _ o (by simp; exact Ne.symm hIL) e, fun b o e => hk₁ b o (by simp; intro q; rw [q, hI0] at e; cases e) (F.keep b o e), F.above⟩
    · intro p hp
      refine ⟨hk₁ _ _ ?_ (N p hp).1, (N p hp).2⟩
      simp
      intro q
      exact hIa (by rw [← hJ nx hj, ← q]; exact List.mem_map_of_mem hp)
  | succ d ih =>
    intro i m nx h tk hi hst F N hj
    refine codeC_of_tree rfl ?_
    show wpC _ _ ((forTurn (.Name x px) (.ref I) body [] env).onRaise (fun x => do noteFrame x env; theTreesLotGoes x)) _ _ _
    refine wpC_onRaise (wpC_mono (E := fun _ _ => False) ?_ (fun _ _ h => h) (fun _ _ h => h.elim))
    simp only [forTurn]
    refine wpC_bind (wpC_standAt (wpC_then (wpAny_onRaise (wpAny_mono (E := fun _ _ => False) (W.item i _ _ _ (by omega) hst fun v h₁ tk₁ hP hst₁ hk₁ => ?_) (fun r s₁ h₁ => h₁) fun _ _ h' => h'.elim))))
    have F₁ : Fr h₀ env.locals h₁ m := ⟨F.ns.at' fun o e => hk₁ _ o (by simp; exact Ne.symm hIL) e, fun b o e => hk₁ b o (by simp; intro q; rw [q, hI0] at e; cases e) (F.keep b o e), F.above⟩
    have N₁ : News h₀ env.locals h₁ nx := by
      intro p hp
      refine ⟨hk₁ _ _ ?_ (N p hp).1, (N p hp).2⟩
      simp
      intro q
      exact hIa (by rw [← hJ nx hj, ← q]; exact List.mem_map_of_mem hp)
    refine wpC_then (wpAny_of_eq (a := ()) rfl ?_)
    refine wpC_then (wpAny_assign_Name (wpAny_storeName_local hx F₁.ns (fun h₂ hn₂ hs₂ => ?_) hp))
    have F₂ := F₁.set hn₂ hs₂
    have hI₂ : h₂.get? I = some (rit (i + 1) n) := (hs₂.2 I hIL).trans hst₁
    have N₂ : News h₀ env.locals h₂ ((I, rit (i + 1) n) :: nx) := by
      intro p hp
      rcases List.mem_cons.mp hp with rfl | hp
      · exact ⟨hI₂, hIL, hI0⟩
      · exact ⟨(hs₂.2 _ (N₁ p hp).2.1).trans (N₁ p hp).1, (N₁ p hp).2⟩
    have D₂ : ND ((I, rit (i + 1) n) :: nx) := by
      unfold ND
      rw [List.map_cons, hJ nx hj]
      exact List.nodup_cons.mpr ⟨hIa, had⟩
    refine wpC_bind (wpC_mono (step i nx _ _ ⟨h₂, _, rfl⟩ hj F₂ N₂ D₂) (fun f s₃ h₃ => ?_) fun _ _ h => h.elim)
    obtain ⟨rfl, m₂, nx', h', tk', rfl, F₃, N₃, hj₃⟩ := h₃
    exact wpC_pure ⟨rfl, ih (i + 1) m₂ nx' h' tk' (by omega) (N₃ _ List.mem_cons_self).1 F₃ (fun p hp => N₃ p (List.mem_cons_of_mem _ hp)) hj₃⟩
theorem wpC_runOwn {c : Code} {Q : Flow → Shared → Prop} {E : Value → Shared → Prop} (hc : codeC (model prog w) A c (fun r s' => match r with | .ok f => Q f s' | .error _ => False) s) : wpC (model prog w) A (runOwn c env) Q E s := by
  unfold runOwn
  refine wpC_onRaise (wpC_mono (E := fun _ _ => False) (wpC_run (h := none) (Q := Q) (codeC_mono hc fun r s' h => ?_)) (fun _ _ h => h) fun _ _ h => h.elim)
  cases r <;> exact h
theorem forC {Q : Flow → Shared → Prop} {E : Value → Shared → Prop} {x : Str} {px pos : Pos} {iter : PySem.Expr} {body : List Stmt} {n : Nat} {adr : List Addr} (J : List (Addr × Obj) → Prop) (hh : A.handled = none) (hx : env.kindOf x = some .local)
    (hp : (env.scope.kind == .class || (env.scope.kind == .module && env.locals != env.globals)) = false) (had : adr.Nodup) (hJ : ∀ nx, J nx → nx.map (·.1) = adr) (hn : Builtin.Range.small 0 n 1 = true) (hz : Builtin.Range.rangeSize 0 n 1 = (n : Int))
    (h : wpAny (model prog w) A (eval iter env) (fun xv s₁ => ∃ r t u v m nx, xv = .ref r ∧ (∃ h tk, s₁ = { s with heap := h, toks := tk }) ∧ IsRange s₁.heap r 0 n 1 t u v ∧ Fr h₀ env.locals s₁.heap m ∧ News h₀ env.locals s₁.heap nx ∧ J nx) E s)
    (step : ∀ I i nx m₁ (s₁ : Shared), (∃ h tk, s₁ = { s with heap := h, toks := tk }) → J nx → Fr h₀ env.locals s₁.heap m₁ → News h₀ env.locals s₁.heap ((I, rit (i + 1) n) :: nx) → ND ((I, rit (i + 1) n) :: nx) →
      wpC (model prog w) A (execs body env) (fun f s' => f = .next ∧ ∃ m₂ nx' h' tk', s' = { s₁ with heap := h', toks := tk' } ∧ Fr h₀ env.locals h' m₂ ∧ News h₀ env.locals h' ((I, rit (i + 1) n) :: nx') ∧ J nx') (fun _ _ => False) s₁)
    (done : ∀ m' nx h' tk', J nx → Fr h₀ env.locals h' m' → News h₀ env.locals h' nx → Q .next { s with heap := h', toks := tk' })
    (hs : ∀ x, foldedSetIterable iter env x = pure x := by intro _; rfl) : wpC (model prog w) A (exec (.For (.Name x px) iter body [] pos) env) Q E s := by
  rw [exec_For]
  refine wpC_bind (wpC_standAt (wpC_then (wpAny_mono h (fun xv s₁ h₁ => ?_) fun _ _ e => e)))
  obtain ⟨r, t, u, v, m, nx, rfl, ⟨hp1, tk1, rfl⟩, hr, F, N, hj⟩ := h₁
  refine wpC_then (wpAny_of_eq (hs _) (wpC_bind (wpC_standAt (wpC_then (wpAny_holding (wpAny_pyIter_range hr hn ?_))))))
  rw [hz]
  have hI0 : h₀.get? hp1.objs.size = none := by
    cases e : h₀.get? hp1.objs.size with
    | none => rfl
    | some o => exact absurd (Heap.lt_size (F.keep _ _ e)) (Nat.lt_irrefl _)
  have hIL : hp1.objs.size ≠ env.locals := fun e => by
    have := F.ns.lt
    rw [← e] at this
    exact Nat.lt_irrefl _ this
  have hIa : hp1.objs.size ∉ adr := fun e => by
    rw [← hJ nx hj] at e
    obtain ⟨p, hp, q⟩ := List.mem_map.mp e
    have := Heap.lt_size (N p hp).1
    rw [q] at this
    exact Nat.lt_irrefl _ this
  refine wpC_runOwn ?_
  exact codeC_for (s := s) (R := fun r s' => match r with | .ok f => Q f s' | .error _ => False) J hh hx hp hI0 hIL hIa had hJ (step _) done n 0 m nx _ _ (Nat.zero_add n) (by
    show (Heap.push _ _).get? _ = _
    rw [Heap.get?_push_size _ rfl]
    unfold rit
    simp) (F.push _) (fun p hp => ⟨Heap.get?_push_of_some _ (N p hp).1, (N p hp).2⟩) hj
end
end Mine
-- LD
namespace Mine
open PySem.Sem (wp)
theorem call_cellsC {prog : Program} {w : World} {A : Around} {R : Result → Shared → Prop} {s : Shared} {name : Str} {params : Arguments} {body : List Stmt} {scope : Scope}
    {pm cd doc : Value} {a : Addr} {o : Obj} {args : List Value} {binds : List (Str × Value)}
    (hroom : A.depth < recursionLimit) (ho : s.heap.get? a = some o) (hdata : o.data = .func (Calls.docDef name params body scope pm cd doc)) (hlim : s.heap.NoLimit) (hcd : s.heap.CodeRec cd name)
    (hbind : bindArgs (Calls.docDef name params body scope pm cd doc) ⟨args, []⟩ = pure binds)
    (hkind : ∀ x ∈ binds, scope.names.lookup x.1 = some .local ∨ (scope.names.lookup x.1 = some .cell ∧ ((cellsFrom (s.heap.objs.size + 1) scope.names []).lookup x.1).isSome = true))
    (hnd : ((cellsFrom 0 scope.names []).map (·.1)).Nodup)
    (h : ∀ h₁ tk cells, Fr s.heap s.heap.objs.size h₁ (bindL (envOfC name scope s.heap.objs.size a cd).kindOf binds fun _ => none) → News s.heap s.heap.objs.size h₁ cells →
      CellsAre (bindC (envOfC name scope s.heap.objs.size a cd).kindOf binds fun _ => none) (cellsFrom (s.heap.objs.size + 1) scope.names []) cells →
      wpC (model prog w) (A.deeper (envOfC name scope s.heap.objs.size a cd)) (execs body (envOfC name scope s.heap.objs.size a cd))
        (fun f s' => R (.ok (.ret (match f with | .ret v => v | _ => .none))) s') (fun _ _ => False)
        { s with heap := h₁, toks := tk })
    (hco : scope.isCoroutine = false := by rfl) (hgen : scope.isGenerator = false := by rfl) (hk : scope.kind = .function := by rfl) :
    codeC (model prog w) A (.call (.ref a) ⟨args, []⟩) R s := by
  refine codeC_call_function hroom ho hdata hco hgen rfl hcd (wpAny_of_eq hbind ?_)
  refine wpAny_newFunctionEnv_cells hk hkind fun env he s' X => ?_
  subst he
  obtain ⟨h₁, tk, rfl, _⟩ := X.done
  refine ⟨hlim.keeps X.toInCall.keep, codeC_func (wpC_mono (E := fun _ _ => False) ?_ (fun _ _ x => x) fun _ _ x => x.elim)⟩
  obtain ⟨cells, N, Y⟩ := Cl.news (h₀ := s.heap) (Nat.le_refl _) fun n c hm => ⟨X.cell n c (lookup_of_mem_nodup (cellsFrom_names scope.names 0 (s.heap.objs.size + 1) [] [] rfl ▸ hnd) hm), X.above n c hm⟩
  exact h h₁ tk cells ⟨X.toInCall.ns, X.toInCall.keep, X.toInCall.fresh⟩ N Y
end Mine
-- W1
namespace Mine

noncomputable abbrev LOOSE : List Str := looseW vu [Str.ofString "Segment", Str.ofString "Sender", Str.ofString "Tcb"]
theorem memTail {α : Type} {p a : α} {l : List α} (h : p ∈ l) : p ∈ a :: l := List.mem_cons_of_mem _ h
theorem units_make (A : Around) (args : Args) : (A.under (.builtin "type.__call__" args)).units = A.units + 1 := rfl
theorem fm0 (x : Int) {m : Int} (h : 0 < m) : 0 ≤ x.fmod m := Int.fmod_nonneg_of_pos x h
theorem fm1 (x : Int) {m : Int} (h : 0 < m) : x.fmod m < m := Int.fmod_lt_of_pos x h
theorem fd0 {x m : Int} (h : 0 ≤ x) (h' : 0 < m) : 0 ≤ x.fdiv m := Int.fdiv_nonneg h (Int.le_of_lt h')
theorem sq_fits {x y : Int} (h : x = y.fmod 2147483647) : IntMulOk x x := by
  have h0 := fm0 y (m := 2147483647) (by decide)
  have h1 := fm1 y (m := 2147483647) (by decide)
  rw [← h] at h0 h1
  exact IntMulOk.of_left (intBits_le_64 (by omega) (by omega))
end Mine
-- W2
namespace Mine
abbrev srcObj (a b : Int) (ta tb : Tok) (n : Nat) : Obj := listOf [.int a ta, .int b tb].toArray n
def SrcOk (a b : Int) : Prop := 0 ≤ a ∧ 0 ≤ b ∧ b < 2147483647
theorem getD_mem {ns : List Int} {v : Int} (h0 : 0 ≤ v) (h1 : v < (ns.length : Int)) : ns.getD v.toNat 0 ∈ ns := by
  have h2 : v.toNat < ns.length := by omega
  rw [List.getD_eq_getElem?_getD, List.getElem?_eq_getElem h2, Option.getD_some]
  exact List.getElem_mem h2
end Mine
-- D1
namespace Mine
variable {all rest : List (Addr × Obj)} {w : World} {mean : ExcName → Option Value} {mg mb : Str → Option Value} {A : Around} {env : Env} {outer : List Env} {A₀ : Around} {base h₀ : Heap} {L : Addr} {m : Str → Option Value} {s : Shared} {Q E : Value → Shared → Prop}
theorem sub_known {prog : Program} {w : World} {A : Around} {E : Value → Shared → Prop} {s : Shared} {h₀ : Heap} {L l : Addr} {news : List (Addr × Obj)} {value slice : PySem.Expr} {vs : List Value} {n j : Nat} {k : Int} {u : Tok} {v : Value} {Q : Value → Shared → Prop}
    (N : News h₀ L s.heap news) (hm : (l, W.listOf vs.toArray n) ∈ news) (hx : vs[j]? = some v) (h0 : 0 ≤ k) (hhi : k < 2 ^ 63) (hj : k.toNat = j) (h : Q v s)
    (hs : subscripted slice false (.ref l) (.int k u) = operate [.ref l, .int k u] (getItem (.ref l) (.int k u)) := by with_unfolding_all rfl) : wpAny (model prog w) A (subscriptTail value slice (.ref l) (.int k u)) Q E s := by
  have hl : s.heap.IsList l vs.toArray := ⟨_, (N _ hm).1, rfl, n, rfl⟩
  exact tail_any hl.typeIs slot_list_getitem.lookup (wpAny_getItem_list hl h0 hhi (by rw [hj]; simpa using hx) h) hs
theorem Pick.newsAll {h₀ h : Heap} {L : Addr} {S l rest : List (Addr × Obj)} (P : Pick S l rest) (N : News h₀ L h l) : News h₀ L h (S ++ rest) := fun p hp => N p (P.perm.mem_iff.mpr hp)
theorem Pick.ndAll {S l rest : List (Addr × Obj)} (P : Pick S l rest) (D : ND l) : ND (S ++ rest) := D.perm P.perm
theorem ND.two9 {x dx : Addr} {o o' : Obj} {r : List (Addr × Obj)} (h : AllLt dx r) (h2 : dx < x) (D : ND r) : ND ((x, o) :: (dx, o') :: r) := by
  have k : ∀ {l : List (Addr × Obj)}, AllLt dx l → AllLt x l := fun {l} => by
    induction l with
    | nil => exact fun _ => trivial
    | cons p l ih => exact fun q => ⟨Nat.lt_trans q.1 h2, ih q.2⟩
  exact ND.cons_lt ⟨h2, k h⟩ (ND.cons_lt h D)
inductive Suff (rest : List (Addr × Obj)) : List (Addr × Obj) → Prop
  | refl : Suff rest rest
  | tail {p R} : Suff rest R → Suff rest (p :: R)
theorem Suff.sub {rest R : List (Addr × Obj)} (h : Suff rest R) : List.Sublist rest R := by
  induction h with
  | refl => exact .refl _
  | tail _ ih => exact .cons _ ih
theorem Pick.finish {h₀ h : Heap} {L : Addr} {S al R rest : List (Addr × Obj)} {C : Prop} (N : News h₀ L h al) (P : Pick S al R) (U : Suff rest R) (D : ND al) (k : News h₀ L h (S ++ rest) → ND (S ++ rest) → C) : C := by
  have sb : List.Sublist (S ++ rest) (S ++ R) := List.Sublist.append_left U.sub S
  refine k (fun p hp => N p (P.perm.mem_iff.mpr (sb.subset hp))) ?_
  exact (D.perm P.perm : ((S ++ R).map (·.1)).Nodup).sublist (sb.map _)
theorem Pick.leave2 {h₀ g h h' : Heap} {L : Addr} {m : Str → Option Value} {S S' l rest al R : List (Addr × Obj)} {C : Prop} (P : Pick S l rest) (D : ND l) (N : News h₀ L h l) (F : Fr h₀ L h' m) (N0 : News h₀ L h' al) (fr : ∀ p ∈ al, g.get? p.1 = none)
    (kp : ∀ b o, h.get? b = some o → b ∉ S.map (·.1) → g.get? b = some o) (k : ∀ b o, g.get? b = some o → h'.get? b = some o) (P' : Pick S' al R) (D' : ND al) (ret : Fr h₀ L h' m → News h₀ L h' (S' ++ rest) → ND (S' ++ rest) → C) : C :=
  P.leave D N F N0 fr kp k (fun p hp => P'.perm.mem_iff.mpr (List.mem_append_left _ hp)) (P'.nd D') ret
def LimD (ring mss : Int) (o : Obj) : Prop := ∃ (t : Nat → Tok) (v : Nat → Value), Rec [(Str.ofString "ring", .int ring (t 0)), (Str.ofString "mss", .int mss (t 1)), (Str.ofString "send_room", .int 40 (t 2)), (Str.ofString "receive_room", .int 12 (t 3)), (Str.ofString "first_timeout", .int 6 (t 4)), (Str.ofString "least_timeout", .int 4 (t 5)), (Str.ofString "most_timeout", .int 24 (t 6)), (Str.ofString "most_tries", .int 3 (t 7)), (Str.ofString "ack_delay", .int 2 (t 8)), (Str.ofString "time_wait", .int 12 (t 9))] o
theorem LimD.h_ring {ring mss : Int} {o : Obj} (h : LimD ring mss o) : HasI o (Str.ofString "ring") ring := let ⟨t, v, R⟩ := h; ⟨(t 0), R.get (by kernel_rfl!)⟩
theorem LimD.h_mss {ring mss : Int} {o : Obj} (h : LimD ring mss o) : HasI o (Str.ofString "mss") mss := let ⟨t, v, R⟩ := h; ⟨(t 1), R.get (by kernel_rfl!)⟩
theorem LimD.h_send_room {ring mss : Int} {o : Obj} (h : LimD ring mss o) : HasI o (Str.ofString "send_room") 40 := let ⟨t, v, R⟩ := h; ⟨(t 2), R.get (by kernel_rfl!)⟩
theorem LimD.h_receive_room {ring mss : Int} {o : Obj} (h : LimD ring mss o) : HasI o (Str.ofString "receive_room") 12 := let ⟨t, v, R⟩ := h; ⟨(t 3), R.get (by kernel_rfl!)⟩
theorem LimD.h_first_timeout {ring mss : Int} {o : Obj} (h : LimD ring mss o) : HasI o (Str.ofString "first_timeout") 6 := let ⟨t, v, R⟩ := h; ⟨(t 4), R.get (by kernel_rfl!)⟩
theorem LimD.h_least_timeout {ring mss : Int} {o : Obj} (h : LimD ring mss o) : HasI o (Str.ofString "least_timeout") 4 := let ⟨t, v, R⟩ := h; ⟨(t 5), R.get (by kernel_rfl!)⟩
theorem LimD.h_most_timeout {ring mss : Int} {o : Obj} (h : LimD ring mss o) : HasI o (Str.ofString "most_timeout") 24 := let ⟨t, v, R⟩ := h; ⟨(t 6), R.get (by kernel_rfl!)⟩
theorem LimD.h_most_tries {ring mss : Int} {o : Obj} (h : LimD ring mss o) : HasI o (Str.ofString "most_tries") 3 := let ⟨t, v, R⟩ := h; ⟨(t 7), R.get (by kernel_rfl!)⟩
theorem LimD.h_ack_delay {ring mss : Int} {o : Obj} (h : LimD ring mss o) : HasI o (Str.ofString "ack_delay") 2 := let ⟨t, v, R⟩ := h; ⟨(t 8), R.get (by kernel_rfl!)⟩
theorem LimD.of {ring mss : Int} {t0 t1 t2 t3 t4 t5 t6 t7 t8 t9 : Tok} {o1 o2 o3 o4 o5 o6 o7 o8 o9 o10 : Obj} (s0 : SetO (dictOf [] 0) o1 (Str.ofString "ring") (.int ring t0)) (s1 : SetO o1 o2 (Str.ofString "mss") (.int mss t1)) (s2 : SetO o2 o3 (Str.ofString "send_room") (.int 40 t2)) (s3 : SetO o3 o4 (Str.ofString "receive_room") (.int 12 t3)) (s4 : SetO o4 o5 (Str.ofString "first_timeout") (.int 6 t4)) (s5 : SetO o5 o6 (Str.ofString "least_timeout") (.int 4 t5)) (s6 : SetO o6 o7 (Str.ofString "most_timeout") (.int 24 t6)) (s7 : SetO o7 o8 (Str.ofString "most_tries") (.int 3 t7)) (s8 : SetO o8 o9 (Str.ofString "ack_delay") (.int 2 t8)) (s9 : SetO o9 o10 (Str.ofString "time_wait") (.int 12 t9)) : LimD ring mss o10 := by
  have e : (recPut (Str.ofString "time_wait") (.int 12 t9) (recPut (Str.ofString "ack_delay") (.int 2 t8) (recPut (Str.ofString "most_tries") (.int 3 t7) (recPut (Str.ofString "most_timeout") (.int 24 t6) (recPut (Str.ofString "least_timeout") (.int 4 t5) (recPut (Str.ofString "first_timeout") (.int 6 t4) (recPut (Str.ofString "receive_room") (.int 12 t3) (recPut (Str.ofString "send_room") (.int 40 t2) (recPut (Str.ofString "mss") (.int mss t1) (recPut (Str.ofString "ring") (.int ring t0) [])))))))))) = [(Str.ofString "ring", .int ring ((fun n => [t0, t1, t2, t3, t4, t5, t6, t7, t8, t9].getD n t0) 0)), (Str.ofString "mss", .int mss ((fun n => [t0, t1, t2, t3, t4, t5, t6, t7, t8, t9].getD n t0) 1)), (Str.ofString "send_room", .int 40 ((fun n => [t0, t1, t2, t3, t4, t5, t6, t7, t8, t9].getD n t0) 2)), (Str.ofString "receive_room", .int 12 ((fun n => [t0, t1, t2, t3, t4, t5, t6, t7, t8, t9].getD n t0) 3)), (Str.ofString "first_timeout", .int 6 ((fun n => [t0, t1, t2, t3, t4, t5, t6, t7, t8, t9].getD n t0) 4)), (Str.ofString "least_timeout", .int 4 ((fun n => [t0, t1, t2, t3, t4, t5, t6, t7, t8, t9].getD n t0) 5)), (Str.ofString "most_timeout", .int 24 ((fun n => [t0, t1, t2, t3, t4, t5, t6, t7, t8, t9].getD n t0) 6)), (Str.ofString "most_tries", .int 3 ((fun n => [t0, t1, t2, t3, t4, t5, t6, t7, t8, t9].getD n t0) 7)), (Str.ofString "ack_delay", .int 2 ((fun n => [t0, t1, t2, t3, t4, t5, t6, t7, t8, t9].getD n t0) 8)), (Str.ofString "time_wait", .int 12 ((fun n => [t0, t1, t2, t3, t4, t5, t6, t7, t8, t9].getD n t0) 9))] := by kernel_rfl!
  exact ⟨(fun n => [t0, t1, t2, t3, t4, t5, t6, t7, t8, t9].getD n t0), (fun _ => .none), e ▸ (s9 _ (s8 _ (s7 _ (s6 _ (s5 _ (s4 _ (s3 _ (s2 _ (s1 _ (s0 _ Rec.empty))))))))))⟩
def SenD (iss ring mss una next gr : Int) (q : Addr) (sy fa fs : Bool) (o : Obj) : Prop := ∃ (t : Nat → Tok) (v : Nat → Value), Rec [(Str.ofString "iss", .int iss (t 0)), (Str.ofString "ring", .int ring (t 1)), (Str.ofString "mss", .int mss (t 2)), (Str.ofString "una", .int una (t 3)), (Str.ofString "next", .int next (t 4)), (Str.ofString "greatest", .int gr (t 5)), (Str.ofString "peer", (v 0)), (Str.ofString "queue", .ref q), (Str.ofString "syn_pending", .bool sy), (Str.ofString "fin_asked", .bool fa), (Str.ofString "fin_sent", .bool fs)] o
theorem SenD.small {iss ring mss una next gr : Int} {q : Addr} {sy fa fs : Bool} {o : Obj} (h : SenD iss ring mss una next gr q sy fa fs o) : Small 11 o := let ⟨_, _, R⟩ := h; R.small (Nat.le_refl _)
theorem SenD.lacks {iss ring mss una next gr : Int} {q : Addr} {sy fa fs : Bool} {o : Obj} (h : SenD iss ring mss una next gr q sy fa fs o) {name : Str} (hn : ([Str.ofString "iss", Str.ofString "ring", Str.ofString "mss", Str.ofString "una", Str.ofString "next", Str.ofString "greatest", Str.ofString "peer", Str.ofString "queue", Str.ofString "syn_pending", Str.ofString "fin_asked", Str.ofString "fin_sent"] : List Str).contains name = false) : Lacks o name := let ⟨_, _, R⟩ := h; R.lacks (recGet_none hn)
theorem SenD.h_iss {iss ring mss una next gr : Int} {q : Addr} {sy fa fs : Bool} {o : Obj} (h : SenD iss ring mss una next gr q sy fa fs o) : HasI o (Str.ofString "iss") iss := let ⟨t, v, R⟩ := h; ⟨(t 0), R.get (by kernel_rfl!)⟩
theorem SenD.h_ring {iss ring mss una next gr : Int} {q : Addr} {sy fa fs : Bool} {o : Obj} (h : SenD iss ring mss una next gr q sy fa fs o) : HasI o (Str.ofString "ring") ring := let ⟨t, v, R⟩ := h; ⟨(t 1), R.get (by kernel_rfl!)⟩
theorem SenD.h_mss {iss ring mss una next gr : Int} {q : Addr} {sy fa fs : Bool} {o : Obj} (h : SenD iss ring mss una next gr q sy fa fs o) : HasI o (Str.ofString "mss") mss := let ⟨t, v, R⟩ := h; ⟨(t 2), R.get (by kernel_rfl!)⟩
theorem SenD.h_una {iss ring mss una next gr : Int} {q : Addr} {sy fa fs : Bool} {o : Obj} (h : SenD iss ring mss una next gr q sy fa fs o) : HasI o (Str.ofString "una") una := let ⟨t, v, R⟩ := h; ⟨(t 3), R.get (by kernel_rfl!)⟩
theorem SenD.h_next {iss ring mss una next gr : Int} {q : Addr} {sy fa fs : Bool} {o : Obj} (h : SenD iss ring mss una next gr q sy fa fs o) : HasI o (Str.ofString "next") next := let ⟨t, v, R⟩ := h; ⟨(t 4), R.get (by kernel_rfl!)⟩
theorem SenD.h_greatest {iss ring mss una next gr : Int} {q : Addr} {sy fa fs : Bool} {o : Obj} (h : SenD iss ring mss una next gr q sy fa fs o) : HasI o (Str.ofString "greatest") gr := let ⟨t, v, R⟩ := h; ⟨(t 5), R.get (by kernel_rfl!)⟩
theorem SenD.h_queue {iss ring mss una next gr : Int} {q : Addr} {sy fa fs : Bool} {o : Obj} (h : SenD iss ring mss una next gr q sy fa fs o) : Has o (Str.ofString "queue") (.ref q) := let ⟨t, v, R⟩ := h; R.get (by kernel_rfl!)
theorem SenD.h_syn_pending {iss ring mss una next gr : Int} {q : Addr} {sy fa fs : Bool} {o : Obj} (h : SenD iss ring mss una next gr q sy fa fs o) : Has o (Str.ofString "syn_pending") (.bool sy) := let ⟨t, v, R⟩ := h; R.get (by kernel_rfl!)
theorem SenD.h_fin_asked {iss ring mss una next gr : Int} {q : Addr} {sy fa fs : Bool} {o : Obj} (h : SenD iss ring mss una next gr q sy fa fs o) : Has o (Str.ofString "fin_asked") (.bool fa) := let ⟨t, v, R⟩ := h; R.get (by kernel_rfl!)
theorem SenD.h_fin_sent {iss ring mss una next gr : Int} {q : Addr} {sy fa fs : Bool} {o : Obj} (h : SenD iss ring mss una next gr q sy fa fs o) : Has o (Str.ofString "fin_sent") (.bool fs) := let ⟨t, v, R⟩ := h; R.get (by kernel_rfl!)
theorem SenD.s_una {iss ring mss una next gr : Int} {q : Addr} {sy fa fs : Bool} {o o' : Obj} {x' : Int} {y' : Tok} (h : SenD iss ring mss una next gr q sy fa fs o) (so : SetO o o' (Str.ofString "una") (.int x' y')) : SenD iss ring mss x' next gr q sy fa fs o' := by
  obtain ⟨t, v, R⟩ := h
  have e : recPut (Str.ofString "una") (.int x' y') [(Str.ofString "iss", .int iss (t 0)), (Str.ofString "ring", .int ring (t 1)), (Str.ofString "mss", .int mss (t 2)), (Str.ofString "una", .int una (t 3)), (Str.ofString "next", .int next (t 4)), (Str.ofString "greatest", .int gr (t 5)), (Str.ofString "peer", (v 0)), (Str.ofString "queue", .ref q), (Str.ofString "syn_pending", .bool sy), (Str.ofString "fin_asked", .bool fa), (Str.ofString "fin_sent", .bool fs)] = [(Str.ofString "iss", .int iss ((fun i => if i = 3 then y' else t i) 0)), (Str.ofString "ring", .int ring ((fun i => if i = 3 then y' else t i) 1)), (Str.ofString "mss", .int mss ((fun i => if i = 3 then y' else t i) 2)), (Str.ofString "una", .int x' ((fun i => if i = 3 then y' else t i) 3)), (Str.ofString "next", .int next ((fun i => if i = 3 then y' else t i) 4)), (Str.ofString "greatest", .int gr ((fun i => if i = 3 then y' else t i) 5)), (Str.ofString "peer", (v 0)), (Str.ofString "queue", .ref q), (Str.ofString "syn_pending", .bool sy), (Str.ofString "fin_asked", .bool fa), (Str.ofString "fin_sent", .bool fs)] := by kernel_rfl!
  exact ⟨(fun i => if i = 3 then y' else t i), v, e ▸ so _ R⟩
theorem SenD.s_next {iss ring mss una next gr : Int} {q : Addr} {sy fa fs : Bool} {o o' : Obj} {x' : Int} {y' : Tok} (h : SenD iss ring mss una next gr q sy fa fs o) (so : SetO o o' (Str.ofString "next") (.int x' y')) : SenD iss ring mss una x' gr q sy fa fs o' := by
  obtain ⟨t, v, R⟩ := h
  have e : recPut (Str.ofString "next") (.int x' y') [(Str.ofString "iss", .int iss (t 0)), (Str.ofString "ring", .int ring (t 1)), (Str.ofString "mss", .int mss (t 2)), (Str.ofString "una", .int una (t 3)), (Str.ofString "next", .int next (t 4)), (Str.ofString "greatest", .int gr (t 5)), (Str.ofString "peer", (v 0)), (Str.ofString "queue", .ref q), (Str.ofString "syn_pending", .bool sy), (Str.ofString "fin_asked", .bool fa), (Str.ofString "fin_sent", .bool fs)] = [(Str.ofString "iss", .int iss ((fun i => if i = 4 then y' else t i) 0)), (Str.ofString "ring", .int ring ((fun i => if i = 4 then y' else t i) 1)), (Str.ofString "mss", .int mss ((fun i => if i = 4 then y' else t i) 2)), (Str.ofString "una", .int una ((fun i => if i = 4 then y' else t i) 3)), (Str.ofString "next", .int x' ((fun i => if i = 4 then y' else t i) 4)), (Str.ofString "greatest", .int gr ((fun i => if i = 4 then y' else t i) 5)), (Str.ofString "peer", (v 0)), (Str.ofString "queue", .ref q), (Str.ofString "syn_pending", .bool sy), (Str.ofString "fin_asked", .bool fa), (Str.ofString "fin_sent", .bool fs)] := by kernel_rfl!
  exact ⟨(fun i => if i = 4 then y' else t i), v, e ▸ so _ R⟩
theorem SenD.s_greatest {iss ring mss una next gr : Int} {q : Addr} {sy fa fs : Bool} {o o' : Obj} {x' : Int} {y' : Tok} (h : SenD iss ring mss una next gr q sy fa fs o) (so : SetO o o' (Str.ofString "greatest") (.int x' y')) : SenD iss ring mss una next x' q sy fa fs o' := by
  obtain ⟨t, v, R⟩ := h
  have e : recPut (Str.ofString "greatest") (.int x' y') [(Str.ofString "iss", .int iss (t 0)), (Str.ofString "ring", .int ring (t 1)), (Str.ofString "mss", .int mss (t 2)), (Str.ofString "una", .int una (t 3)), (Str.ofString "next", .int next (t 4)), (Str.ofString "greatest", .int gr (t 5)), (Str.ofString "peer", (v 0)), (Str.ofString "queue", .ref q), (Str.ofString "syn_pending", .bool sy), (Str.ofString "fin_asked", .bool fa), (Str.ofString "fin_sent", .bool fs)] = [(Str.ofString "iss", .int iss ((fun i => if i = 5 then y' else t i) 0)), (Str.ofString "ring", .int ring ((fun i => if i = 5 then y' else t i) 1)), (Str.ofString "mss", .int mss ((fun i => if i = 5 then y' else t i) 2)), (Str.ofString "una", .int una ((fun i => if i = 5 then y' else t i) 3)), (Str.ofString "next", .int next ((fun i => if i = 5 then y' else t i) 4)), (Str.ofString "greatest", .int x' ((fun i => if i = 5 then y' else t i) 5)), (Str.ofString "peer", (v 0)), (Str.ofString "queue", .ref q), (Str.ofString "syn_pending", .bool sy), (Str.ofString "fin_asked", .bool fa), (Str.ofString "fin_sent", .bool fs)] := by kernel_rfl!
  exact ⟨(fun i => if i = 5 then y' else t i), v, e ▸ so _ R⟩
theorem SenD.s_syn_pending {iss ring mss una next gr : Int} {q : Addr} {sy fa fs : Bool} {o o' : Obj} {x' : Bool} (h : SenD iss ring mss una next gr q sy fa fs o) (so : SetO o o' (Str.ofString "syn_pending") (.bool x')) : SenD iss ring mss una next gr q x' fa fs o' := by
  obtain ⟨t, v, R⟩ := h
  have e : recPut (Str.ofString "syn_pending") (.bool x') [(Str.ofString "iss", .int iss (t 0)), (Str.ofString "ring", .int ring (t 1)), (Str.ofString "mss", .int mss (t 2)), (Str.ofString "una", .int una (t 3)), (Str.ofString "next", .int next (t 4)), (Str.ofString "greatest", .int gr (t 5)), (Str.ofString "peer", (v 0)), (Str.ofString "queue", .ref q), (Str.ofString "syn_pending", .bool sy), (Str.ofString "fin_asked", .bool fa), (Str.ofString "fin_sent", .bool fs)] = [(Str.ofString "iss", .int iss (t 0)), (Str.ofString "ring", .int ring (t 1)), (Str.ofString "mss", .int mss (t 2)), (Str.ofString "una", .int una (t 3)), (Str.ofString "next", .int next (t 4)), (Str.ofString "greatest", .int gr (t 5)), (Str.ofString "peer", (v 0)), (Str.ofString "queue", .ref q), (Str.ofString "syn_pending", .bool x'), (Str.ofString "fin_asked", .bool fa), (Str.ofString "fin_sent", .bool fs)] := by kernel_rfl!
  exact ⟨t, v, e ▸ so _ R⟩
theorem SenD.s_fin_asked {iss ring mss una next gr : Int} {q : Addr} {sy fa fs : Bool} {o o' : Obj} {x' : Bool} (h : SenD iss ring mss una next gr q sy fa fs o) (so : SetO o o' (Str.ofString "fin_asked") (.bool x')) : SenD iss ring mss una next gr q sy x' fs o' := by
  obtain ⟨t, v, R⟩ := h
  have e : recPut (Str.ofString "fin_asked") (.bool x') [(Str.ofString "iss", .int iss (t 0)), (Str.ofString "ring", .int ring (t 1)), (Str.ofString "mss", .int mss (t 2)), (Str.ofString "una", .int una (t 3)), (Str.ofString "next", .int next (t 4)), (Str.ofString "greatest", .int gr (t 5)), (Str.ofString "peer", (v 0)), (Str.ofString "queue", .ref q), (Str.ofString "syn_pending", .bool sy), (Str.ofString "fin_asked", .bool fa), (Str.ofString "fin_sent", .bool fs)] = [(Str.ofString "iss", .int iss (t 0)), (Str.ofString "ring", .int ring (t 1)), (Str.ofString "mss", .int mss (t 2)), (Str.ofString "una", .int una (t 3)), (Str.ofString "next", .int next (t 4)), (Str.ofString "greatest", .int gr (t 5)), (Str.ofString "peer", (v 0)), (Str.ofString "queue", .ref q), (Str.ofString "syn_pending", .bool sy), (Str.ofString "fin_asked", .bool x'), (Str.ofString "fin_sent", .bool fs)] := by kernel_rfl!
  exact ⟨t, v, e ▸ so _ R⟩
theorem SenD.s_fin_sent {iss ring mss una next gr : Int} {q : Addr} {sy fa fs : Bool} {o o' : Obj} {x' : Bool} (h : SenD iss ring mss una next gr q sy fa fs o) (so : SetO o o' (Str.ofString "fin_sent") (.bool x')) : SenD iss ring mss una next gr q sy fa x' o' := by
  obtain ⟨t, v, R⟩ := h
  have e : recPut (Str.ofString "fin_sent") (.bool x') [(Str.ofString "iss", .int iss (t 0)), (Str.ofString "ring", .int ring (t 1)), (Str.ofString "mss", .int mss (t 2)), (Str.ofString "una", .int una (t 3)), (Str.ofString "next", .int next (t 4)), (Str.ofString "greatest", .int gr (t 5)), (Str.ofString "peer", (v 0)), (Str.ofString "queue", .ref q), (Str.ofString "syn_pending", .bool sy), (Str.ofString "fin_asked", .bool fa), (Str.ofString "fin_sent", .bool fs)] = [(Str.ofString "iss", .int iss (t 0)), (Str.ofString "ring", .int ring (t 1)), (Str.ofString "mss", .int mss (t 2)), (Str.ofString "una", .int una (t 3)), (Str.ofString "next", .int next (t 4)), (Str.ofString "greatest", .int gr (t 5)), (Str.ofString "peer", (v 0)), (Str.ofString "queue", .ref q), (Str.ofString "syn_pending", .bool sy), (Str.ofString "fin_asked", .bool fa), (Str.ofString "fin_sent", .bool x')] := by kernel_rfl!
  exact ⟨t, v, e ▸ so _ R⟩
theorem SenD.of {iss ring mss una next gr : Int} {q : Addr} {sy fa fs : Bool} {t0 t1 t2 t3 t4 t5 : Tok} {v0 : Value} {o1 o2 o3 o4 o5 o6 o7 o8 o9 o10 o11 : Obj} (s0 : SetO (dictOf [] 0) o1 (Str.ofString "iss") (.int iss t0)) (s1 : SetO o1 o2 (Str.ofString "ring") (.int ring t1)) (s2 : SetO o2 o3 (Str.ofString "mss") (.int mss t2)) (s3 : SetO o3 o4 (Str.ofString "una") (.int una t3)) (s4 : SetO o4 o5 (Str.ofString "next") (.int next t4)) (s5 : SetO o5 o6 (Str.ofString "greatest") (.int gr t5)) (s6 : SetO o6 o7 (Str.ofString "peer") (v0)) (s7 : SetO o7 o8 (Str.ofString "queue") (.ref q)) (s8 : SetO o8 o9 (Str.ofString "syn_pending") (.bool sy)) (s9 : SetO o9 o10 (Str.ofString "fin_asked") (.bool fa)) (s10 : SetO o10 o11 (Str.ofString "fin_sent") (.bool fs)) : SenD iss ring mss una next gr q sy fa fs o11 := by
  have e : (recPut (Str.ofString "fin_sent") (.bool fs) (recPut (Str.ofString "fin_asked") (.bool fa) (recPut (Str.ofString "syn_pending") (.bool sy) (recPut (Str.ofString "queue") (.ref q) (recPut (Str.ofString "peer") (v0) (recPut (Str.ofString "greatest") (.int gr t5) (recPut (Str.ofString "next") (.int next t4) (recPut (Str.ofString "una") (.int una t3) (recPut (Str.ofString "mss") (.int mss t2) (recPut (Str.ofString "ring") (.int ring t1) (recPut (Str.ofString "iss") (.int iss t0) []))))))))))) = [(Str.ofString "iss", .int iss ((fun n => [t0, t1, t2, t3, t4, t5].getD n t0) 0)), (Str.ofString "ring", .int ring ((fun n => [t0, t1, t2, t3, t4, t5].getD n t0) 1)), (Str.ofString "mss", .int mss ((fun n => [t0, t1, t2, t3, t4, t5].getD n t0) 2)), (Str.ofString "una", .int una ((fun n => [t0, t1, t2, t3, t4, t5].getD n t0) 3)), (Str.ofString "next", .int next ((fun n => [t0, t1, t2, t3, t4, t5].getD n t0) 4)), (Str.ofString "greatest", .int gr ((fun n => [t0, t1, t2, t3, t4, t5].getD n t0) 5)), (Str.ofString "peer", ((fun n => [v0].getD n v0) 0)), (Str.ofString "queue", .ref q), (Str.ofString "syn_pending", .bool sy), (Str.ofString "fin_asked", .bool fa), (Str.ofString "fin_sent", .bool fs)] := by kernel_rfl!
  exact ⟨(fun n => [t0, t1, t2, t3, t4, t5].getD n t0), (fun n => [v0].getD n v0), e ▸ (s10 _ (s9 _ (s8 _ (s7 _ (s6 _ (s5 _ (s4 _ (s3 _ (s2 _ (s1 _ (s0 _ Rec.empty)))))))))))⟩
def QueD (xs : Array UInt8) (o : Obj) : Prop := ∃ (t : Nat → Tok) (v : Nat → Value), Rec [(Str.ofString "room", .int 40 (t 0)), (Str.ofString "held", .bytes xs (t 1))] o
theorem QueD.small {xs : Array UInt8} {o : Obj} (h : QueD xs o) : Small 2 o := let ⟨_, _, R⟩ := h; R.small (Nat.le_refl _)
theorem QueD.lacks {xs : Array UInt8} {o : Obj} (h : QueD xs o) {name : Str} (hn : ([Str.ofString "room", Str.ofString "held"] : List Str).contains name = false) : Lacks o name := let ⟨_, _, R⟩ := h; R.lacks (recGet_none hn)
theorem QueD.h_room {xs : Array UInt8} {o : Obj} (h : QueD xs o) : HasI o (Str.ofString "room") 40 := let ⟨t, v, R⟩ := h; ⟨(t 0), R.get (by kernel_rfl!)⟩
theorem QueD.h_held {xs : Array UInt8} {o : Obj} (h : QueD xs o) : HasB o (Str.ofString "held") xs := let ⟨t, v, R⟩ := h; ⟨(t 1), R.get (by kernel_rfl!)⟩
theorem QueD.s_held {xs : Array UInt8} {o o' : Obj} {x' : Array UInt8} {y' : Tok} (h : QueD xs o) (so : SetO o o' (Str.ofString "held") (.bytes x' y')) : QueD x' o' := by
  obtain ⟨t, v, R⟩ := h
  have e : recPut (Str.ofString "held") (.bytes x' y') [(Str.ofString "room", .int 40 (t 0)), (Str.ofString "held", .bytes xs (t 1))] = [(Str.ofString "room", .int 40 ((fun i => if i = 1 then y' else t i) 0)), (Str.ofString "held", .bytes x' ((fun i => if i = 1 then y' else t i) 1))] := by kernel_rfl!
  exact ⟨(fun i => if i = 1 then y' else t i), v, e ▸ so _ R⟩
theorem QueD.of {xs : Array UInt8} {t0 t1 : Tok} {o1 o2 : Obj} (s0 : SetO (dictOf [] 0) o1 (Str.ofString "room") (.int 40 t0)) (s1 : SetO o1 o2 (Str.ofString "held") (.bytes xs t1)) : QueD xs o2 := by
  have e : (recPut (Str.ofString "held") (.bytes xs t1) (recPut (Str.ofString "room") (.int 40 t0) [])) = [(Str.ofString "room", .int 40 ((fun n => [t0, t1].getD n t0) 0)), (Str.ofString "held", .bytes xs ((fun n => [t0, t1].getD n t0) 1))] := by kernel_rfl!
  exact ⟨(fun n => [t0, t1].getD n t0), (fun _ => .none), e ▸ (s1 _ (s0 _ Rec.empty))⟩
def ClkD (te : Value) (o : Obj) : Prop := ∃ (t : Nat → Tok) (v : Nat → Value), Rec [(Str.ofString "estimate", (v 0)), (Str.ofString "most_tries", .int 3 (t 0)), (Str.ofString "tries", .int 0 (t 1)), (Str.ofString "timed_end", te), (Str.ofString "timed_at", (v 1))] o
theorem ClkD.small {te : Value} {o : Obj} (h : ClkD te o) : Small 5 o := let ⟨_, _, R⟩ := h; R.small (Nat.le_refl _)
theorem ClkD.lacks {te : Value} {o : Obj} (h : ClkD te o) {name : Str} (hn : ([Str.ofString "estimate", Str.ofString "most_tries", Str.ofString "tries", Str.ofString "timed_end", Str.ofString "timed_at"] : List Str).contains name = false) : Lacks o name := let ⟨_, _, R⟩ := h; R.lacks (recGet_none hn)
theorem ClkD.h_tries {te : Value} {o : Obj} (h : ClkD te o) : HasI o (Str.ofString "tries") 0 := let ⟨t, v, R⟩ := h; ⟨(t 1), R.get (by kernel_rfl!)⟩
theorem ClkD.h_timed_end {te : Value} {o : Obj} (h : ClkD te o) : Has o (Str.ofString "timed_end") te := let ⟨t, v, R⟩ := h; R.get (by kernel_rfl!)
theorem ClkD.s_timed_end {te : Value} {o o' : Obj} {x' : Value} (h : ClkD te o) (so : SetO o o' (Str.ofString "timed_end") x') : ClkD x' o' := by
  obtain ⟨t, v, R⟩ := h
  have e : recPut (Str.ofString "timed_end") x' [(Str.ofString "estimate", (v 0)), (Str.ofString "most_tries", .int 3 (t 0)), (Str.ofString "tries", .int 0 (t 1)), (Str.ofString "timed_end", te), (Str.ofString "timed_at", (v 1))] = [(Str.ofString "estimate", (v 0)), (Str.ofString "most_tries", .int 3 (t 0)), (Str.ofString "tries", .int 0 (t 1)), (Str.ofString "timed_end", x'), (Str.ofString "timed_at", (v 1))] := by kernel_rfl!
  exact ⟨t, v, e ▸ so _ R⟩
theorem ClkD.s_timed_at {te : Value} {o o' : Obj} {x' : Value} (h : ClkD te o) (so : SetO o o' (Str.ofString "timed_at") x') : ClkD te o' := by
  obtain ⟨t, v, R⟩ := h
  have e : recPut (Str.ofString "timed_at") x' [(Str.ofString "estimate", (v 0)), (Str.ofString "most_tries", .int 3 (t 0)), (Str.ofString "tries", .int 0 (t 1)), (Str.ofString "timed_end", te), (Str.ofString "timed_at", (v 1))] = [(Str.ofString "estimate", ((fun i => if i = 1 then x' else v i) 0)), (Str.ofString "most_tries", .int 3 (t 0)), (Str.ofString "tries", .int 0 (t 1)), (Str.ofString "timed_end", te), (Str.ofString "timed_at", ((fun i => if i = 1 then x' else v i) 1))] := by kernel_rfl!
  exact ⟨t, (fun i => if i = 1 then x' else v i), e ▸ so _ R⟩
theorem ClkD.of {te : Value} {t0 t1 : Tok} {v0 v1 : Value} {o1 o2 o3 o4 o5 : Obj} (s0 : SetO (dictOf [] 0) o1 (Str.ofString "estimate") (v0)) (s1 : SetO o1 o2 (Str.ofString "most_tries") (.int 3 t0)) (s2 : SetO o2 o3 (Str.ofString "tries") (.int 0 t1)) (s3 : SetO o3 o4 (Str.ofString "timed_end") (te)) (s4 : SetO o4 o5 (Str.ofString "timed_at") (v1)) : ClkD te o5 := by
  have e : (recPut (Str.ofString "timed_at") (v1) (recPut (Str.ofString "timed_end") (te) (recPut (Str.ofString "tries") (.int 0 t1) (recPut (Str.ofString "most_tries") (.int 3 t0) (recPut (Str.ofString "estimate") (v0) []))))) = [(Str.ofString "estimate", ((fun n => [v0, v1].getD n v0) 0)), (Str.ofString "most_tries", .int 3 ((fun n => [t0, t1].getD n t0) 0)), (Str.ofString "tries", .int 0 ((fun n => [t0, t1].getD n t0) 1)), (Str.ofString "timed_end", te), (Str.ofString "timed_at", ((fun n => [v0, v1].getD n v0) 1))] := by kernel_rfl!
  exact ⟨(fun n => [t0, t1].getD n t0), (fun n => [v0, v1].getD n v0), e ▸ (s4 _ (s3 _ (s2 _ (s1 _ (s0 _ Rec.empty)))))⟩
def AckD (wt hg : Value) (due : Value) (o : Obj) : Prop := ∃ (t : Nat → Tok) (v : Nat → Value), Rec [(Str.ofString "delay", .int 2 (t 0)), (Str.ofString "waiting", wt), (Str.ofString "due", due), (Str.ofString "has_gap", hg)] o
theorem AckD.small {wt hg : Value} {due : Value} {o : Obj} (h : AckD wt hg due o) : Small 4 o := let ⟨_, _, R⟩ := h; R.small (Nat.le_refl _)
theorem AckD.lacks {wt hg : Value} {due : Value} {o : Obj} (h : AckD wt hg due o) {name : Str} (hn : ([Str.ofString "delay", Str.ofString "waiting", Str.ofString "due", Str.ofString "has_gap"] : List Str).contains name = false) : Lacks o name := let ⟨_, _, R⟩ := h; R.lacks (recGet_none hn)
theorem AckD.h_delay {wt hg : Value} {due : Value} {o : Obj} (h : AckD wt hg due o) : HasI o (Str.ofString "delay") 2 := let ⟨t, v, R⟩ := h; ⟨(t 0), R.get (by kernel_rfl!)⟩
theorem AckD.h_waiting {wt hg : Value} {due : Value} {o : Obj} (h : AckD wt hg due o) : Has o (Str.ofString "waiting") wt := let ⟨t, v, R⟩ := h; R.get (by kernel_rfl!)
theorem AckD.h_due {wt hg : Value} {due : Value} {o : Obj} (h : AckD wt hg due o) : Has o (Str.ofString "due") due := let ⟨t, v, R⟩ := h; R.get (by kernel_rfl!)
theorem AckD.h_has_gap {wt hg : Value} {due : Value} {o : Obj} (h : AckD wt hg due o) : Has o (Str.ofString "has_gap") hg := let ⟨t, v, R⟩ := h; R.get (by kernel_rfl!)
theorem AckD.s_waiting {wt hg : Value} {due : Value} {o o' : Obj} {x' : Value} (h : AckD wt hg due o) (so : SetO o o' (Str.ofString "waiting") x') : AckD x' hg due o' := by
  obtain ⟨t, v, R⟩ := h
  have e : recPut (Str.ofString "waiting") x' [(Str.ofString "delay", .int 2 (t 0)), (Str.ofString "waiting", wt), (Str.ofString "due", due), (Str.ofString "has_gap", hg)] = [(Str.ofString "delay", .int 2 (t 0)), (Str.ofString "waiting", x'), (Str.ofString "due", due), (Str.ofString "has_gap", hg)] := by kernel_rfl!
  exact ⟨t, v, e ▸ so _ R⟩
theorem AckD.s_due {wt hg : Value} {due : Value} {o o' : Obj} {x' : Value} (h : AckD wt hg due o) (so : SetO o o' (Str.ofString "due") x') : AckD wt hg x' o' := by
  obtain ⟨t, v, R⟩ := h
  have e : recPut (Str.ofString "due") x' [(Str.ofString "delay", .int 2 (t 0)), (Str.ofString "waiting", wt), (Str.ofString "due", due), (Str.ofString "has_gap", hg)] = [(Str.ofString "delay", .int 2 (t 0)), (Str.ofString "waiting", wt), (Str.ofString "due", x'), (Str.ofString "has_gap", hg)] := by kernel_rfl!
  exact ⟨t, v, e ▸ so _ R⟩
theorem AckD.s_has_gap {wt hg : Value} {due : Value} {o o' : Obj} {x' : Value} (h : AckD wt hg due o) (so : SetO o o' (Str.ofString "has_gap") x') : AckD wt x' due o' := by
  obtain ⟨t, v, R⟩ := h
  have e : recPut (Str.ofString "has_gap") x' [(Str.ofString "delay", .int 2 (t 0)), (Str.ofString "waiting", wt), (Str.ofString "due", due), (Str.ofString "has_gap", hg)] = [(Str.ofString "delay", .int 2 (t 0)), (Str.ofString "waiting", wt), (Str.ofString "due", due), (Str.ofString "has_gap", x')] := by kernel_rfl!
  exact ⟨t, v, e ▸ so _ R⟩
theorem AckD.of {wt hg : Value} {due : Value} {t0 : Tok} {o1 o2 o3 o4 : Obj} (s0 : SetO (dictOf [] 0) o1 (Str.ofString "delay") (.int 2 t0)) (s1 : SetO o1 o2 (Str.ofString "waiting") (wt)) (s2 : SetO o2 o3 (Str.ofString "due") (due)) (s3 : SetO o3 o4 (Str.ofString "has_gap") (hg)) : AckD wt hg due o4 := by
  have e : (recPut (Str.ofString "has_gap") (hg) (recPut (Str.ofString "due") (due) (recPut (Str.ofString "waiting") (wt) (recPut (Str.ofString "delay") (.int 2 t0) [])))) = [(Str.ofString "delay", .int 2 ((fun n => [t0].getD n t0) 0)), (Str.ofString "waiting", wt), (Str.ofString "due", due), (Str.ofString "has_gap", hg)] := by kernel_rfl!
  exact ⟨(fun n => [t0].getD n t0), (fun _ => .none), e ▸ (s3 _ (s2 _ (s1 _ (s0 _ Rec.empty))))⟩
def WhlD (sl lt en : Addr) (gn : Int) (o : Obj) : Prop := ∃ (t : Nat → Tok) (v : Nat → Value), Rec [(Str.ofString "size", .int 16 (t 0)), (Str.ofString "slots", .ref sl), (Str.ofString "late", .ref lt), (Str.ofString "entries", .ref en), (Str.ofString "reached", .none), (Str.ofString "given", .int gn (t 1))] o
theorem WhlD.small {sl lt en : Addr} {gn : Int} {o : Obj} (h : WhlD sl lt en gn o) : Small 6 o := let ⟨_, _, R⟩ := h; R.small (Nat.le_refl _)
theorem WhlD.lacks {sl lt en : Addr} {gn : Int} {o : Obj} (h : WhlD sl lt en gn o) {name : Str} (hn : ([Str.ofString "size", Str.ofString "slots", Str.ofString "late", Str.ofString "entries", Str.ofString "reached", Str.ofString "given"] : List Str).contains name = false) : Lacks o name := let ⟨_, _, R⟩ := h; R.lacks (recGet_none hn)
theorem WhlD.h_size {sl lt en : Addr} {gn : Int} {o : Obj} (h : WhlD sl lt en gn o) : HasI o (Str.ofString "size") 16 := let ⟨t, v, R⟩ := h; ⟨(t 0), R.get (by kernel_rfl!)⟩
theorem WhlD.h_slots {sl lt en : Addr} {gn : Int} {o : Obj} (h : WhlD sl lt en gn o) : Has o (Str.ofString "slots") (.ref sl) := let ⟨t, v, R⟩ := h; R.get (by kernel_rfl!)
theorem WhlD.h_late {sl lt en : Addr} {gn : Int} {o : Obj} (h : WhlD sl lt en gn o) : Has o (Str.ofString "late") (.ref lt) := let ⟨t, v, R⟩ := h; R.get (by kernel_rfl!)
theorem WhlD.h_entries {sl lt en : Addr} {gn : Int} {o : Obj} (h : WhlD sl lt en gn o) : Has o (Str.ofString "entries") (.ref en) := let ⟨t, v, R⟩ := h; R.get (by kernel_rfl!)
theorem WhlD.h_reached {sl lt en : Addr} {gn : Int} {o : Obj} (h : WhlD sl lt en gn o) : Has o (Str.ofString "reached") .none := let ⟨t, v, R⟩ := h; R.get (by kernel_rfl!)
theorem WhlD.h_given {sl lt en : Addr} {gn : Int} {o : Obj} (h : WhlD sl lt en gn o) : HasI o (Str.ofString "given") gn := let ⟨t, v, R⟩ := h; ⟨(t 1), R.get (by kernel_rfl!)⟩
theorem WhlD.s_given {sl lt en : Addr} {gn : Int} {o o' : Obj} {x' : Int} {y' : Tok} (h : WhlD sl lt en gn o) (so : SetO o o' (Str.ofString "given") (.int x' y')) : WhlD sl lt en x' o' := by
  obtain ⟨t, v, R⟩ := h
  have e : recPut (Str.ofString "given") (.int x' y') [(Str.ofString "size", .int 16 (t 0)), (Str.ofString "slots", .ref sl), (Str.ofString "late", .ref lt), (Str.ofString "entries", .ref en), (Str.ofString "reached", .none), (Str.ofString "given", .int gn (t 1))] = [(Str.ofString "size", .int 16 ((fun i => if i = 1 then y' else t i) 0)), (Str.ofString "slots", .ref sl), (Str.ofString "late", .ref lt), (Str.ofString "entries", .ref en), (Str.ofString "reached", .none), (Str.ofString "given", .int x' ((fun i => if i = 1 then y' else t i) 1))] := by kernel_rfl!
  exact ⟨(fun i => if i = 1 then y' else t i), v, e ▸ so _ R⟩
theorem WhlD.of {sl lt en : Addr} {gn : Int} {t0 t1 : Tok} {o1 o2 o3 o4 o5 o6 : Obj} (s0 : SetO (dictOf [] 0) o1 (Str.ofString "size") (.int 16 t0)) (s1 : SetO o1 o2 (Str.ofString "slots") (.ref sl)) (s2 : SetO o2 o3 (Str.ofString "late") (.ref lt)) (s3 : SetO o3 o4 (Str.ofString "entries") (.ref en)) (s4 : SetO o4 o5 (Str.ofString "reached") (.none)) (s5 : SetO o5 o6 (Str.ofString "given") (.int gn t1)) : WhlD sl lt en gn o6 := by
  have e : (recPut (Str.ofString "given") (.int gn t1) (recPut (Str.ofString "reached") (.none) (recPut (Str.ofString "entries") (.ref en) (recPut (Str.ofString "late") (.ref lt) (recPut (Str.ofString "slots") (.ref sl) (recPut (Str.ofString "size") (.int 16 t0) [])))))) = [(Str.ofString "size", .int 16 ((fun n => [t0, t1].getD n t0) 0)), (Str.ofString "slots", .ref sl), (Str.ofString "late", .ref lt), (Str.ofString "entries", .ref en), (Str.ofString "reached", .none), (Str.ofString "given", .int gn ((fun n => [t0, t1].getD n t0) 1))] := by kernel_rfl!
  exact ⟨(fun n => [t0, t1].getD n t0), (fun _ => .none), e ▸ (s5 _ (s4 _ (s3 _ (s2 _ (s1 _ (s0 _ Rec.empty))))))⟩
def TcbD (lim lo re sn : Addr) (rv : Value) (c a wh : Addr) (o : Obj) : Prop := ∃ (t : Nat → Tok) (v : Nat → Value), Rec [(Str.ofString "limits", .ref lim), (Str.ofString "local", .ref lo), (Str.ofString "remote", .ref re), (Str.ofString "state", (v 0)), (Str.ofString "sender", .ref sn), (Str.ofString "receiver", rv), (Str.ofString "clock", .ref c), (Str.ofString "congestion", (v 1)), (Str.ofString "acks", .ref a), (Str.ofString "wheel", .ref wh), (Str.ofString "error", .none), (Str.ofString "probes", (v 2)), (Str.ofString "unanswered", (v 3)), (Str.ofString "is_nagle", .bool true)] o
theorem TcbD.small {lim lo re sn : Addr} {rv : Value} {c a wh : Addr} {o : Obj} (h : TcbD lim lo re sn rv c a wh o) : Small 14 o := let ⟨_, _, R⟩ := h; R.small (Nat.le_refl _)
theorem TcbD.lacks {lim lo re sn : Addr} {rv : Value} {c a wh : Addr} {o : Obj} (h : TcbD lim lo re sn rv c a wh o) {name : Str} (hn : ([Str.ofString "limits", Str.ofString "local", Str.ofString "remote", Str.ofString "state", Str.ofString "sender", Str.ofString "receiver", Str.ofString "clock", Str.ofString "congestion", Str.ofString "acks", Str.ofString "wheel", Str.ofString "error", Str.ofString "probes", Str.ofString "unanswered", Str.ofString "is_nagle"] : List Str).contains name = false) : Lacks o name := let ⟨_, _, R⟩ := h; R.lacks (recGet_none hn)
theorem TcbD.h_limits {lim lo re sn : Addr} {rv : Value} {c a wh : Addr} {o : Obj} (h : TcbD lim lo re sn rv c a wh o) : Has o (Str.ofString "limits") (.ref lim) := let ⟨t, v, R⟩ := h; R.get (by kernel_rfl!)
theorem TcbD.h_local {lim lo re sn : Addr} {rv : Value} {c a wh : Addr} {o : Obj} (h : TcbD lim lo re sn rv c a wh o) : Has o (Str.ofString "local") (.ref lo) := let ⟨t, v, R⟩ := h; R.get (by kernel_rfl!)
theorem TcbD.h_remote {lim lo re sn : Addr} {rv : Value} {c a wh : Addr} {o : Obj} (h : TcbD lim lo re sn rv c a wh o) : Has o (Str.ofString "remote") (.ref re) := let ⟨t, v, R⟩ := h; R.get (by kernel_rfl!)
theorem TcbD.h_sender {lim lo re sn : Addr} {rv : Value} {c a wh : Addr} {o : Obj} (h : TcbD lim lo re sn rv c a wh o) : Has o (Str.ofString "sender") (.ref sn) := let ⟨t, v, R⟩ := h; R.get (by kernel_rfl!)
theorem TcbD.h_receiver {lim lo re sn : Addr} {rv : Value} {c a wh : Addr} {o : Obj} (h : TcbD lim lo re sn rv c a wh o) : Has o (Str.ofString "receiver") rv := let ⟨t, v, R⟩ := h; R.get (by kernel_rfl!)
theorem TcbD.h_clock {lim lo re sn : Addr} {rv : Value} {c a wh : Addr} {o : Obj} (h : TcbD lim lo re sn rv c a wh o) : Has o (Str.ofString "clock") (.ref c) := let ⟨t, v, R⟩ := h; R.get (by kernel_rfl!)
theorem TcbD.h_acks {lim lo re sn : Addr} {rv : Value} {c a wh : Addr} {o : Obj} (h : TcbD lim lo re sn rv c a wh o) : Has o (Str.ofString "acks") (.ref a) := let ⟨t, v, R⟩ := h; R.get (by kernel_rfl!)
theorem TcbD.h_wheel {lim lo re sn : Addr} {rv : Value} {c a wh : Addr} {o : Obj} (h : TcbD lim lo re sn rv c a wh o) : Has o (Str.ofString "wheel") (.ref wh) := let ⟨t, v, R⟩ := h; R.get (by kernel_rfl!)
theorem TcbD.s_receiver {lim lo re sn : Addr} {rv : Value} {c a wh : Addr} {o o' : Obj} {x' : Value} (h : TcbD lim lo re sn rv c a wh o) (so : SetO o o' (Str.ofString "receiver") x') : TcbD lim lo re sn x' c a wh o' := by
  obtain ⟨t, v, R⟩ := h
  have e : recPut (Str.ofString "receiver") x' [(Str.ofString "limits", .ref lim), (Str.ofString "local", .ref lo), (Str.ofString "remote", .ref re), (Str.ofString "state", (v 0)), (Str.ofString "sender", .ref sn), (Str.ofString "receiver", rv), (Str.ofString "clock", .ref c), (Str.ofString "congestion", (v 1)), (Str.ofString "acks", .ref a), (Str.ofString "wheel", .ref wh), (Str.ofString "error", .none), (Str.ofString "probes", (v 2)), (Str.ofString "unanswered", (v 3)), (Str.ofString "is_nagle", .bool true)] = [(Str.ofString "limits", .ref lim), (Str.ofString "local", .ref lo), (Str.ofString "remote", .ref re), (Str.ofString "state", (v 0)), (Str.ofString "sender", .ref sn), (Str.ofString "receiver", x'), (Str.ofString "clock", .ref c), (Str.ofString "congestion", (v 1)), (Str.ofString "acks", .ref a), (Str.ofString "wheel", .ref wh), (Str.ofString "error", .none), (Str.ofString "probes", (v 2)), (Str.ofString "unanswered", (v 3)), (Str.ofString "is_nagle", .bool true)] := by kernel_rfl!
  exact ⟨t, v, e ▸ so _ R⟩
theorem TcbD.of {lim lo re sn : Addr} {rv : Value} {c a wh : Addr} {v0 v1 v2 v3 : Value} {o1 o2 o3 o4 o5 o6 o7 o8 o9 o10 o11 o12 o13 o14 : Obj} (s0 : SetO (dictOf [] 0) o1 (Str.ofString "limits") (.ref lim)) (s1 : SetO o1 o2 (Str.ofString "local") (.ref lo)) (s2 : SetO o2 o3 (Str.ofString "remote") (.ref re)) (s3 : SetO o3 o4 (Str.ofString "state") (v0)) (s4 : SetO o4 o5 (Str.ofString "sender") (.ref sn)) (s5 : SetO o5 o6 (Str.ofString "receiver") (rv)) (s6 : SetO o6 o7 (Str.ofString "clock") (.ref c)) (s7 : SetO o7 o8 (Str.ofString "congestion") (v1)) (s8 : SetO o8 o9 (Str.ofString "acks") (.ref a)) (s9 : SetO o9 o10 (Str.ofString "wheel") (.ref wh)) (s10 : SetO o10 o11 (Str.ofString "error") (.none)) (s11 : SetO o11 o12 (Str.ofString "probes") (v2)) (s12 : SetO o12 o13 (Str.ofString "unanswered") (v3)) (s13 : SetO o13 o14 (Str.ofString "is_nagle") (.bool true)) : TcbD lim lo re sn rv c a wh o14 := by
  have e : (recPut (Str.ofString "is_nagle") (.bool true) (recPut (Str.ofString "unanswered") (v3) (recPut (Str.ofString "probes") (v2) (recPut (Str.ofString "error") (.none) (recPut (Str.ofString "wheel") (.ref wh) (recPut (Str.ofString "acks") (.ref a) (recPut (Str.ofString "congestion") (v1) (recPut (Str.ofString "clock") (.ref c) (recPut (Str.ofString "receiver") (rv) (recPut (Str.ofString "sender") (.ref sn) (recPut (Str.ofString "state") (v0) (recPut (Str.ofString "remote") (.ref re) (recPut (Str.ofString "local") (.ref lo) (recPut (Str.ofString "limits") (.ref lim) [])))))))))))))) = [(Str.ofString "limits", .ref lim), (Str.ofString "local", .ref lo), (Str.ofString "remote", .ref re), (Str.ofString "state", ((fun n => [v0, v1, v2, v3].getD n v0) 0)), (Str.ofString "sender", .ref sn), (Str.ofString "receiver", rv), (Str.ofString "clock", .ref c), (Str.ofString "congestion", ((fun n => [v0, v1, v2, v3].getD n v0) 1)), (Str.ofString "acks", .ref a), (Str.ofString "wheel", .ref wh), (Str.ofString "error", .none), (Str.ofString "probes", ((fun n => [v0, v1, v2, v3].getD n v0) 2)), (Str.ofString "unanswered", ((fun n => [v0, v1, v2, v3].getD n v0) 3)), (Str.ofString "is_nagle", .bool true)] := by kernel_rfl!
  exact ⟨(fun _ => 0), (fun n => [v0, v1, v2, v3].getD n v0), e ▸ (s13 _ (s12 _ (s11 _ (s10 _ (s9 _ (s8 _ (s7 _ (s6 _ (s5 _ (s4 _ (s3 _ (s2 _ (s1 _ (s0 _ Rec.empty))))))))))))))⟩
def RecD (ring mss : Int) (nx te : Int) (ra : Addr) (o : Obj) : Prop := ∃ (t : Nat → Tok) (v : Nat → Value), Rec [(Str.ofString "ring", .int ring (t 0)), (Str.ofString "room", .int 12 (t 1)), (Str.ofString "mss", .int mss (t 2)), (Str.ofString "next", .int nx (t 3)), (Str.ofString "ready", .ref ra), (Str.ofString "assembly", (v 0)), (Str.ofString "told_edge", .int te (t 4)), (Str.ofString "fin_at", .none), (Str.ofString "has_fin", .bool false), (Str.ofString "urgent_at", .none)] o
theorem RecD.lacks {ring mss : Int} {nx te : Int} {ra : Addr} {o : Obj} (h : RecD ring mss nx te ra o) {name : Str} (hn : ([Str.ofString "ring", Str.ofString "room", Str.ofString "mss", Str.ofString "next", Str.ofString "ready", Str.ofString "assembly", Str.ofString "told_edge", Str.ofString "fin_at", Str.ofString "has_fin", Str.ofString "urgent_at"] : List Str).contains name = false) : Lacks o name := let ⟨_, _, R⟩ := h; R.lacks (recGet_none hn)
theorem RecD.h_ring {ring mss : Int} {nx te : Int} {ra : Addr} {o : Obj} (h : RecD ring mss nx te ra o) : HasI o (Str.ofString "ring") ring := let ⟨t, v, R⟩ := h; ⟨(t 0), R.get (by kernel_rfl!)⟩
theorem RecD.h_room {ring mss : Int} {nx te : Int} {ra : Addr} {o : Obj} (h : RecD ring mss nx te ra o) : HasI o (Str.ofString "room") 12 := let ⟨t, v, R⟩ := h; ⟨(t 1), R.get (by kernel_rfl!)⟩
theorem RecD.h_mss {ring mss : Int} {nx te : Int} {ra : Addr} {o : Obj} (h : RecD ring mss nx te ra o) : HasI o (Str.ofString "mss") mss := let ⟨t, v, R⟩ := h; ⟨(t 2), R.get (by kernel_rfl!)⟩
theorem RecD.h_next {ring mss : Int} {nx te : Int} {ra : Addr} {o : Obj} (h : RecD ring mss nx te ra o) : HasI o (Str.ofString "next") nx := let ⟨t, v, R⟩ := h; ⟨(t 3), R.get (by kernel_rfl!)⟩
theorem RecD.h_ready {ring mss : Int} {nx te : Int} {ra : Addr} {o : Obj} (h : RecD ring mss nx te ra o) : Has o (Str.ofString "ready") (.ref ra) := let ⟨t, v, R⟩ := h; R.get (by kernel_rfl!)
theorem RecD.h_told_edge {ring mss : Int} {nx te : Int} {ra : Addr} {o : Obj} (h : RecD ring mss nx te ra o) : HasI o (Str.ofString "told_edge") te := let ⟨t, v, R⟩ := h; ⟨(t 4), R.get (by kernel_rfl!)⟩
theorem RecD.h_has_fin {ring mss : Int} {nx te : Int} {ra : Addr} {o : Obj} (h : RecD ring mss nx te ra o) : Has o (Str.ofString "has_fin") (.bool false) := let ⟨t, v, R⟩ := h; R.get (by kernel_rfl!)
theorem RecD.of {ring mss : Int} {nx te : Int} {ra : Addr} {t0 t1 t2 t3 t4 : Tok} {v0 : Value} {o1 o2 o3 o4 o5 o6 o7 o8 o9 o10 : Obj} (s0 : SetO (dictOf [] 0) o1 (Str.ofString "ring") (.int ring t0)) (s1 : SetO o1 o2 (Str.ofString "room") (.int 12 t1)) (s2 : SetO o2 o3 (Str.ofString "mss") (.int mss t2)) (s3 : SetO o3 o4 (Str.ofString "next") (.int nx t3)) (s4 : SetO o4 o5 (Str.ofString "ready") (.ref ra)) (s5 : SetO o5 o6 (Str.ofString "assembly") (v0)) (s6 : SetO o6 o7 (Str.ofString "told_edge") (.int te t4)) (s7 : SetO o7 o8 (Str.ofString "fin_at") (.none)) (s8 : SetO o8 o9 (Str.ofString "has_fin") (.bool false)) (s9 : SetO o9 o10 (Str.ofString "urgent_at") (.none)) : RecD ring mss nx te ra o10 := by
  have e : (recPut (Str.ofString "urgent_at") (.none) (recPut (Str.ofString "has_fin") (.bool false) (recPut (Str.ofString "fin_at") (.none) (recPut (Str.ofString "told_edge") (.int te t4) (recPut (Str.ofString "assembly") (v0) (recPut (Str.ofString "ready") (.ref ra) (recPut (Str.ofString "next") (.int nx t3) (recPut (Str.ofString "mss") (.int mss t2) (recPut (Str.ofString "room") (.int 12 t1) (recPut (Str.ofString "ring") (.int ring t0) [])))))))))) = [(Str.ofString "ring", .int ring ((fun n => [t0, t1, t2, t3, t4].getD n t0) 0)), (Str.ofString "room", .int 12 ((fun n => [t0, t1, t2, t3, t4].getD n t0) 1)), (Str.ofString "mss", .int mss ((fun n => [t0, t1, t2, t3, t4].getD n t0) 2)), (Str.ofString "next", .int nx ((fun n => [t0, t1, t2, t3, t4].getD n t0) 3)), (Str.ofString "ready", .ref ra), (Str.ofString "assembly", ((fun n => [v0].getD n v0) 0)), (Str.ofString "told_edge", .int te ((fun n => [t0, t1, t2, t3, t4].getD n t0) 4)), (Str.ofString "fin_at", .none), (Str.ofString "has_fin", .bool false), (Str.ofString "urgent_at", .none)] := by kernel_rfl!
  exact ⟨(fun n => [t0, t1, t2, t3, t4].getD n t0), (fun n => [v0].getD n v0), e ▸ (s9 _ (s8 _ (s7 _ (s6 _ (s5 _ (s4 _ (s3 _ (s2 _ (s1 _ (s0 _ Rec.empty))))))))))⟩
def SegD (seq ack flags : Int) (opts pay : Array UInt8) (o : Obj) : Prop := ∃ (t : Nat → Tok) (v : Nat → Value), Rec [(Str.ofString "source_port", .int 80 (t 0)), (Str.ofString "target_port", .int 90 (t 1)), (Str.ofString "seq", .int seq (t 2)), (Str.ofString "ack", .int ack (t 3)), (Str.ofString "flags", .int flags (t 4)), (Str.ofString "window", .int 12 (t 5)), (Str.ofString "urgent", .int 0 (t 6)), (Str.ofString "options", .bytes opts (t 7)), (Str.ofString "payload", .bytes pay (t 8))] o
theorem SegD.lacks {seq ack flags : Int} {opts pay : Array UInt8} {o : Obj} (h : SegD seq ack flags opts pay o) {name : Str} (hn : ([Str.ofString "source_port", Str.ofString "target_port", Str.ofString "seq", Str.ofString "ack", Str.ofString "flags", Str.ofString "window", Str.ofString "urgent", Str.ofString "options", Str.ofString "payload"] : List Str).contains name = false) : Lacks o name := let ⟨_, _, R⟩ := h; R.lacks (recGet_none hn)
theorem SegD.h_source_port {seq ack flags : Int} {opts pay : Array UInt8} {o : Obj} (h : SegD seq ack flags opts pay o) : HasI o (Str.ofString "source_port") 80 := let ⟨t, v, R⟩ := h; ⟨(t 0), R.get (by kernel_rfl!)⟩
theorem SegD.h_target_port {seq ack flags : Int} {opts pay : Array UInt8} {o : Obj} (h : SegD seq ack flags opts pay o) : HasI o (Str.ofString "target_port") 90 := let ⟨t, v, R⟩ := h; ⟨(t 1), R.get (by kernel_rfl!)⟩
theorem SegD.h_seq {seq ack flags : Int} {opts pay : Array UInt8} {o : Obj} (h : SegD seq ack flags opts pay o) : HasI o (Str.ofString "seq") seq := let ⟨t, v, R⟩ := h; ⟨(t 2), R.get (by kernel_rfl!)⟩
theorem SegD.h_ack {seq ack flags : Int} {opts pay : Array UInt8} {o : Obj} (h : SegD seq ack flags opts pay o) : HasI o (Str.ofString "ack") ack := let ⟨t, v, R⟩ := h; ⟨(t 3), R.get (by kernel_rfl!)⟩
theorem SegD.h_flags {seq ack flags : Int} {opts pay : Array UInt8} {o : Obj} (h : SegD seq ack flags opts pay o) : HasI o (Str.ofString "flags") flags := let ⟨t, v, R⟩ := h; ⟨(t 4), R.get (by kernel_rfl!)⟩
theorem SegD.h_window {seq ack flags : Int} {opts pay : Array UInt8} {o : Obj} (h : SegD seq ack flags opts pay o) : HasI o (Str.ofString "window") 12 := let ⟨t, v, R⟩ := h; ⟨(t 5), R.get (by kernel_rfl!)⟩
theorem SegD.h_urgent {seq ack flags : Int} {opts pay : Array UInt8} {o : Obj} (h : SegD seq ack flags opts pay o) : HasI o (Str.ofString "urgent") 0 := let ⟨t, v, R⟩ := h; ⟨(t 6), R.get (by kernel_rfl!)⟩
theorem SegD.h_options {seq ack flags : Int} {opts pay : Array UInt8} {o : Obj} (h : SegD seq ack flags opts pay o) : HasB o (Str.ofString "options") opts := let ⟨t, v, R⟩ := h; ⟨(t 7), R.get (by kernel_rfl!)⟩
theorem SegD.h_payload {seq ack flags : Int} {opts pay : Array UInt8} {o : Obj} (h : SegD seq ack flags opts pay o) : HasB o (Str.ofString "payload") pay := let ⟨t, v, R⟩ := h; ⟨(t 8), R.get (by kernel_rfl!)⟩
theorem SegD.of {seq ack flags : Int} {opts pay : Array UInt8} {t0 t1 t2 t3 t4 t5 t6 t7 t8 : Tok} {o1 o2 o3 o4 o5 o6 o7 o8 o9 : Obj} (s0 : SetO (dictOf [] 0) o1 (Str.ofString "source_port") (.int 80 t0)) (s1 : SetO o1 o2 (Str.ofString "target_port") (.int 90 t1)) (s2 : SetO o2 o3 (Str.ofString "seq") (.int seq t2)) (s3 : SetO o3 o4 (Str.ofString "ack") (.int ack t3)) (s4 : SetO o4 o5 (Str.ofString "flags") (.int flags t4)) (s5 : SetO o5 o6 (Str.ofString "window") (.int 12 t5)) (s6 : SetO o6 o7 (Str.ofString "urgent") (.int 0 t6)) (s7 : SetO o7 o8 (Str.ofString "options") (.bytes opts t7)) (s8 : SetO o8 o9 (Str.ofString "payload") (.bytes pay t8)) : SegD seq ack flags opts pay o9 := by
  have e : (recPut (Str.ofString "payload") (.bytes pay t8) (recPut (Str.ofString "options") (.bytes opts t7) (recPut (Str.ofString "urgent") (.int 0 t6) (recPut (Str.ofString "window") (.int 12 t5) (recPut (Str.ofString "flags") (.int flags t4) (recPut (Str.ofString "ack") (.int ack t3) (recPut (Str.ofString "seq") (.int seq t2) (recPut (Str.ofString "target_port") (.int 90 t1) (recPut (Str.ofString "source_port") (.int 80 t0) []))))))))) = [(Str.ofString "source_port", .int 80 ((fun n => [t0, t1, t2, t3, t4, t5, t6, t7, t8].getD n t0) 0)), (Str.ofString "target_port", .int 90 ((fun n => [t0, t1, t2, t3, t4, t5, t6, t7, t8].getD n t0) 1)), (Str.ofString "seq", .int seq ((fun n => [t0, t1, t2, t3, t4, t5, t6, t7, t8].getD n t0) 2)), (Str.ofString "ack", .int ack ((fun n => [t0, t1, t2, t3, t4, t5, t6, t7, t8].getD n t0) 3)), (Str.ofString "flags", .int flags ((fun n => [t0, t1, t2, t3, t4, t5, t6, t7, t8].getD n t0) 4)), (Str.ofString "window", .int 12 ((fun n => [t0, t1, t2, t3, t4, t5, t6, t7, t8].getD n t0) 5)), (Str.ofString "urgent", .int 0 ((fun n => [t0, t1, t2, t3, t4, t5, t6, t7, t8].getD n t0) 6)), (Str.ofString "options", .bytes opts ((fun n => [t0, t1, t2, t3, t4, t5, t6, t7, t8].getD n t0) 7)), (Str.ofString "payload", .bytes pay ((fun n => [t0, t1, t2, t3, t4, t5, t6, t7, t8].getD n t0) 8))] := by kernel_rfl!
  exact ⟨(fun n => [t0, t1, t2, t3, t4, t5, t6, t7, t8].getD n t0), (fun _ => .none), e ▸ (s8 _ (s7 _ (s6 _ (s5 _ (s4 _ (s3 _ (s2 _ (s1 _ (s0 _ Rec.empty)))))))))⟩
def RttD  (o : Obj) : Prop := ∃ (t : Nat → Tok) (v : Nat → Value), Rec [(Str.ofString "first", .int 6 (t 0)), (Str.ofString "least", .int 4 (t 1)), (Str.ofString "most", .int 24 (t 2)), (Str.ofString "mean8", .int 0 (t 3)), (Str.ofString "spread4", .int 0 (t 4)), (Str.ofString "measured", .int 0 (t 5))] o
theorem RttD.of  {t0 t1 t2 t3 t4 t5 : Tok} {o1 o2 o3 o4 o5 o6 : Obj} (s0 : SetO (dictOf [] 0) o1 (Str.ofString "first") (.int 6 t0)) (s1 : SetO o1 o2 (Str.ofString "least") (.int 4 t1)) (s2 : SetO o2 o3 (Str.ofString "most") (.int 24 t2)) (s3 : SetO o3 o4 (Str.ofString "mean8") (.int 0 t3)) (s4 : SetO o4 o5 (Str.ofString "spread4") (.int 0 t4)) (s5 : SetO o5 o6 (Str.ofString "measured") (.int 0 t5)) : RttD  o6 := by
  have e : (recPut (Str.ofString "measured") (.int 0 t5) (recPut (Str.ofString "spread4") (.int 0 t4) (recPut (Str.ofString "mean8") (.int 0 t3) (recPut (Str.ofString "most") (.int 24 t2) (recPut (Str.ofString "least") (.int 4 t1) (recPut (Str.ofString "first") (.int 6 t0) [])))))) = [(Str.ofString "first", .int 6 ((fun n => [t0, t1, t2, t3, t4, t5].getD n t0) 0)), (Str.ofString "least", .int 4 ((fun n => [t0, t1, t2, t3, t4, t5].getD n t0) 1)), (Str.ofString "most", .int 24 ((fun n => [t0, t1, t2, t3, t4, t5].getD n t0) 2)), (Str.ofString "mean8", .int 0 ((fun n => [t0, t1, t2, t3, t4, t5].getD n t0) 3)), (Str.ofString "spread4", .int 0 ((fun n => [t0, t1, t2, t3, t4, t5].getD n t0) 4)), (Str.ofString "measured", .int 0 ((fun n => [t0, t1, t2, t3, t4, t5].getD n t0) 5))] := by kernel_rfl!
  exact ⟨(fun n => [t0, t1, t2, t3, t4, t5].getD n t0), (fun _ => .none), e ▸ (s5 _ (s4 _ (s3 _ (s2 _ (s1 _ (s0 _ Rec.empty))))))⟩
def CngD  (o : Obj) : Prop := ∃ (t : Nat → Tok) (v : Nat → Value), Rec [(Str.ofString "mss", (v 0)), (Str.ofString "most", (v 1)), (Str.ofString "size", (v 2)), (Str.ofString "threshold", (v 3)), (Str.ofString "gathered", (v 4)), (Str.ofString "duplicates", (v 5)), (Str.ofString "is_recovering", .bool false), (Str.ofString "is_cautious", .bool false)] o
theorem CngD.of  {v0 v1 v2 v3 v4 v5 : Value} {o1 o2 o3 o4 o5 o6 o7 o8 : Obj} (s0 : SetO (dictOf [] 0) o1 (Str.ofString "mss") (v0)) (s1 : SetO o1 o2 (Str.ofString "most") (v1)) (s2 : SetO o2 o3 (Str.ofString "size") (v2)) (s3 : SetO o3 o4 (Str.ofString "threshold") (v3)) (s4 : SetO o4 o5 (Str.ofString "gathered") (v4)) (s5 : SetO o5 o6 (Str.ofString "duplicates") (v5)) (s6 : SetO o6 o7 (Str.ofString "is_recovering") (.bool false)) (s7 : SetO o7 o8 (Str.ofString "is_cautious") (.bool false)) : CngD  o8 := by
  have e : (recPut (Str.ofString "is_cautious") (.bool false) (recPut (Str.ofString "is_recovering") (.bool false) (recPut (Str.ofString "duplicates") (v5) (recPut (Str.ofString "gathered") (v4) (recPut (Str.ofString "threshold") (v3) (recPut (Str.ofString "size") (v2) (recPut (Str.ofString "most") (v1) (recPut (Str.ofString "mss") (v0) [])))))))) = [(Str.ofString "mss", ((fun n => [v0, v1, v2, v3, v4, v5].getD n v0) 0)), (Str.ofString "most", ((fun n => [v0, v1, v2, v3, v4, v5].getD n v0) 1)), (Str.ofString "size", ((fun n => [v0, v1, v2, v3, v4, v5].getD n v0) 2)), (Str.ofString "threshold", ((fun n => [v0, v1, v2, v3, v4, v5].getD n v0) 3)), (Str.ofString "gathered", ((fun n => [v0, v1, v2, v3, v4, v5].getD n v0) 4)), (Str.ofString "duplicates", ((fun n => [v0, v1, v2, v3, v4, v5].getD n v0) 5)), (Str.ofString "is_recovering", .bool false), (Str.ofString "is_cautious", .bool false)] := by kernel_rfl!
  exact ⟨(fun _ => 0), (fun n => [v0, v1, v2, v3, v4, v5].getD n v0), e ▸ (s7 _ (s6 _ (s5 _ (s4 _ (s3 _ (s2 _ (s1 _ (s0 _ Rec.empty))))))))⟩
def PeeD (ring : Int) (o : Obj) : Prop := ∃ (t : Nat → Tok) (v : Nat → Value), Rec [(Str.ofString "ring", .int ring (t 0)), (Str.ofString "size", .int 0 (t 1)), (Str.ofString "most", .int 0 (t 2)), (Str.ofString "told_seq", .none), (Str.ofString "told_ack", .int 0 (t 3))] o
theorem PeeD.of {ring : Int} {t0 t1 t2 t3 : Tok} {o1 o2 o3 o4 o5 : Obj} (s0 : SetO (dictOf [] 0) o1 (Str.ofString "ring") (.int ring t0)) (s1 : SetO o1 o2 (Str.ofString "size") (.int 0 t1)) (s2 : SetO o2 o3 (Str.ofString "most") (.int 0 t2)) (s3 : SetO o3 o4 (Str.ofString "told_seq") (.none)) (s4 : SetO o4 o5 (Str.ofString "told_ack") (.int 0 t3)) : PeeD ring o5 := by
  have e : (recPut (Str.ofString "told_ack") (.int 0 t3) (recPut (Str.ofString "told_seq") (.none) (recPut (Str.ofString "most") (.int 0 t2) (recPut (Str.ofString "size") (.int 0 t1) (recPut (Str.ofString "ring") (.int ring t0) []))))) = [(Str.ofString "ring", .int ring ((fun n => [t0, t1, t2, t3].getD n t0) 0)), (Str.ofString "size", .int 0 ((fun n => [t0, t1, t2, t3].getD n t0) 1)), (Str.ofString "most", .int 0 ((fun n => [t0, t1, t2, t3].getD n t0) 2)), (Str.ofString "told_seq", .none), (Str.ofString "told_ack", .int 0 ((fun n => [t0, t1, t2, t3].getD n t0) 3))] := by kernel_rfl!
  exact ⟨(fun n => [t0, t1, t2, t3].getD n t0), (fun _ => .none), e ▸ (s4 _ (s3 _ (s2 _ (s1 _ (s0 _ Rec.empty)))))⟩
def AsmD (ring : Int) (pl : Addr) (o : Obj) : Prop := ∃ (t : Nat → Tok) (v : Nat → Value), Rec [(Str.ofString "ring", .int ring (t 0)), (Str.ofString "parts", .ref pl)] o
theorem AsmD.small {ring : Int} {pl : Addr} {o : Obj} (h : AsmD ring pl o) : Small 2 o := let ⟨_, _, R⟩ := h; R.small (Nat.le_refl _)
theorem AsmD.of {ring : Int} {pl : Addr} {t0 : Tok} {o1 o2 : Obj} (s0 : SetO (dictOf [] 0) o1 (Str.ofString "ring") (.int ring t0)) (s1 : SetO o1 o2 (Str.ofString "parts") (.ref pl)) : AsmD ring pl o2 := by
  have e : (recPut (Str.ofString "parts") (.ref pl) (recPut (Str.ofString "ring") (.int ring t0) [])) = [(Str.ofString "ring", .int ring ((fun n => [t0].getD n t0) 0)), (Str.ofString "parts", .ref pl)] := by kernel_rfl!
  exact ⟨(fun n => [t0].getD n t0), (fun _ => .none), e ▸ (s1 _ (s0 _ Rec.empty))⟩
end Mine
namespace Mine
theorem room0 {d a L : Nat} (h : d + a < L) : d < L := Nat.lt_of_le_of_lt (Nat.le_add_right d a) h
theorem room1 {d k a L : Nat} (h : d + a < L) (e : Nat.ble k a = true) : d + k < L := Nat.lt_of_le_of_lt (Nat.add_le_add_left (Nat.le_of_ble_eq_true e) d) h
theorem room2 {d c k a L : Nat} (h : d + a < L) (e : Nat.ble (c + k) a = true) : d + c + k < L := by rw [Nat.add_assoc]; exact room1 h e
theorem room3 {d b c k a L : Nat} (h : d + a < L) (e : Nat.ble (b + c + k) a = true) : d + b + c + k < L := by rw [Nat.add_assoc d b c]; exact room2 h e
end Mine
namespace Mine
local macro_rules | `(tactic| walk_at $s:str) => `(tactic| first | k_extra $s | fail "no word")
local macro_rules | `(tactic| k_in) => `(tactic| first | k_in_fast | with_reducible exact Frag.In.keeps (by with_reducible assumption) (Fr.keep (by with_reducible assumption)))
local macro_rules | `(tactic| size_fits) => `(tactic| with_reducible first | decide | (simp only [List.length_cons, List.length_nil, List.size_toArray, PySem.sizeLine_eq]; first | done | omega) | assumption)
local macro_rules | `(tactic| ktr_units) => `(tactic| ((simp only [units_make, units_in1, units_deeper, Around.mark_units]); (try dsimp only); have hcL9 := cLine_is; omega))
local macro_rules | `(tactic| k_room) => `(tactic| ktr_room)
local macro_rules | `(tactic| lcg_sub) => `(tactic| first | exact List.forall_mem_nil _ | refine List.forall_mem_cons.mpr ⟨by k_mem, by lcg_sub⟩ | (intro p9 hp9; (repeat (first | exact hp9 | refine memTail ?_)); done))
local macro_rules | `(tactic| k_units) => `(tactic| ktr_units)
local macro_rules | `(tactic| k_enter) => `(tactic| (refine' code_def ?k1 ?k2 ?k3 ?k4 ?k5 ?kA ?kF ?kK ?k6 ?k7 ?k8 ?k9 ?kB ?_ ?c2 ?c3 ?c4 ?c5; (case kA => exact rfl); (case kF => first | exact rfl | assumption); (case kK => first | exact rfl | assumption); (case k1 => k_asm); (case k2 => k_asm); (case k3 => k_asm); (case k4 => k_asm); (case k5 => k_asm); (case k6 => k_is); (case k7 => k_is); (case k8 => ktr_room); (case k9 => first | exact BindsTo.of_eq rfl | exact binds_K (by k_in) rfl (by k_is) rfl rfl rfl | fail "k_enter: no rule for these arguments"); (case c5 => decide); (case kB => exact locs rfl); (case c2 => exact rfl); (case c3 => exact rfl); (case c4 => exact rfl); k_whole; intro g' L' h' FG' F' N' B' X' T'; (try dsimp only); (try k_lift B'); (try k_fold)))
local macro_rules | `(tactic| k_upd) => `(tactic| (refine' SetAt.upd ?a ?b; (case a => walk_at "setat"); (case b => walk_at "nd")))
local macro_rules | `(tactic| k_updF) => `(tactic| (refine' SetF.upd ?a ?b; (case a => walk_at "setf"); (case b => walk_at "nd")))
local macro_rules | `(tactic| ktr_room) => do
  let h := Lean.mkIdent `hd9
  `(tactic| first | exact room2 $h rfl | exact room1 $h rfl | exact room0 $h | exact room3 $h rfl)
local macro_rules | `(tactic| ktr_units) => do
  let h := Lean.mkIdent `hu9
  `(tactic| first | exact room2 $h rfl | exact room1 $h rfl | exact room0 $h | exact room3 $h rfl)
theorem words1 : True := by
  k_with "call type:bytes" => (k_here; (with_reducible show wpAny _ _ (call (Value.type "bytes") [Value.bytes _ _]) _ _ _); refine call_bytes_bytes ?_)
  k_with "take" => first | with_reducible exact Take.head | (refine' Take.tail ?bW2; (case bW2 => k_extra "take"))
  k_with "pick" => first | exact Pick.nil | (refine' Pick.cons ?aW3 ?bW3; (case aW3 => k_extra "take"); (case bW3 => k_extra "pick"))
  k_with "setat" => first | with_reducible exact SetAt.head | (refine' SetAt.tail ?bW4; (case bW4 => k_extra "setat"))
  k_with "setf" => first | with_reducible exact SetF.head | (refine' SetF.tail ?bW5; (case bW5 => k_extra "setf"))
  k_with "lts" => first | with_reducible assumption | exact allLt_of (by assumption) | (simp only [AllLt, and_true]; assumption) | assumption
  k_with "nd" => first | with_reducible assumption | exact ND.nil | (refine' ND.cons_lt ?aW7 ?bW7; (case aW7 => k_extra "lts"); (case bW7 => k_extra "nd")) | (refine' ND.two9 ?aW7 ?cW7 ?bW7; (case aW7 => k_extra "lts"); (case cW7 => assumption); (case bW7 => k_extra "nd")) | assumption
  k_with "A enter" => (k_dflt (refine' code_defA ?k1W8 ?k2W8 ?k3W8 ?k4W8 ?k5W8 ?kAW8 ?kFW8 ?kKW8 ?k6W8 ?k7W8 ?k8W8 ?k9W8 ?kBW8 ?_ ?c2W8 ?c3W8 ?c4W8 ?c5W8; (case kAW8 => exact rfl); (case kFW8 => first | exact rfl | assumption); (case kKW8 => first | exact rfl | assumption); (case k1W8 => k_asm); (case k2W8 => k_asm); (case k3W8 => k_asm); (case k4W8 => k_asm); (case k5W8 => k_asm); (case k6W8 => k_is); (case k7W8 => k_is); (case k8W8 => ktr_room); (case k9W8 => first | exact BindsTo.of_eq rfl | exact binds_K (by k_in) rfl (by k_is) rfl rfl rfl); (case c5W8 => decide); (case kBW8 => exact locs rfl); (case c2W8 => exact rfl); (case c3W8 => exact rfl); (case c4W8 => exact rfl); k_whole; intro g' L' h' tk' kp' FG' F' N' B' X' T'; (try dsimp only)))
  k_with "P enter" => (k_dflt (refine' code_defP ?k1W9 ?k2W9 ?k3W9 ?k4W9 ?k5W9 ?kAW9 ?kFW9 ?kKW9 ?k6W9 ?k7W9 ?k8W9 ?k9W9 ?kBW9 ?_ ?c2W9 ?c3W9 ?c4W9 ?c5W9; (case kAW9 => exact rfl); (case kFW9 => first | exact rfl | assumption); (case kKW9 => first | exact rfl | assumption); (case k1W9 => k_asm); (case k2W9 => k_asm); (case k3W9 => k_asm); (case k4W9 => k_asm); (case k5W9 => k_asm); (case k6W9 => k_is); (case k7W9 => k_is); (case k8W9 => ktr_room); (case k9W9 => exact BindsTo.of_eq rfl); (case c5W9 => decide); (case kBW9 => exact locs rfl); (case c2W9 => exact rfl); (case c3W9 => exact rfl); (case c4W9 => exact rfl); k_whole; intro g' L' h' tk' kp' FG' F' N' B' X' T'; (try dsimp only)))
  k_with "C call" => (k_dflt (refine' callC_K ?k1W10 ?k2W10 ?_ ?k3W10 ?k4W10; (case k1W10 => k_asm); (case k2W10 => k_is); (case k3W10 => rfl); (case k4W10 => rfl)))
  k_with "C class" => (k_dflt (refine' make_KC ?k1W11 ?k2W11 ?k3W11 ?k4W11 ?k5W11 ?k6W11 ?_; (case k1W11 => k_asm); (case k2W11 => k_asm); (case k3W11 => k_in); (case k4W11 => k_is); (case k5W11 => k_is); (case k6W11 => k_is); intro x' d' h' F' N' l1 l2; (try k_lt l1); (try k_lt2 l2); (try k_sweep)))
  k_with "C enter" => (k_dflt (refine' code_defC ?k1W12 ?k2W12 ?k3W12 ?k4W12 ?k5W12 ?kAW12 ?kFW12 ?kKW12 ?k6W12 ?k7W12 ?k8W12 ?k9W12 ?kBW12 ?_ ?c2W12 ?c3W12 ?c4W12 ?c5W12; (case kAW12 => exact rfl); (case kFW12 => first | exact rfl | assumption); (case kKW12 => first | exact rfl | assumption); (case k1W12 => k_asm); (case k2W12 => k_asm); (case k3W12 => k_asm); (case k4W12 => k_asm); (case k5W12 => k_asm); (case k6W12 => k_is); (case k7W12 => k_is); (case k8W12 => ktr_room); (case k9W12 => first | exact BindsTo.of_eq rfl | exact binds_K (by k_in) rfl (by k_is) rfl rfl rfl); (case c5W12 => decide); (case kBW12 => exact locs rfl); (case c2W12 => exact rfl); (case c3W12 => exact rfl); (case c4W12 => exact rfl); k_whole; intro g' L' h' tk' FG' F' N' B' X' T'; (try dsimp only); (try k_lift B')))
  k_with "newTuple" => (k_here; k_dflt (refine' newTuple_D ?FW13 ?NW13 ?DW13 ?_ ?zW13; (case FW13 => k_asm); (case NW13 => k_asm); (case DW13 => k_extra "nd"); (case zW13 => kmk_size)); intro a' h' F' N' D'; (try k_sweep))
  k_with "newList" => (k_here; k_dflt (refine' newList_D ?FW14 ?NW14 ?DW14 ?_ ?zW14; (case FW14 => k_asm); (case NW14 => k_asm); (case DW14 => k_extra "nd"); (case zW14 => size_fits)); intro a' h' F' N' D'; (try k_sweep))
  k_with "C bytearray" => (k_dflt (refine' bytearray_K ?k1W15 ?k2W15 ?_; (case k1W15 => k_asm); (case k2W15 => k_asm)); intro x' h' F' N' l1; (try k_lt l1); (try k_sweep); (try dsimp only))
  k_with "subscriptTail" => (k_here; (with_reducible show wpAny _ _ (subscriptTail _ _ (Value.ref _) (Value.int (Int.fmod _ _) _)) _ _ _); k_dflt (refine' sub_known ?k1W16 ?k2W16 ?k3W16 ?k4W16 ?k5W16 ?k6W16 ?_ ?k7W16; (case k1W16 => k_asm); (case k2W16 => k_mem); (case k3W16 => assumption); (case k4W16 => decide); (case k5W16 => decide); (case k6W16 => rfl); (case k7W16 => with_unfolding_all rfl); k_whole))
  k_with "suff" => first | exact Suff.refl | (refine' Suff.tail ?bW17; (case bW17 => k_extra "suff"))
  k_with "getAttr ref" => (k_here; k_dflt (first
  | (refine' get_hasI ?k1W18 ?k2W18 ?k3W18 ?m1W18 ?m2W18 ?HW18 ?k4W18 ?k5W18 ?k6W18 ?k7W18 ?_; (case k1W18 => k_asm); (case k2W18 => k_asm); (case k3W18 => k_asm); (case m1W18 => k_mem); (case m2W18 => k_mem); (case HW18 => k_extra "hasI"); (case k4W18 => k_is); (case k5W18 => k_is); (case k6W18 => k_is); (case k7W18 => k_is); k_whole; intro t')
  | (refine' get_has ?k1W18 ?k2W18 ?k3W18 ?m1W18 ?m2W18 ?HW18 ?k4W18 ?k5W18 ?k6W18 ?k7W18 ?k8W18 ?_; (case k1W18 => k_asm); (case k2W18 => k_asm); (case k3W18 => k_asm); (case m1W18 => k_mem); (case m2W18 => k_mem); (case HW18 => k_extra "has"); (case k4W18 => k_is); (case k5W18 => k_is); (case k6W18 => k_is); (case k7W18 => k_is); (case k8W18 => k_handed); k_whole)
  | (refine' get_hasB ?k1W18 ?k2W18 ?k3W18 ?m1W18 ?m2W18 ?HW18 ?k4W18 ?k5W18 ?k6W18 ?k7W18 ?_; (case k1W18 => k_asm); (case k2W18 => k_asm); (case k3W18 => k_asm); (case m1W18 => k_mem); (case m2W18 => k_mem); (case HW18 => k_extra "hasB"); (case k4W18 => k_is); (case k5W18 => k_is); (case k6W18 => k_is); (case k7W18 => k_is); k_whole; intro t')))
  k_with "getMethod ref" => (k_here; k_dflt (refine' method_has ?k1W19 ?k2W19 ?k3W19 ?m1W19 ?m2W19 ?HW19 ?k4W19 ?k5W19 ?k6W19 ?_; (case k1W19 => k_asm); (case k2W19 => k_asm); (case k3W19 => k_asm); (case m1W19 => k_mem); (case m2W19 => k_mem); (case HW19 => k_extra "lacks"); (case k4W19 => k_is); (case k5W19 => k_is); (case k6W19 => k_is); k_whole))
  k_with "setAttr ref" => (k_here; k_dflt (refine' set_has ?k1W20 ?k2W20 ?k3W20 ?kDW20 ?m1W20 ?kUW20 ?HW20 ?k0W20 ?k4W20 ?k5W20 ?k6W20 ?k7W20 ?_; (case k1W20 => k_asm); (case k2W20 => k_asm); (case k3W20 => k_asm); (case kDW20 => k_extra "nd"); (case m1W20 => k_mem); (case kUW20 => k_extra "setf"); (case HW20 => k_extra "small"); (case k0W20 => exact rfl); (case k4W20 => k_is); (case k5W20 => k_is); (case k6W20 => k_is); (case k7W20 => k_is); k_whole); intro o' h' so' sm' F' N' D'; (try dsimp only at N' D'); (try k_sweep); (try k_extra "setp"))
  k_with "has" => with_reducible first | exact SenD.h_queue (by assumption) | exact SenD.h_syn_pending (by assumption) | exact SenD.h_fin_asked (by assumption) | exact SenD.h_fin_sent (by assumption) | exact ClkD.h_timed_end (by assumption) | exact AckD.h_waiting (by assumption) | exact AckD.h_due (by assumption) | exact AckD.h_has_gap (by assumption) | exact WhlD.h_slots (by assumption) | exact WhlD.h_late (by assumption) | exact WhlD.h_entries (by assumption) | exact WhlD.h_reached (by assumption) | exact TcbD.h_limits (by assumption) | exact TcbD.h_local (by assumption) | exact TcbD.h_remote (by assumption) | exact TcbD.h_sender (by assumption) | exact TcbD.h_receiver (by assumption) | exact TcbD.h_clock (by assumption) | exact TcbD.h_acks (by assumption) | exact TcbD.h_wheel (by assumption) | exact RecD.h_ready (by assumption) | exact RecD.h_has_fin (by assumption) 
  k_with "hasI" => with_reducible first | exact LimD.h_ring (by assumption) | exact LimD.h_mss (by assumption) | exact LimD.h_send_room (by assumption) | exact LimD.h_receive_room (by assumption) | exact LimD.h_first_timeout (by assumption) | exact LimD.h_least_timeout (by assumption) | exact LimD.h_most_timeout (by assumption) | exact LimD.h_most_tries (by assumption) | exact LimD.h_ack_delay (by assumption) | exact SenD.h_iss (by assumption) | exact SenD.h_ring (by assumption) | exact SenD.h_mss (by assumption) | exact SenD.h_una (by assumption) | exact SenD.h_next (by assumption) | exact SenD.h_greatest (by assumption) | exact QueD.h_room (by assumption) | exact ClkD.h_tries (by assumption) | exact AckD.h_delay (by assumption) | exact WhlD.h_size (by assumption) | exact WhlD.h_given (by assumption) | exact RecD.h_ring (by assumption) | exact RecD.h_room (by assumption) | exact RecD.h_mss (by assumption) | exact RecD.h_next (by assumption) | exact RecD.h_told_edge (by assumption) | exact SegD.h_source_port (by assumption) | exact SegD.h_target_port (by assumption) | exact SegD.h_seq (by assumption) | exact SegD.h_ack (by assumption) | exact SegD.h_flags (by assumption) | exact SegD.h_window (by assumption) | exact SegD.h_urgent (by assumption) 
  k_with "hasB" => with_reducible first | exact QueD.h_held (by assumption) | exact SegD.h_options (by assumption) | exact SegD.h_payload (by assumption)
  k_with "lacks" => with_reducible first | exact SenD.lacks (by assumption) (by decide +kernel) | exact QueD.lacks (by assumption) (by decide +kernel) | exact ClkD.lacks (by assumption) (by decide +kernel) | exact AckD.lacks (by assumption) (by decide +kernel) | exact WhlD.lacks (by assumption) (by decide +kernel) | exact TcbD.lacks (by assumption) (by decide +kernel) | exact RecD.lacks (by assumption) (by decide +kernel) | exact SegD.lacks (by assumption) (by decide +kernel) 
  k_with "small" => with_reducible first | assumption | exact Small.empty | exact SenD.small (by assumption) | exact QueD.small (by assumption) | exact ClkD.small (by assumption) | exact AckD.small (by assumption) | exact WhlD.small (by assumption) | exact TcbD.small (by assumption) | exact AsmD.small (by assumption)
  k_with "setp" => (rename SetO _ _ _ _ => so9; rename Small _ _ => sm9; with_reducible first | (have sp' := SenD.s_una (by assumption) so9; clear so9 sm9) | (have sp' := SenD.s_next (by assumption) so9; clear so9 sm9) | (have sp' := SenD.s_greatest (by assumption) so9; clear so9 sm9) | (have sp' := SenD.s_syn_pending (by assumption) so9; clear so9 sm9) | (have sp' := SenD.s_fin_asked (by assumption) so9; clear so9 sm9) | (have sp' := SenD.s_fin_sent (by assumption) so9; clear so9 sm9) | (have sp' := QueD.s_held (by assumption) so9; clear so9 sm9) | (have sp' := ClkD.s_timed_end (by assumption) so9; clear so9 sm9) | (have sp' := ClkD.s_timed_at (by assumption) so9; clear so9 sm9) | (have sp' := AckD.s_waiting (by assumption) so9; clear so9 sm9) | (have sp' := AckD.s_due (by assumption) so9; clear so9 sm9) | (have sp' := AckD.s_has_gap (by assumption) so9; clear so9 sm9) | (have sp' := WhlD.s_given (by assumption) so9; clear so9 sm9) | (have sp' := TcbD.s_receiver (by assumption) so9; clear so9 sm9))
  k_with "post" => with_reducible first | assumption | exact rfl | exact LimD.of (by assumption) (by assumption) (by assumption) (by assumption) (by assumption) (by assumption) (by assumption) (by assumption) (by assumption) (by assumption) | exact SenD.of (by assumption) (by assumption) (by assumption) (by assumption) (by assumption) (by assumption) (by assumption) (by assumption) (by assumption) (by assumption) (by assumption) | exact QueD.of (by assumption) (by assumption) | exact ClkD.of (by assumption) (by assumption) (by assumption) (by assumption) (by assumption) | exact AckD.of (by assumption) (by assumption) (by assumption) (by assumption) | exact WhlD.of (by assumption) (by assumption) (by assumption) (by assumption) (by assumption) (by assumption) | exact TcbD.of (by assumption) (by assumption) (by assumption) (by assumption) (by assumption) (by assumption) (by assumption) (by assumption) (by assumption) (by assumption) (by assumption) (by assumption) (by assumption) (by assumption) | exact RecD.of (by assumption) (by assumption) (by assumption) (by assumption) (by assumption) (by assumption) (by assumption) (by assumption) (by assumption) (by assumption) | exact SegD.of (by assumption) (by assumption) (by assumption) (by assumption) (by assumption) (by assumption) (by assumption) (by assumption) (by assumption) | exact RttD.of (by assumption) (by assumption) (by assumption) (by assumption) (by assumption) (by assumption) | exact CngD.of (by assumption) (by assumption) (by assumption) (by assumption) (by assumption) (by assumption) (by assumption) (by assumption) | exact PeeD.of (by assumption) (by assumption) (by assumption) (by assumption) (by assumption) | exact AsmD.of (by assumption) (by assumption)
  k_with "hyp" => first | with_reducible assumption | decide | omega
  trivial
-- N20a

section
variable {all rest : List (Addr × Obj)} {w : World} {mean : ExcName → Option Value} {mg mb : Str → Option Value} {A : Around} {env : Env} {outer : List Env} {A₀ : Around} {base h₀ : Heap} {L : Addr} {m : Str → Option Value} {s : Shared} {Q E : Value → Shared → Prop}
def PieceRes (ns : List Int) (mss : Int) (k : Nat) (hf : Int) : Prop :=
  (∀ v ∈ ns.take k, v ≠ 256) ∧ (k : Int) ≤ mss ∧ k ≤ ns.length ∧ ((hf = 1 ∧ ns[k]? = some 256) ∨ (hf = 0 ∧ (k : Int) = mss ∧ k < ns.length ∧ ns[k]? ≠ some 256) ∨ (hf = 0 ∧ k = ns.length))
def PJ (fl ml : Addr) (vs : List Value) (ns : List Int) (mss : Int) (n : Nat) (m₀ : Str → Option Value) : Nat → (Str → Option Value) → List (Addr × Obj) → Prop := fun i m nx =>
  ∃ (fs : List Value) (c : Nat), nx = [(fl, W.listOf fs.toArray c), (ml, W.listOf vs.toArray n)] ∧ IntsAre fs (ns.take i) ∧ (∀ v ∈ ns.take i, v ≠ 256) ∧ (i : Int) ≤ mss ∧ ∀ z, z ≠ Str.ofString "mark" → m z = m₀ z
theorem PJ.start {fl ml : Addr} {vs : List Value} {ns : List Int} {mss : Int} {n : Nat} {m₀ : Str → Option Value} (m1 : 1 ≤ mss) : PJ fl ml vs ns mss n m₀ 0 m₀ [(fl, W.listOf [].toArray 0), (ml, W.listOf vs.toArray n)] :=
  ⟨[], 0, rfl, by rw [List.take_zero]; exact .nil, by intro v hv; simp at hv, by simp; omega, fun _ _ => rfl⟩
theorem fr_off {g h : Heap} {L : Addr} {x : Str} {v : Option Value} {m₁ m₀ : Str → Option Value} (hm : ∀ z, z ≠ x → m₁ z = m₀ z) (F : Fr g L h (fun y => if y = x then v else m₁ y)) : Fr g L h (fun y => if y = x then v else m₀ y) := by
  have e : (fun y => if y = x then v else m₁ y) = (fun y => if y = x then v else m₀ y) := by
    funext y
    by_cases h : y = x
    · simp [h]
    · simp [h, hm y h]
  rwa [e] at F
theorem off_of {fl ml : Addr} {o o' a b : Obj} {own : List (Addr × Obj)} (ho : OwnOff own ([(fl, a), (ml, b)].map (·.1))) (D : ND [(fl, o), (ml, o')]) : ∀ p ∈ (ml, b) :: own, p.1 ≠ fl := by
  intro p hp
  rcases List.mem_cons.mp hp with rfl | hp
  · intro e
    exact (List.nodup_cons.mp D).1 (by simp; exact e.symm)
  · exact ho p hp fl (by simp)
theorem append_own {prog : Program} {w : World} {A : Around} {E : Value → Shared → Prop} {s : Shared} {h₀ : Heap} {L D : Addr} {m : Str → Option Value} {rest : List (Addr × Obj)} {its : List Value} {n : Nat} {x : Value} {Q : Value → Shared → Prop} (F : Fr h₀ L s.heap m) (N : News h₀ L s.heap ((D, W.listOf its.toArray n) :: rest)) (off : ∀ p ∈ rest, p.1 ≠ D)
    (h : ∀ h', Fr h₀ L h' m → News h₀ L h' ((D, W.listOf (its ++ [x]).toArray (n + 1)) :: rest) → Q .none { s with heap := h' }) (hsz : its.length ≤ 1000) : wpAny (model prog w) A (call (.builtin "list.append") [.ref D, x]) Q E s := by
  refine append_K F N (Upd.head off) (fun h' F' N' => h h' F' (by simpa using N')) ?_
  rw [sizeLine_eq]
  have : its.toArray.size = its.length := by simp
  omega
theorem fr_end {g h : Heap} {L : Addr} {x : Str} {m₁ m₀ : Str → Option Value} (hm : ∀ z, z ≠ x → m₁ z = m₀ z) (F : Fr g L h m₁) : Fr g L h (fun y => if y = x then m₁ x else m₀ y) := by
  have e : m₁ = (fun y => if y = x then m₁ x else m₀ y) := by
    funext y
    by_cases h : y = x
    · simp [h]
    · simp [h, hm y h]
  rwa [e] at F
theorem len_l {prog : Program} {w : World} {A : Around} {E : Value → Shared → Prop} {s : Shared} {h₀ : Heap} {L a : Addr} {news : List (Addr × Obj)} {vs : List Value} {n k : Nat} {Q : Value → Shared → Prop} (N : News h₀ L s.heap news) (hm : (a, W.listOf vs.toArray n) ∈ news) (hk : vs.length = k) (hf : k ≤ 1000)
    (h : ∀ t tk, Q (.int (k : Int) t) { s with toks := tk }) : wpAny (model prog w) A (call (.builtin "len") [.ref a]) Q E s := by
  subst hk
  refine len_list ⟨_, (N _ hm).1, rfl, n, rfl⟩ (by simp; omega) ?_
  have := h (s.toks + 1) (s.toks + 1 + 1)
  simpa using this
theorem in_take {ns : List Int} {i : Nat} (i1 : ∀ v ∈ ns, 0 ≤ v ∧ v ≤ 256) (hne : ∀ v ∈ ns.take i, v ≠ 256) : KBa.In (ns.take i) := fun v hv => by
  have a := i1 v (List.mem_of_mem_take hv)
  have b := hne v hv
  omega
theorem take_ne {ns : List Int} {i : Nat} {v : Int} (hne : ∀ u ∈ ns.take i, u ≠ 256) (hi : ns[i]? = some v) (hv : v ≠ 256) : ∀ u ∈ ns.take (i + 1), u ≠ 256 := by
  intro u hu
  rw [List.take_add_one, hi] at hu
  rcases List.mem_append.mp hu with hu | hu
  · exact hne u hu
  · have : u = v := by simpa using hu
    rw [this]; exact hv
theorem ints_snoc {fs : List Value} {ns : List Int} {i : Nat} {v : Int} {t : Tok} (fi : IntsAre fs (ns.take i)) (hi : ns[i]? = some v) : IntsAre (fs ++ [.int v t]) (ns.take (i + 1)) := by
  have e : ns.take (i + 1) = ns.take i ++ [v] := by
    rw [List.take_add_one, hi]; rfl
  rw [e]
  exact IntsAre.append fi (.cons _ _ .nil)
end
-- N23a

section
variable {all rest : List (Addr × Obj)} {w : World} {mean : ExcName → Option Value} {mg mb : Str → Option Value} {A : Around} {env : Env} {outer : List Env} {A₀ : Around} {base h₀ : Heap} {L : Addr} {m : Str → Option Value} {s : Shared} {Q E : Value → Shared → Prop}
theorem marks_eq {ks : List Int} {gone : Int} {f : Nat} {ws : List Value} (hk : ∀ v ∈ ks, 0 ≤ v ∧ v < 256) (h5 : 0 ≤ gone) (h6 : gone ≤ ks.length)
    (h : IntsAre ws (List.map (fun k' : Int => if 0 ≤ ks.getD k'.toNat 0 ∧ ks.getD k'.toNat 0 < 256 then ks.getD k'.toNat 0 else k') (rangeKs 0 (gone - 0).toNat) ++ (List.replicate f [(256 : Int)]).flatten)) : IntsAre ws (ks.take gone.toNat ++ List.replicate f 256) := by
  have e1 : List.map (fun k' : Int => if 0 ≤ ks.getD k'.toNat 0 ∧ ks.getD k'.toNat 0 < 256 then ks.getD k'.toNat 0 else k') (rangeKs 0 (gone - 0).toNat) = ks.take gone.toNat := by
    apply List.ext_getElem
    · simp [rangeKs]; omega
    · intro i h1 h2
      have hi : i < ks.length := by simp at h2; omega
      have hv := hk ks[i] (List.getElem_mem hi)
      simp only [rangeKs, List.getElem_map, List.getElem_range, List.getElem_take]
      have e : ((0 : Int) + (i : Nat)).toNat = i := by omega
      rw [e, List.getD_eq_getElem?_getD, List.getElem?_eq_getElem hi, Option.getD_some, if_pos hv]
  have e2 : (List.replicate f [(256 : Int)]).flatten = List.replicate f 256 := by
    clear h
    induction f with
    | zero => rfl
    | succ f ih => rw [List.replicate_succ, List.flatten_cons, ih]; rfl
  rwa [e1, e2] at h
end
-- N1

section
variable {all rest : List (Addr × Obj)} {w : World} {mean : ExcName → Option Value} {mg mb : Str → Option Value} {A : Around} {env : Env} {outer : List Env} {A₀ : Around} {base h₀ : Heap} {L : Addr} {m : Str → Option Value} {s : Shared} {Q E : Value → Shared → Prop}
theorem limits_new {ring mss : Int} {t0 t1 t2 t3 t4 t5 t6 t7 t8 t9 : Tok}
    (B : Below A₀ base outer h₀) (F : Fr h₀ L s.heap m) (X : (hd.heap_1 w.params).In h₀) (P9 : Pick [] all rest) (D9 : ND all) (N9 : News h₀ L s.heap all) (T : Top vu LOOSE mean mg mb h₀) (hk : env.scope.kind = .function) (hf : env.frame = some L) (hh : A.handled = none) (hA : A.frames = some (env :: outer)) (hd9 : A.depth + 4 < recursionLimit) (hu9 : A.units + 30 < cLine)
   
    (hret : ∀ (x dx : Addr) (odx : Obj) (h' : Heap) (tk' : Nat), LimD ring mss odx → Fr h₀ L h' m → News h₀ L h' ([(x, instObj 1062 dx), (dx, odx)] ++ rest) → ND ([(x, instObj 1062 dx), (dx, odx)] ++ rest) → Q (.ref x) { s with heap := h', toks := tk' }) :
    wpAny (model PySem.Challenge.rw_xw0345_01.prog w) A (call (.ref 1062) [.int ring t0, .int mss t1, .int 40 t2, .int 12 t3, .int 6 t4, .int 4 t5, .int 24 t6, .int 3 t7, .int 2 t8, .int 12 t9]) Q E s := by
  obtain ⟨hd0, dp, fr0, gd, un⟩ := A
  dsimp only at hh hA hd9 hu9
  subst hh hA
  revert X; k_fill; intro X
  have N := P9.newsAll N9
  have D := P9.ndAll D9
  clear N9 D9 P9
  dsimp only [List.cons_append, List.nil_append] at N D
  k_steps
  refine' Pick.finish (S := [(_, instObj 1062 _), (_, _)]) (rest := rest) ?fN ?fP ?fU ?fD (fun N0 D0 => hret _ _ _ _ _ ?p0 (by k_asm) N0 D0)
  case fN => k_asm
  case fP => walk_at "pick"
  case fU => walk_at "suff"
  case fD => walk_at "nd"
  case p0 => walk_at "post"
theorem segment_new {seq ack flags : Int} {opts pay : Array UInt8} {t0 t1 t2 t3 t4 t5 t6 t7 t8 : Tok}
    (B : Below A₀ base outer h₀) (F : Fr h₀ L s.heap m) (X : (hd.heap_1 w.params).In h₀) (P9 : Pick [] all rest) (D9 : ND all) (N9 : News h₀ L s.heap all) (T : Top vu LOOSE mean mg mb h₀) (hk : env.scope.kind = .function) (hf : env.frame = some L) (hh : A.handled = none) (hA : A.frames = some (env :: outer)) (hd9 : A.depth + 4 < recursionLimit) (hu9 : A.units + 30 < cLine)
   
    (hret : ∀ (x dx : Addr) (odx : Obj) (h' : Heap) (tk' : Nat), SegD seq ack flags opts pay odx → Fr h₀ L h' m → News h₀ L h' ([(x, instObj 111 dx), (dx, odx)] ++ rest) → ND ([(x, instObj 111 dx), (dx, odx)] ++ rest) → Q (.ref x) { s with heap := h', toks := tk' }) :
    wpAny (model PySem.Challenge.rw_xw0345_01.prog w) A (call (.ref 111) [.int 80 t0, .int 90 t1, .int seq t2, .int ack t3, .int flags t4, .int 12 t5, .int 0 t6, .bytes opts t7, .bytes pay t8]) Q E s := by
  obtain ⟨hd0, dp, fr0, gd, un⟩ := A
  dsimp only at hh hA hd9 hu9
  subst hh hA
  revert X; k_fill; intro X
  have N := P9.newsAll N9
  have D := P9.ndAll D9
  clear N9 D9 P9
  dsimp only [List.cons_append, List.nil_append] at N D
  k_steps
  refine' Pick.finish (S := [(_, instObj 111 _), (_, _)]) (rest := rest) ?fN ?fP ?fU ?fD (fun N0 D0 => hret _ _ _ _ _ ?p0 (by k_asm) N0 D0)
  case fN => k_asm
  case fP => walk_at "pick"
  case fU => walk_at "suff"
  case fD => walk_at "nd"
  case p0 => walk_at "post"
theorem policy_new {t0 : Tok}
    (B : Below A₀ base outer h₀) (F : Fr h₀ L s.heap m) (X : (hd.heap_1 w.params).In h₀) (P9 : Pick [] all rest) (D9 : ND all) (N9 : News h₀ L s.heap all) (T : Top vu LOOSE mean mg mb h₀) (hk : env.scope.kind = .function) (hf : env.frame = some L) (hh : A.handled = none) (hA : A.frames = some (env :: outer)) (hd9 : A.depth + 4 < recursionLimit) (hu9 : A.units + 30 < cLine)
   
    (hret : ∀ (x dx : Addr) (odx : Obj) (t9 : Tok) (h' : Heap) (tk' : Nat), AckD (.int 0 t9) (.bool false) .none odx → Fr h₀ L h' m → News h₀ L h' ([(x, instObj 461 dx), (dx, odx)] ++ rest) → ND ([(x, instObj 461 dx), (dx, odx)] ++ rest) → Q (.ref x) { s with heap := h', toks := tk' }) :
    wpAny (model PySem.Challenge.rw_xw0345_01.prog w) A (call (.ref 461) [.int 2 t0]) Q E s := by
  obtain ⟨hd0, dp, fr0, gd, un⟩ := A
  dsimp only at hh hA hd9 hu9
  subst hh hA
  revert X; k_fill; intro X
  have N := P9.newsAll N9
  have D := P9.ndAll D9
  clear N9 D9 P9
  dsimp only [List.cons_append, List.nil_append] at N D
  k_steps
  refine' Pick.finish (S := [(_, instObj 461 _), (_, _)]) (rest := rest) ?fN ?fP ?fU ?fD (fun N0 D0 => hret _ _ _ _ _ _ ?p0 (by k_asm) N0 D0)
  case fN => k_asm
  case fP => walk_at "pick"
  case fU => walk_at "suff"
  case fD => walk_at "nd"
  case p0 => walk_at "post"
theorem congestion_new {v0 v1 v2 : Value}
    (B : Below A₀ base outer h₀) (F : Fr h₀ L s.heap m) (X : (hd.heap_1 w.params).In h₀) (P9 : Pick [] all rest) (D9 : ND all) (N9 : News h₀ L s.heap all) (T : Top vu LOOSE mean mg mb h₀) (hk : env.scope.kind = .function) (hf : env.frame = some L) (hh : A.handled = none) (hA : A.frames = some (env :: outer)) (hd9 : A.depth + 4 < recursionLimit) (hu9 : A.units + 30 < cLine)
   
    (hret : ∀ (x dx : Addr) (odx : Obj) (h' : Heap) (tk' : Nat), CngD odx → Fr h₀ L h' m → News h₀ L h' ([(x, instObj 552 dx), (dx, odx)] ++ rest) → ND ([(x, instObj 552 dx), (dx, odx)] ++ rest) → Q (.ref x) { s with heap := h', toks := tk' }) :
    wpAny (model PySem.Challenge.rw_xw0345_01.prog w) A (call (.ref 552) [v0, v1, v2]) Q E s := by
  obtain ⟨hd0, dp, fr0, gd, un⟩ := A
  dsimp only at hh hA hd9 hu9
  subst hh hA
  revert X; k_fill; intro X
  have N := P9.newsAll N9
  have D := P9.ndAll D9
  clear N9 D9 P9
  dsimp only [List.cons_append, List.nil_append] at N D
  k_steps
  refine' Pick.finish (S := [(_, instObj 552 _), (_, _)]) (rest := rest) ?fN ?fP ?fU ?fD (fun N0 D0 => hret _ _ _ _ _ ?p0 (by k_asm) N0 D0)
  case fN => k_asm
  case fP => walk_at "pick"
  case fU => walk_at "suff"
  case fD => walk_at "nd"
  case p0 => walk_at "post"
theorem clock_new {v0 : Value} {t0 : Tok}
    (B : Below A₀ base outer h₀) (F : Fr h₀ L s.heap m) (X : (hd.heap_1 w.params).In h₀) (P9 : Pick [] all rest) (D9 : ND all) (N9 : News h₀ L s.heap all) (T : Top vu LOOSE mean mg mb h₀) (hk : env.scope.kind = .function) (hf : env.frame = some L) (hh : A.handled = none) (hA : A.frames = some (env :: outer)) (hd9 : A.depth + 4 < recursionLimit) (hu9 : A.units + 30 < cLine)
   
    (hret : ∀ (x dx : Addr) (odx : Obj) (h' : Heap) (tk' : Nat), ClkD .none odx → Fr h₀ L h' m → News h₀ L h' ([(x, instObj 629 dx), (dx, odx)] ++ rest) → ND ([(x, instObj 629 dx), (dx, odx)] ++ rest) → Q (.ref x) { s with heap := h', toks := tk' }) :
    wpAny (model PySem.Challenge.rw_xw0345_01.prog w) A (call (.ref 629) [v0, .int 3 t0]) Q E s := by
  obtain ⟨hd0, dp, fr0, gd, un⟩ := A
  dsimp only at hh hA hd9 hu9
  subst hh hA
  revert X; k_fill; intro X
  have N := P9.newsAll N9
  have D := P9.ndAll D9
  clear N9 D9 P9
  dsimp only [List.cons_append, List.nil_append] at N D
  k_steps
  refine' Pick.finish (S := [(_, instObj 629 _), (_, _)]) (rest := rest) ?fN ?fP ?fU ?fD (fun N0 D0 => hret _ _ _ _ _ ?p0 (by k_asm) N0 D0)
  case fN => k_asm
  case fP => walk_at "pick"
  case fU => walk_at "suff"
  case fD => walk_at "nd"
  case p0 => walk_at "post"
theorem rtt_new {t0 t1 t2 : Tok}
    (B : Below A₀ base outer h₀) (F : Fr h₀ L s.heap m) (X : (hd.heap_1 w.params).In h₀) (P9 : Pick [] all rest) (D9 : ND all) (N9 : News h₀ L s.heap all) (T : Top vu LOOSE mean mg mb h₀) (hk : env.scope.kind = .function) (hf : env.frame = some L) (hh : A.handled = none) (hA : A.frames = some (env :: outer)) (hd9 : A.depth + 4 < recursionLimit) (hu9 : A.units + 30 < cLine)
   
    (hret : ∀ (x dx : Addr) (odx : Obj) (h' : Heap) (tk' : Nat), RttD odx → Fr h₀ L h' m → News h₀ L h' ([(x, instObj 685 dx), (dx, odx)] ++ rest) → ND ([(x, instObj 685 dx), (dx, odx)] ++ rest) → Q (.ref x) { s with heap := h', toks := tk' }) :
    wpAny (model PySem.Challenge.rw_xw0345_01.prog w) A (call (.ref 685) [.int 6 t0, .int 4 t1, .int 24 t2]) Q E s := by
  obtain ⟨hd0, dp, fr0, gd, un⟩ := A
  dsimp only at hh hA hd9 hu9
  subst hh hA
  revert X; k_fill; intro X
  have N := P9.newsAll N9
  have D := P9.ndAll D9
  clear N9 D9 P9
  dsimp only [List.cons_append, List.nil_append] at N D
  k_steps
  refine' Pick.finish (S := [(_, instObj 685 _), (_, _)]) (rest := rest) ?fN ?fP ?fU ?fD (fun N0 D0 => hret _ _ _ _ _ ?p0 (by k_asm) N0 D0)
  case fN => k_asm
  case fP => walk_at "pick"
  case fU => walk_at "suff"
  case fD => walk_at "nd"
  case p0 => walk_at "post"
theorem queue_new {t0 : Tok}
    (B : Below A₀ base outer h₀) (F : Fr h₀ L s.heap m) (X : (hd.heap_1 w.params).In h₀) (P9 : Pick [] all rest) (D9 : ND all) (N9 : News h₀ L s.heap all) (T : Top vu LOOSE mean mg mb h₀) (hk : env.scope.kind = .function) (hf : env.frame = some L) (hh : A.handled = none) (hA : A.frames = some (env :: outer)) (hd9 : A.depth + 4 < recursionLimit) (hu9 : A.units + 30 < cLine)
   
    (hret : ∀ (x dx : Addr) (odx : Obj) (h' : Heap) (tk' : Nat), QueD #[] odx → Fr h₀ L h' m → News h₀ L h' ([(x, instObj 741 dx), (dx, odx)] ++ rest) → ND ([(x, instObj 741 dx), (dx, odx)] ++ rest) → Q (.ref x) { s with heap := h', toks := tk' }) :
    wpAny (model PySem.Challenge.rw_xw0345_01.prog w) A (call (.ref 741) [.int 40 t0]) Q E s := by
  obtain ⟨hd0, dp, fr0, gd, un⟩ := A
  dsimp only at hh hA hd9 hu9
  subst hh hA
  revert X; k_fill; intro X
  have N := P9.newsAll N9
  have D := P9.ndAll D9
  clear N9 D9 P9
  dsimp only [List.cons_append, List.nil_append] at N D
  k_steps
  refine' Pick.finish (S := [(_, instObj 741 _), (_, _)]) (rest := rest) ?fN ?fP ?fU ?fD (fun N0 D0 => hret _ _ _ _ _ ?p0 (by k_asm) N0 D0)
  case fN => k_asm
  case fP => walk_at "pick"
  case fU => walk_at "suff"
  case fD => walk_at "nd"
  case p0 => walk_at "post"
theorem peer_new {ring : Int} {t0 : Tok}
    (B : Below A₀ base outer h₀) (F : Fr h₀ L s.heap m) (X : (hd.heap_1 w.params).In h₀) (P9 : Pick [] all rest) (D9 : ND all) (N9 : News h₀ L s.heap all) (T : Top vu LOOSE mean mg mb h₀) (hk : env.scope.kind = .function) (hf : env.frame = some L) (hh : A.handled = none) (hA : A.frames = some (env :: outer)) (hd9 : A.depth + 4 < recursionLimit) (hu9 : A.units + 30 < cLine)
   
    (hret : ∀ (x dx : Addr) (odx : Obj) (h' : Heap) (tk' : Nat), PeeD ring odx → Fr h₀ L h' m → News h₀ L h' ([(x, instObj 783 dx), (dx, odx)] ++ rest) → ND ([(x, instObj 783 dx), (dx, odx)] ++ rest) → Q (.ref x) { s with heap := h', toks := tk' }) :
    wpAny (model PySem.Challenge.rw_xw0345_01.prog w) A (call (.ref 783) [.int ring t0]) Q E s := by
  obtain ⟨hd0, dp, fr0, gd, un⟩ := A
  dsimp only at hh hA hd9 hu9
  subst hh hA
  revert X; k_fill; intro X
  have N := P9.newsAll N9
  have D := P9.ndAll D9
  clear N9 D9 P9
  dsimp only [List.cons_append, List.nil_append] at N D
  k_steps
  refine' Pick.finish (S := [(_, instObj 783 _), (_, _)]) (rest := rest) ?fN ?fP ?fU ?fD (fun N0 D0 => hret _ _ _ _ _ ?p0 (by k_asm) N0 D0)
  case fN => k_asm
  case fP => walk_at "pick"
  case fU => walk_at "suff"
  case fD => walk_at "nd"
  case p0 => walk_at "post"
end
-- N2
theorem words3 : True := by
  k_with "call ref" => (k_here; (with_reducible show wpAny _ _ (call (Value.ref 1062) _) _ _ _); k_dflt (refine' limits_new ?k1W30 ?k2W30 ?k3W30 ?kPW30 ?kDW30 ?kNW30 ?k5W30 ?k6W30 ?kfW30 ?khW30 ?kAW30 ?kdW30 ?kuW30 ?_; (case kAW30 => exact rfl); (case khW30 => exact rfl); (case k1W30 => k_asm); (case k2W30 => k_asm); (case k3W30 => k_asm); (case k5W30 => k_asm); (case k6W30 => first | exact rfl | assumption); (case kfW30 => first | exact rfl | assumption); (case kNW30 => k_asm); (case kPW30 => k_extra "pick"); (case kDW30 => k_extra "nd"); (case kdW30 => ktr_room); (case kuW30 => ktr_units)); intro x' d' od' h' tk' o0' F' N' D'; (try dsimp only [List.cons_append, List.nil_append] at N' D'); (try k_sweep); (try dsimp only))
  k_with "call ref" => (k_here; (with_reducible show wpAny _ _ (call (Value.ref 111) _) _ _ _); k_dflt (refine' segment_new ?k1W31 ?k2W31 ?k3W31 ?kPW31 ?kDW31 ?kNW31 ?k5W31 ?k6W31 ?kfW31 ?khW31 ?kAW31 ?kdW31 ?kuW31 ?_; (case kAW31 => exact rfl); (case khW31 => exact rfl); (case k1W31 => k_asm); (case k2W31 => k_asm); (case k3W31 => k_asm); (case k5W31 => k_asm); (case k6W31 => first | exact rfl | assumption); (case kfW31 => first | exact rfl | assumption); (case kNW31 => k_asm); (case kPW31 => k_extra "pick"); (case kDW31 => k_extra "nd"); (case kdW31 => ktr_room); (case kuW31 => ktr_units)); intro x' d' od' h' tk' o0' F' N' D'; (try dsimp only [List.cons_append, List.nil_append] at N' D'); (try k_sweep); (try dsimp only))
  k_with "call ref" => (k_here; (with_reducible show wpAny _ _ (call (Value.ref 461) _) _ _ _); k_dflt (refine' policy_new ?k1W32 ?k2W32 ?k3W32 ?kPW32 ?kDW32 ?kNW32 ?k5W32 ?k6W32 ?kfW32 ?khW32 ?kAW32 ?kdW32 ?kuW32 ?_; (case kAW32 => exact rfl); (case khW32 => exact rfl); (case k1W32 => k_asm); (case k2W32 => k_asm); (case k3W32 => k_asm); (case k5W32 => k_asm); (case k6W32 => first | exact rfl | assumption); (case kfW32 => first | exact rfl | assumption); (case kNW32 => k_asm); (case kPW32 => k_extra "pick"); (case kDW32 => k_extra "nd"); (case kdW32 => ktr_room); (case kuW32 => ktr_units)); intro x' d' od' t9' h' tk' o0' F' N' D'; (try dsimp only [List.cons_append, List.nil_append] at N' D'); (try k_sweep); (try dsimp only))
  k_with "call ref" => (k_here; (with_reducible show wpAny _ _ (call (Value.ref 552) _) _ _ _); k_dflt (refine' congestion_new ?k1W33 ?k2W33 ?k3W33 ?kPW33 ?kDW33 ?kNW33 ?k5W33 ?k6W33 ?kfW33 ?khW33 ?kAW33 ?kdW33 ?kuW33 ?_; (case kAW33 => exact rfl); (case khW33 => exact rfl); (case k1W33 => k_asm); (case k2W33 => k_asm); (case k3W33 => k_asm); (case k5W33 => k_asm); (case k6W33 => first | exact rfl | assumption); (case kfW33 => first | exact rfl | assumption); (case kNW33 => k_asm); (case kPW33 => k_extra "pick"); (case kDW33 => k_extra "nd"); (case kdW33 => ktr_room); (case kuW33 => ktr_units)); intro x' d' od' h' tk' o0' F' N' D'; (try dsimp only [List.cons_append, List.nil_append] at N' D'); (try k_sweep); (try dsimp only))
  k_with "call ref" => (k_here; (with_reducible show wpAny _ _ (call (Value.ref 629) _) _ _ _); k_dflt (refine' clock_new ?k1W34 ?k2W34 ?k3W34 ?kPW34 ?kDW34 ?kNW34 ?k5W34 ?k6W34 ?kfW34 ?khW34 ?kAW34 ?kdW34 ?kuW34 ?_; (case kAW34 => exact rfl); (case khW34 => exact rfl); (case k1W34 => k_asm); (case k2W34 => k_asm); (case k3W34 => k_asm); (case k5W34 => k_asm); (case k6W34 => first | exact rfl | assumption); (case kfW34 => first | exact rfl | assumption); (case kNW34 => k_asm); (case kPW34 => k_extra "pick"); (case kDW34 => k_extra "nd"); (case kdW34 => ktr_room); (case kuW34 => ktr_units)); intro x' d' od' h' tk' o0' F' N' D'; (try dsimp only [List.cons_append, List.nil_append] at N' D'); (try k_sweep); (try dsimp only))
  k_with "call ref" => (k_here; (with_reducible show wpAny _ _ (call (Value.ref 685) _) _ _ _); k_dflt (refine' rtt_new ?k1W35 ?k2W35 ?k3W35 ?kPW35 ?kDW35 ?kNW35 ?k5W35 ?k6W35 ?kfW35 ?khW35 ?kAW35 ?kdW35 ?kuW35 ?_; (case kAW35 => exact rfl); (case khW35 => exact rfl); (case k1W35 => k_asm); (case k2W35 => k_asm); (case k3W35 => k_asm); (case k5W35 => k_asm); (case k6W35 => first | exact rfl | assumption); (case kfW35 => first | exact rfl | assumption); (case kNW35 => k_asm); (case kPW35 => k_extra "pick"); (case kDW35 => k_extra "nd"); (case kdW35 => ktr_room); (case kuW35 => ktr_units)); intro x' d' od' h' tk' o0' F' N' D'; (try dsimp only [List.cons_append, List.nil_append] at N' D'); (try k_sweep); (try dsimp only))
  k_with "call ref" => (k_here; (with_reducible show wpAny _ _ (call (Value.ref 741) _) _ _ _); k_dflt (refine' queue_new ?k1W36 ?k2W36 ?k3W36 ?kPW36 ?kDW36 ?kNW36 ?k5W36 ?k6W36 ?kfW36 ?khW36 ?kAW36 ?kdW36 ?kuW36 ?_; (case kAW36 => exact rfl); (case khW36 => exact rfl); (case k1W36 => k_asm); (case k2W36 => k_asm); (case k3W36 => k_asm); (case k5W36 => k_asm); (case k6W36 => first | exact rfl | assumption); (case kfW36 => first | exact rfl | assumption); (case kNW36 => k_asm); (case kPW36 => k_extra "pick"); (case kDW36 => k_extra "nd"); (case kdW36 => ktr_room); (case kuW36 => ktr_units)); intro x' d' od' h' tk' o0' F' N' D'; (try dsimp only [List.cons_append, List.nil_append] at N' D'); (try k_sweep); (try dsimp only))
  k_with "call ref" => (k_here; (with_reducible show wpAny _ _ (call (Value.ref 783) _) _ _ _); k_dflt (refine' peer_new ?k1W37 ?k2W37 ?k3W37 ?kPW37 ?kDW37 ?kNW37 ?k5W37 ?k6W37 ?kfW37 ?khW37 ?kAW37 ?kdW37 ?kuW37 ?_; (case kAW37 => exact rfl); (case khW37 => exact rfl); (case k1W37 => k_asm); (case k2W37 => k_asm); (case k3W37 => k_asm); (case k5W37 => k_asm); (case k6W37 => first | exact rfl | assumption); (case kfW37 => first | exact rfl | assumption); (case kNW37 => k_asm); (case kPW37 => k_extra "pick"); (case kDW37 => k_extra "nd"); (case kdW37 => ktr_room); (case kuW37 => ktr_units)); intro x' d' od' h' tk' o0' F' N' D'; (try dsimp only [List.cons_append, List.nil_append] at N' D'); (try k_sweep); (try dsimp only))
  trivial
section
variable {all rest : List (Addr × Obj)} {w : World} {mean : ExcName → Option Value} {mg mb : Str → Option Value} {A : Around} {env : Env} {outer : List Env} {A₀ : Around} {base h₀ : Heap} {L : Addr} {m : Str → Option Value} {s : Shared} {Q E : Value → Shared → Prop}
theorem sender_new {iss ring mss : Int} {t0 t1 t2 t3 : Tok}
    (B : Below A₀ base outer h₀) (F : Fr h₀ L s.heap m) (X : (hd.heap_1 w.params).In h₀) (P9 : Pick [] all rest) (D9 : ND all) (N9 : News h₀ L s.heap all) (T : Top vu LOOSE mean mg mb h₀) (hk : env.scope.kind = .function) (hf : env.frame = some L) (hh : A.handled = none) (hA : A.frames = some (env :: outer)) (hd9 : A.depth + 8 < recursionLimit) (hu9 : A.units + 60 < cLine)
   
    (hret : ∀ (x dx : Addr) (odx : Obj) (q qd : Addr) (oqd : Obj) (h' : Heap) (tk' : Nat), SenD iss ring mss iss iss iss q true false false odx → QueD #[] oqd → Fr h₀ L h' m → News h₀ L h' ([(x, instObj 974 dx), (dx, odx), (q, instObj 741 qd), (qd, oqd)] ++ rest) → ND ([(x, instObj 974 dx), (dx, odx), (q, instObj 741 qd), (qd, oqd)] ++ rest) → Q (.ref x) { s with heap := h', toks := tk' }) :
    wpAny (model PySem.Challenge.rw_xw0345_01.prog w) A (call (.ref 974) [.int iss t0, .int ring t1, .int mss t2, .int 40 t3]) Q E s := by
  obtain ⟨hd0, dp, fr0, gd, un⟩ := A
  dsimp only at hh hA hd9 hu9
  subst hh hA
  revert X; k_fill; intro X
  have N := P9.newsAll N9
  have D := P9.ndAll D9
  clear N9 D9 P9
  dsimp only [List.cons_append, List.nil_append] at N D
  k_steps
  refine' Pick.finish (S := [(_, instObj 974 _), (_, _), (_, instObj 741 _), (_, _)]) (rest := rest) ?fN ?fP ?fU ?fD (fun N0 D0 => hret _ _ _ _ _ _ _ _ ?p0 ?p1 (by k_asm) N0 D0)
  case fN => k_asm
  case fP => walk_at "pick"
  case fU => walk_at "suff"
  case fD => walk_at "nd"
  case p0 => walk_at "post"
  case p1 => walk_at "post"
open LCg in
theorem slots_rest {prog : Program} {w : World} {A : Around} {h₀ : Heap} {L : Addr} {m : Str → Option Value} {env : Env} {x : Str} {scope : Scope} {cl : List (Str × Addr)} {s : Shared} {P : Nat → Value → Prop} {Fin : List Value → List (Addr × Obj) → Prop} {pos : Pos} {base : List (Addr × Obj)} :
    ∀ (k i : Nat) (ys : List Value) (news : List (Addr × Obj)), ys.length = i → (i ≤ 4 ∨ ∃ l4, ys[4]? = some (.ref l4) ∧ (l4, lst []) ∈ news ∧ ∀ p ∈ base, p.1 < l4) → (∀ p ∈ base, p ∈ news) →
      (∀ (ys : List Value) (news : List (Addr × Obj)), ys.length = i + k → (i + k ≤ 4 ∨ ∃ l4, ys[4]? = some (.ref l4) ∧ (l4, lst []) ∈ news ∧ ∀ p ∈ base, p.1 < l4) → (∀ p ∈ base, p ∈ news) → Fin ys news) →
      CompRest prog w A h₀ L m env (.List [] pos) x scope cl s (fun _ => True) P Fin k i ys news := by
  intro k
  induction k with
  | zero => intro i ys news h1 h2 h3 h4; exact CompRest.zero (h4 ys news h1 h2 h3)
  | succ k ih =>
    intro i ys news h1 h2 h3 h4
    refine CompRest.succ fun v I oI C oC D m₂ h tk E' _ _ _ F N off _ => ?_
    refine List_ ?_
    show wpAny _ _ (pure []) _ _ _
    refine wpAny_pure (newList_N F N (fun h' F' N' => ?_) (Nat.zero_le _))
    have lo : ∀ p ∈ news, p.1 < h.objs.size := fun p hp => Heap.lt_size (N p (List.mem_cons_of_mem _ (List.mem_cons_of_mem _ (List.mem_cons_of_mem _ hp)))).1
    have l3 : ∀ q ∈ (I, oI) :: (C, oC) :: (D, lst ys) :: [], q.1 < h.objs.size := fun q hq => Heap.lt_size (N q (by
      simp only [List.mem_cons, List.not_mem_nil, or_false] at hq ⊢
      rcases hq with h | h | h
      · exact .inl h
      · exact .inr (.inl h)
      · exact .inr (.inr (.inl h)))).1
    refine CompEnd.intro F' N' ((h.objs.size, lst []) :: news) ?_ ?_ trivial ?_
    · intro p hp
      simp only [List.mem_cons] at hp ⊢
      rcases hp with h | h | h | h | h
      · exact .inr (.inl h)
      · exact .inr (.inr (.inl h))
      · exact .inr (.inr (.inr (.inl h)))
      · exact .inl h
      · exact .inr (.inr (.inr (.inr h)))
    · refine ⟨⟨?_, ?_, ?_⟩, off⟩
      · exact Nat.ne_of_gt (l3 (I, oI) (by simp))
      · exact Nat.ne_of_gt (l3 (C, oC) (by simp))
      · exact Nat.ne_of_gt (l3 (D, lst ys) (by simp))
    · refine ih (i + 1) (ys ++ [.ref h.objs.size]) _ (by rw [List.length_append, h1]; rfl) ?_ (fun p hp => List.mem_cons_of_mem _ (h3 p hp)) fun ys' news' e1 e2 e3 => h4 ys' news' (by omega) (by rcases e2 with e | e; exact .inl (by omega); exact .inr e) e3
      rcases h2 with h2 | ⟨l4, a, b, c⟩
      · by_cases e : i = 4
        · refine .inr ⟨h.objs.size, ?_, List.mem_cons_self, fun p hp => lo p (h3 p hp)⟩
          rw [List.getElem?_append_right (by omega), h1, e]; rfl
        · exact .inl (by omega)
      · refine .inr ⟨l4, ?_, List.mem_cons_of_mem _ b, c⟩
        rw [List.getElem?_append_left (by have := (List.getElem?_eq_some_iff.mp a).1; exact this)]; exact a
open LCg in
theorem off1_mem {D : Addr} {l : List (Addr × Obj)} (x : Off1 D l) : ∀ p ∈ l, p.1 ≠ D := by
  induction l with
  | nil => intro p hp; cases hp
  | cons a r ih =>
    intro p hp
    rcases List.mem_cons.mp hp with h | h
    · rw [h]; exact x.1
    · exact ih x.2 p h
open LCg in
theorem off1_of {D : Addr} {l : List (Addr × Obj)} (h : ∀ p ∈ l, p.1 ≠ D) : Off1 D l := by
  induction l with
  | nil => exact trivial
  | cons a r ih => exact ⟨h a List.mem_cons_self, ih fun p hp => h p (List.mem_cons_of_mem _ hp)⟩
open LCg in
theorem slots_done {g h : Heap} {L D l4 : Addr} {ys : List Value} {base news : List (Addr × Obj)} (N : News g L h ((D, lst ys) :: news)) (o : Off1 D news) (e3 : ∀ p ∈ base, p ∈ news) (e5 : (l4, lst []) ∈ news) (e6 : ∀ p ∈ base, p.1 < l4) :
    News g L h ((l4, W.listOf [].toArray 0) :: (D, W.listOf ys.toArray ys.length) :: base) ∧ @Ne Nat l4 D ∧ Off1 D base ∧ ∀ p ∈ base, p.1 < l4 := by
  refine ⟨fun p hp => ?_, off1_mem o _ e5, off1_of fun p hp => off1_mem o _ (e3 p hp), e6⟩
  rcases List.mem_cons.mp hp with rfl | hp
  · exact N _ (List.mem_cons_of_mem _ e5)
  · rcases List.mem_cons.mp hp with rfl | hp
    · exact N _ List.mem_cons_self
    · exact N _ (List.mem_cons_of_mem _ (e3 _ hp))
open LCg in
theorem nd_slots {l4 D : Addr} {o o' : Obj} {base : List (Addr × Obj)} (N : ND base) (h1 : @Ne Nat l4 D) (h2 : Off1 D base) (h3 : ∀ p ∈ base, p.1 < l4) : ND ((l4, o) :: (D, o') :: base) := by
  have d1 : ND ((D, o') :: base) := List.nodup_cons.mpr ⟨fun h => by
    obtain ⟨p, hp, e⟩ := List.mem_map.mp h
    exact off1_mem h2 p hp e, N⟩
  refine List.nodup_cons.mpr ⟨fun h => ?_, d1⟩
  obtain ⟨p, hp, e⟩ := List.mem_map.mp h
  rcases List.mem_cons.mp hp with rfl | hp
  · exact h1 e.symm
  · exact absurd (e ▸ h3 p hp) (Nat.lt_irrefl _)
end
theorem words2 : True := by
  k_with "CompSrc" => (k_here; (with_reducible show LCg.CompSrc _ _ _ _ _ _ _ (PySem.Expr.List [] _) _ _ _ _ _ _); k_dflt (refine LCg.CompSrc.range (by rfl) (by k_asm) (by k_asm) (by assumption) (by first | decide | rfl) (by first | rfl | decide) (by first | size_fits | exact Nat.le_of_ble_eq_true rfl) ?_; intro g'; refine slots_rest 16 0 [] _ rfl (Or.inl (by decide)) (fun _ h => h) ?_; intro ys9 news9 e1 e2 e3; (replace e2 := e2.resolve_left (by decide)); (obtain ⟨l4, e4, e5, e6⟩ := e2); unfold LCg.FinE; intro D' h' tk' F' N' o1'; (have q9 := slots_done N' o1' e3 e5 e6); clear N' o1' e3 e5 e6; (obtain ⟨N', hD1, hD2, h4⟩ := q9); (have D9 := nd_slots (o := W.listOf [].toArray 0) (o' := W.listOf ys9.toArray ys9.length) (by k_extra "nd") hD1 hD2 h4); clear hD1 hD2; (try k_lt h4); (try k_sweep); (try dsimp only); skip))
  trivial
section
variable {all rest : List (Addr × Obj)} {w : World} {mean : ExcName → Option Value} {mg mb : Str → Option Value} {A : Around} {env : Env} {outer : List Env} {A₀ : Around} {base h₀ : Heap} {L : Addr} {m : Str → Option Value} {s : Shared} {Q E : Value → Shared → Prop}
theorem wheel_new 
    (B : Below A₀ base outer h₀) (F : Fr h₀ L s.heap m) (X : (hd.heap_1 w.params).In h₀) (P9 : Pick [] all rest) (D9 : ND all) (N9 : News h₀ L s.heap all) (T : Top vu LOOSE mean mg mb h₀) (hk : env.scope.kind = .function) (hf : env.frame = some L) (hh : A.handled = none) (hA : A.frames = some (env :: outer)) (hd9 : A.depth + 8 < recursionLimit) (hu9 : A.units + 60 < cLine)
   
    (hret : ∀ (x dx : Addr) (odx : Obj) (en lt l4 sl : Addr) (oen : Obj) (ys : List Value) (h' : Heap) (tk' : Nat), WhlD sl lt en 0 odx → ys.length = 16 → ys[4]? = some (.ref l4) → oen.IsDictOf (intKind PySem.Challenge.rw_xw0345_01.prog w) [] → (en == sysModules) = false → Fr h₀ L h' m → News h₀ L h' ([(x, instObj 1041 dx), (dx, odx), (en, oen), (lt, W.listOf [].toArray 0), (l4, W.listOf [].toArray 0), (sl, W.listOf (List.toArray ys) (List.length ys))] ++ rest) → ND ([(x, instObj 1041 dx), (dx, odx), (en, oen), (lt, W.listOf [].toArray 0), (l4, W.listOf [].toArray 0), (sl, W.listOf (List.toArray ys) (List.length ys))] ++ rest) → Q (.ref x) { s with heap := h', toks := tk' }) :
    wpAny (model PySem.Challenge.rw_xw0345_01.prog w) A (call (.ref 1041) []) Q E s := by
  obtain ⟨hd0, dp, fr0, gd, un⟩ := A
  dsimp only at hh hA hd9 hu9
  subst hh hA
  revert X; k_fill; intro X
  have N := P9.newsAll N9
  have D := P9.ndAll D9
  clear N9 D9 P9
  dsimp only [List.cons_append, List.nil_append] at N D
  k_steps
  refine' Pick.finish (S := [(_, instObj 1041 _), (_, _), (_, _), (_, W.listOf [].toArray 0), (_, W.listOf [].toArray 0), (_, W.listOf (List.toArray _) (List.length _))]) (rest := rest) ?fN ?fP ?fU ?fD (fun N0 D0 => hret _ _ _ _ _ _ _ _ _ _ _ ?p0 ?p1 ?p2 ?p3 ?p4 (by k_asm) N0 D0)
  case fN => k_asm
  case fP => walk_at "pick"
  case fU => walk_at "suff"
  case fD => walk_at "nd"
  case p0 => walk_at "post"
  case p1 => walk_at "post"
  case p2 => walk_at "post"
  case p3 => walk_at "post"
  case p4 => walk_at "post"
end
-- N3
theorem words4 : True := by
  k_with "call ref" => (k_here; (with_reducible show wpAny _ _ (call (Value.ref 974) _) _ _ _); k_dflt (refine' sender_new ?k1W38 ?k2W38 ?k3W38 ?kPW38 ?kDW38 ?kNW38 ?k5W38 ?k6W38 ?kfW38 ?khW38 ?kAW38 ?kdW38 ?kuW38 ?_; (case kAW38 => exact rfl); (case khW38 => exact rfl); (case k1W38 => k_asm); (case k2W38 => k_asm); (case k3W38 => k_asm); (case k5W38 => k_asm); (case k6W38 => first | exact rfl | assumption); (case kfW38 => first | exact rfl | assumption); (case kNW38 => k_asm); (case kPW38 => k_extra "pick"); (case kDW38 => k_extra "nd"); (case kdW38 => ktr_room); (case kuW38 => ktr_units)); intro x' d' od' q' qd' oqd' h' tk' o0' o1' F' N' D'; (try dsimp only [List.cons_append, List.nil_append] at N' D'); (try k_sweep); (try dsimp only))
  k_with "call ref" => (k_here; (with_reducible show wpAny _ _ (call (Value.ref 1041) _) _ _ _); k_dflt (refine' wheel_new ?k1W39 ?k2W39 ?k3W39 ?kPW39 ?kDW39 ?kNW39 ?k5W39 ?k6W39 ?kfW39 ?khW39 ?kAW39 ?kdW39 ?kuW39 ?_; (case kAW39 => exact rfl); (case khW39 => exact rfl); (case k1W39 => k_asm); (case k2W39 => k_asm); (case k3W39 => k_asm); (case k5W39 => k_asm); (case k6W39 => first | exact rfl | assumption); (case kfW39 => first | exact rfl | assumption); (case kNW39 => k_asm); (case kPW39 => k_extra "pick"); (case kDW39 => k_extra "nd"); (case kdW39 => ktr_room); (case kuW39 => ktr_units)); intro x' d' od' en' lt' l4' sl' oen' ys' h' tk' o0' o1' o2' o3' o4' F' N' D'; (try dsimp only [List.cons_append, List.nil_append] at N' D'); (try k_sweep); (try dsimp only))
  trivial
section
variable {all rest : List (Addr × Obj)} {w : World} {mean : ExcName → Option Value} {mg mb : Str → Option Value} {A : Around} {env : Env} {outer : List Env} {A₀ : Around} {base h₀ : Heap} {L : Addr} {m : Str → Option Value} {s : Shared} {Q E : Value → Shared → Prop}
theorem tcb_new {ring mss iss : Int} {lim limd lo re : Addr} {olim : Obj} {t0 : Tok}
    (B : Below A₀ base outer h₀) (F : Fr h₀ L s.heap m) (X : (hd.heap_1 w.params).In h₀) (P9 : Pick [(lim, instObj 1062 limd), (limd, olim)] all rest) (D9 : ND all) (N9 : News h₀ L s.heap all) (T : Top vu LOOSE mean mg mb h₀) (hk : env.scope.kind = .function) (hf : env.frame = some L) (hh : A.handled = none) (hA : A.frames = some (env :: outer)) (hd9 : A.depth + 12 < recursionLimit) (hu9 : A.units + 120 < cLine)
    (q0 : LimD ring mss olim)
    (hret : ∀ (x dx s' sd q qd c cd a ad w' wd en lt l4 sl : Addr) (odx osd oqd ocd oad owd oen : Obj) (ys : List Value) (t9 : Tok) (h' : Heap) (tk' : Nat), TcbD lim lo re s' .none c a w' odx → SenD iss ring mss iss iss iss q true false false osd → QueD #[] oqd → ClkD .none ocd → AckD (.int 0 t9) (.bool false) .none oad → WhlD sl lt en 0 owd → ys.length = 16 → ys[4]? = some (.ref l4) → oen.IsDictOf (intKind PySem.Challenge.rw_xw0345_01.prog w) [] → (en == sysModules) = false → Fr h₀ L h' m → News h₀ L h' ([(x, instObj 1105 dx), (dx, odx), (s', instObj 974 sd), (sd, osd), (q, instObj 741 qd), (qd, oqd), (c, instObj 629 cd), (cd, ocd), (a, instObj 461 ad), (ad, oad), (w', instObj 1041 wd), (wd, owd), (en, oen), (lt, W.listOf [].toArray 0), (l4, W.listOf [].toArray 0), (sl, W.listOf (List.toArray ys) (List.length ys)), (lim, instObj 1062 limd), (limd, olim)] ++ rest) → ND ([(x, instObj 1105 dx), (dx, odx), (s', instObj 974 sd), (sd, osd), (q, instObj 741 qd), (qd, oqd), (c, instObj 629 cd), (cd, ocd), (a, instObj 461 ad), (ad, oad), (w', instObj 1041 wd), (wd, owd), (en, oen), (lt, W.listOf [].toArray 0), (l4, W.listOf [].toArray 0), (sl, W.listOf (List.toArray ys) (List.length ys)), (lim, instObj 1062 limd), (limd, olim)] ++ rest) → Q (.ref x) { s with heap := h', toks := tk' }) :
    wpAny (model PySem.Challenge.rw_xw0345_01.prog w) A (call (.ref 1105) [.ref lim, .ref lo, .ref re, .int iss t0]) Q E s := by
  obtain ⟨hd0, dp, fr0, gd, un⟩ := A
  dsimp only at hh hA hd9 hu9
  subst hh hA
  revert X; k_fill; intro X
  have N := P9.newsAll N9
  have D := P9.ndAll D9
  clear N9 D9 P9
  dsimp only [List.cons_append, List.nil_append] at N D
  k_steps
  refine' Pick.finish (S := [(_, instObj 1105 _), (_, _), (_, instObj 974 _), (_, _), (_, instObj 741 _), (_, _), (_, instObj 629 _), (_, _), (_, instObj 461 _), (_, _), (_, instObj 1041 _), (_, _), (_, _), (_, W.listOf [].toArray 0), (_, W.listOf [].toArray 0), (_, W.listOf (List.toArray _) (List.length _)), (lim, instObj 1062 limd), (limd, olim)]) (rest := rest) ?fN ?fP ?fU ?fD (fun N0 D0 => hret _ _ _ _ _ _ _ _ _ _ _ _ _ _ _ _ _ _ _ _ _ _ _ _ _ _ _ ?p0 ?p1 ?p2 ?p3 ?p4 ?p5 ?p6 ?p7 ?p8 ?p9 (by k_asm) N0 D0)
  case fN => k_asm
  case fP => walk_at "pick"
  case fU => walk_at "suff"
  case fD => walk_at "nd"
  case p0 => walk_at "post"
  case p1 => walk_at "post"
  case p2 => walk_at "post"
  case p3 => walk_at "post"
  case p4 => walk_at "post"
  case p5 => walk_at "post"
  case p6 => walk_at "post"
  case p7 => walk_at "post"
  case p8 => walk_at "post"
  case p9 => walk_at "post"
end
-- N4

section
variable {all rest : List (Addr × Obj)} {w : World} {mean : ExcName → Option Value} {mg mb : Str → Option Value} {A : Around} {env : Env} {outer : List Env} {A₀ : Around} {base h₀ : Heap} {L : Addr} {m : Str → Option Value} {s : Shared} {Q E : Value → Shared → Prop}
theorem sent_U {c cd : Addr} {ocd : Obj} {v : Int} {tv t1 : Tok}
    (B : Below A₀ base outer h₀) (F : Fr h₀ L s.heap m) (X : (hd.heap_1 w.params).In h₀) (P9 : Pick [(c, instObj 629 cd), (cd, ocd)] all rest) (D9 : ND all) (N9 : News h₀ L s.heap all) (T : Top vu LOOSE mean mg mb h₀) (hk : env.scope.kind = .function) (hf : env.frame = some L) (hh : A.handled = none) (hA : A.frames = some (env :: outer)) (hd9 : A.depth + 6 < recursionLimit) (hu9 : A.units + 60 < cLine)
    (q0 : ClkD .none ocd)
    (hret : ∀ (ocd' : Obj) (h' : Heap) (tk' : Nat), ClkD (.int v tv) ocd' → Fr h₀ L h' m → News h₀ L h' ([(c, instObj 629 cd), (cd, ocd')] ++ rest) → ND ([(c, instObj 629 cd), (cd, ocd')] ++ rest) → Q .none { s with heap := h', toks := tk' }) :
    wpAny (model PySem.Challenge.rw_xw0345_01.prog w) A (call (.ref 584) [.ref c, .int v tv, .int 1 t1]) Q E s := by
  obtain ⟨hd0, dp, fr0, gd, un⟩ := A
  dsimp only at hh hA hd9 hu9
  subst hh hA
  revert X; k_fill; intro X
  have N := P9.news N9
  have D := P9.nd D9
  refine wpAny_call ?_
  walk_at "A enter"
  rename (∀ (b : Addr) (o : Obj), _ → ¬ _ → _) => kp
  k_steps
  show LeaveP _ _ _ _ _ _ _
  refine leaveP_ (by k_asm) (by k_asm) ?_
  intro F0 N0 fr0 kp0
  refine' P9.leave2 (S' := [(c, instObj 629 cd), (cd, _)]) D9 N9 F0 N0 fr0 kp kp0 ?lP ?lD (hret _ _ _ ?p0)
  case lP => walk_at "pick"
  case lD => walk_at "nd"
  case p0 => walk_at "post"
theorem forget_U {c cd : Addr} {ocd : Obj} {te : Value}
    (B : Below A₀ base outer h₀) (F : Fr h₀ L s.heap m) (X : (hd.heap_1 w.params).In h₀) (P9 : Pick [(c, instObj 629 cd), (cd, ocd)] all rest) (D9 : ND all) (N9 : News h₀ L s.heap all) (T : Top vu LOOSE mean mg mb h₀) (hk : env.scope.kind = .function) (hf : env.frame = some L) (hh : A.handled = none) (hA : A.frames = some (env :: outer)) (hd9 : A.depth + 6 < recursionLimit) (hu9 : A.units + 60 < cLine)
    (q0 : ClkD te ocd)
    (hret : ∀ (ocd' : Obj) (h' : Heap) (tk' : Nat), ClkD .none ocd' → Fr h₀ L h' m → News h₀ L h' ([(c, instObj 629 cd), (cd, ocd')] ++ rest) → ND ([(c, instObj 629 cd), (cd, ocd')] ++ rest) → Q .none { s with heap := h', toks := tk' }) :
    wpAny (model PySem.Challenge.rw_xw0345_01.prog w) A (call (.ref 591) [.ref c]) Q E s := by
  obtain ⟨hd0, dp, fr0, gd, un⟩ := A
  dsimp only at hh hA hd9 hu9
  subst hh hA
  revert X; k_fill; intro X
  have N := P9.news N9
  have D := P9.nd D9
  refine wpAny_call ?_
  walk_at "A enter"
  rename (∀ (b : Addr) (o : Obj), _ → ¬ _ → _) => kp
  k_steps
  show LeaveP _ _ _ _ _ _ _
  refine leaveP_ (by k_asm) (by k_asm) ?_
  intro F0 N0 fr0 kp0
  refine' P9.leave2 (S' := [(c, instObj 629 cd), (cd, _)]) D9 N9 F0 N0 fr0 kp kp0 ?lP ?lD (hret _ _ _ ?p0)
  case lP => walk_at "pick"
  case lD => walk_at "nd"
  case p0 => walk_at "post"
theorem timing_U {c cd : Addr} {ocd : Obj}
    (B : Below A₀ base outer h₀) (F : Fr h₀ L s.heap m) (X : (hd.heap_1 w.params).In h₀) (P9 : Pick [(c, instObj 629 cd), (cd, ocd)] all rest) (D9 : ND all) (N9 : News h₀ L s.heap all) (T : Top vu LOOSE mean mg mb h₀) (hk : env.scope.kind = .function) (hf : env.frame = some L) (hh : A.handled = none) (hA : A.frames = some (env :: outer)) (hd9 : A.depth + 6 < recursionLimit) (hu9 : A.units + 60 < cLine)
    (q0 : ClkD .none ocd)
    (hret : ∀  (h' : Heap) (tk' : Nat), Fr h₀ L h' m → News h₀ L h' ([(c, instObj 629 cd), (cd, ocd)] ++ rest) → ND ([(c, instObj 629 cd), (cd, ocd)] ++ rest) → Q (.bool false) { s with heap := h', toks := tk' }) :
    wpAny (model PySem.Challenge.rw_xw0345_01.prog w) A (call (.ref 577) [.ref c]) Q E s := by
  obtain ⟨hd0, dp, fr0, gd, un⟩ := A
  dsimp only at hh hA hd9 hu9
  subst hh hA
  revert X; k_fill; intro X
  have N := P9.news N9
  have D := P9.nd D9
  refine wpAny_call ?_
  walk_at "A enter"
  rename (∀ (b : Addr) (o : Obj), _ → ¬ _ → _) => kp
  k_steps
  show LeaveP _ _ _ _ _ _ _
  refine leaveP_ (by k_asm) (by k_asm) ?_
  intro F0 N0 fr0 kp0
  refine' P9.leave2 (S' := [(c, instObj 629 cd), (cd, ocd)]) D9 N9 F0 N0 fr0 kp kp0 ?lP ?lD (hret _ _ )
  case lP => walk_at "pick"
  case lD => walk_at "nd"
theorem on_sent_U {a ad : Addr} {oad : Obj} {wt hg du : Value}
    (B : Below A₀ base outer h₀) (F : Fr h₀ L s.heap m) (X : (hd.heap_1 w.params).In h₀) (P9 : Pick [(a, instObj 461 ad), (ad, oad)] all rest) (D9 : ND all) (N9 : News h₀ L s.heap all) (T : Top vu LOOSE mean mg mb h₀) (hk : env.scope.kind = .function) (hf : env.frame = some L) (hh : A.handled = none) (hA : A.frames = some (env :: outer)) (hd9 : A.depth + 6 < recursionLimit) (hu9 : A.units + 60 < cLine)
    (q0 : AckD wt hg du oad)
    (hret : ∀ (oad' : Obj) (wt' : Value) (h' : Heap) (tk' : Nat), AckD wt' hg .none oad' → Fr h₀ L h' m → News h₀ L h' ([(a, instObj 461 ad), (ad, oad')] ++ rest) → ND ([(a, instObj 461 ad), (ad, oad')] ++ rest) → Q .none { s with heap := h', toks := tk' }) :
    wpAny (model PySem.Challenge.rw_xw0345_01.prog w) A (call (.ref 451) [.ref a]) Q E s := by
  obtain ⟨hd0, dp, fr0, gd, un⟩ := A
  dsimp only at hh hA hd9 hu9
  subst hh hA
  revert X; k_fill; intro X
  have N := P9.news N9
  have D := P9.nd D9
  refine wpAny_call ?_
  walk_at "A enter"
  rename (∀ (b : Addr) (o : Obj), _ → ¬ _ → _) => kp
  k_steps
  show LeaveP _ _ _ _ _ _ _
  refine leaveP_ (by k_asm) (by k_asm) ?_
  intro F0 N0 fr0 kp0
  refine' P9.leave2 (S' := [(a, instObj 461 ad), (ad, _)]) D9 N9 F0 N0 fr0 kp kp0 ?lP ?lD (hret _ _ _ _ ?p0)
  case lP => walk_at "pick"
  case lD => walk_at "nd"
  case p0 => walk_at "post"
theorem due_N {a ad : Addr} {oad : Obj} {wt hg : Value}
    (B : Below A₀ base outer h₀) (F : Fr h₀ L s.heap m) (X : (hd.heap_1 w.params).In h₀) (P9 : Pick [(a, instObj 461 ad), (ad, oad)] all rest) (D9 : ND all) (N9 : News h₀ L s.heap all) (T : Top vu LOOSE mean mg mb h₀) (hk : env.scope.kind = .function) (hf : env.frame = some L) (hh : A.handled = none) (hA : A.frames = some (env :: outer)) (hd9 : A.depth + 6 < recursionLimit) (hu9 : A.units + 60 < cLine)
    (q0 : AckD wt hg .none oad)
    (hret : ∀  (h' : Heap) (tk' : Nat), Fr h₀ L h' m → News h₀ L h' ([(a, instObj 461 ad), (ad, oad)] ++ rest) → ND ([(a, instObj 461 ad), (ad, oad)] ++ rest) → Q .none { s with heap := h', toks := tk' }) :
    wpAny (model PySem.Challenge.rw_xw0345_01.prog w) A (call (.ref 458) [.ref a]) Q E s := by
  obtain ⟨hd0, dp, fr0, gd, un⟩ := A
  dsimp only at hh hA hd9 hu9
  subst hh hA
  revert X; k_fill; intro X
  have N := P9.news N9
  have D := P9.nd D9
  refine wpAny_call ?_
  walk_at "A enter"
  rename (∀ (b : Addr) (o : Obj), _ → ¬ _ → _) => kp
  k_steps
  show LeaveP _ _ _ _ _ _ _
  refine leaveP_ (by k_asm) (by k_asm) ?_
  intro F0 N0 fr0 kp0
  refine' P9.leave2 (S' := [(a, instObj 461 ad), (ad, oad)]) D9 N9 F0 N0 fr0 kp kp0 ?lP ?lD (hret _ _ )
  case lP => walk_at "pick"
  case lD => walk_at "nd"
theorem due_I {a ad : Addr} {oad : Obj} {wt hg : Value} {d : Int} {td : Tok}
    (B : Below A₀ base outer h₀) (F : Fr h₀ L s.heap m) (X : (hd.heap_1 w.params).In h₀) (P9 : Pick [(a, instObj 461 ad), (ad, oad)] all rest) (D9 : ND all) (N9 : News h₀ L s.heap all) (T : Top vu LOOSE mean mg mb h₀) (hk : env.scope.kind = .function) (hf : env.frame = some L) (hh : A.handled = none) (hA : A.frames = some (env :: outer)) (hd9 : A.depth + 6 < recursionLimit) (hu9 : A.units + 60 < cLine)
    (q0 : AckD wt hg (.int d td) oad)
    (hret : ∀  (h' : Heap) (tk' : Nat), Fr h₀ L h' m → News h₀ L h' ([(a, instObj 461 ad), (ad, oad)] ++ rest) → ND ([(a, instObj 461 ad), (ad, oad)] ++ rest) → Q (.int d td) { s with heap := h', toks := tk' }) :
    wpAny (model PySem.Challenge.rw_xw0345_01.prog w) A (call (.ref 458) [.ref a]) Q E s := by
  obtain ⟨hd0, dp, fr0, gd, un⟩ := A
  dsimp only at hh hA hd9 hu9
  subst hh hA
  revert X; k_fill; intro X
  have N := P9.news N9
  have D := P9.nd D9
  refine wpAny_call ?_
  walk_at "A enter"
  rename (∀ (b : Addr) (o : Obj), _ → ¬ _ → _) => kp
  k_steps
  show LeaveP _ _ _ _ _ _ _
  refine leaveP_ (by k_asm) (by k_asm) ?_
  intro F0 N0 fr0 kp0
  refine' P9.leave2 (S' := [(a, instObj 461 ad), (ad, oad)]) D9 N9 F0 N0 fr0 kp kp0 ?lP ?lD (hret _ _ )
  case lP => walk_at "pick"
  case lD => walk_at "nd"
theorem on_octets_U {a ad : Addr} {oad : Obj} {t2 t9 : Tok}
    (B : Below A₀ base outer h₀) (F : Fr h₀ L s.heap m) (X : (hd.heap_1 w.params).In h₀) (P9 : Pick [(a, instObj 461 ad), (ad, oad)] all rest) (D9 : ND all) (N9 : News h₀ L s.heap all) (T : Top vu LOOSE mean mg mb h₀) (hk : env.scope.kind = .function) (hf : env.frame = some L) (hh : A.handled = none) (hA : A.frames = some (env :: outer)) (hd9 : A.depth + 6 < recursionLimit) (hu9 : A.units + 60 < cLine)
    (q0 : AckD (.int 0 t9) (.bool false) .none oad)
    (hret : ∀ (oad' : Obj) (wt' hg' rv : Value) (td : Tok) (h' : Heap) (tk' : Nat), AckD wt' hg' (.int (2 + 2) td) oad' → Fr h₀ L h' m → News h₀ L h' ([(a, instObj 461 ad), (ad, oad')] ++ rest) → ND ([(a, instObj 461 ad), (ad, oad')] ++ rest) → Q rv { s with heap := h', toks := tk' }) :
    wpAny (model PySem.Challenge.rw_xw0345_01.prog w) A (call (.ref 430) [.ref a, .bool true, .int 2 t2]) Q E s := by
  obtain ⟨hd0, dp, fr0, gd, un⟩ := A
  dsimp only at hh hA hd9 hu9
  subst hh hA
  revert X; k_fill; intro X
  have N := P9.news N9
  have D := P9.nd D9
  refine wpAny_call ?_
  walk_at "A enter"
  rename (∀ (b : Addr) (o : Obj), _ → ¬ _ → _) => kp
  k_steps
  show LeaveP _ _ _ _ _ _ _
  refine leaveP_ (by k_asm) (by k_asm) ?_
  intro F0 N0 fr0 kp0
  refine' P9.leave2 (S' := [(a, instObj 461 ad), (ad, _)]) D9 N9 F0 N0 fr0 kp kp0 ?lP ?lD (hret _ _ _ _ _ _ _ ?p0)
  case lP => walk_at "pick"
  case lD => walk_at "nd"
  case p0 => walk_at "post"
end
-- N5

section
variable {all rest : List (Addr × Obj)} {w : World} {mean : ExcName → Option Value} {mg mb : Str → Option Value} {A : Around} {env : Env} {outer : List Env} {A₀ : Around} {base h₀ : Heap} {L : Addr} {m : Str → Option Value} {s : Shared} {Q E : Value → Shared → Prop}
theorem put_U {w' wd en lt l4 sl : Addr} {owd oen : Obj} {ys : List Value} {t3 t4 : Tok}
    (B : Below A₀ base outer h₀) (F : Fr h₀ L s.heap m) (X : (hd.heap_1 w.params).In h₀) (P9 : Pick [(w', instObj 1041 wd), (wd, owd), (en, oen), (lt, W.listOf [].toArray 0), (l4, W.listOf [].toArray 0), (sl, W.listOf (List.toArray ys) (List.length ys))] all rest) (D9 : ND all) (N9 : News h₀ L s.heap all) (T : Top vu LOOSE mean mg mb h₀) (hk : env.scope.kind = .function) (hf : env.frame = some L) (hh : A.handled = none) (hA : A.frames = some (env :: outer)) (hd9 : A.depth + 10 < recursionLimit) (hu9 : A.units + 100 < cLine)
    (q0 : WhlD sl lt en 0 owd) (q1 : ys.length = 16) (q2 : ys[4]? = some (.ref l4)) (q3 : oen.IsDictOf (intKind PySem.Challenge.rw_xw0345_01.prog w) []) (q4 : (en == sysModules) = false)
    (hret : ∀ (owd' oen' : Obj) (tp : Addr) (ta tb : Tok) (h' : Heap) (tk' : Nat), WhlD sl lt en (0 + 1) owd' → oen'.IsDictOf (intKind PySem.Challenge.rw_xw0345_01.prog w) [(3, .ref tp)] → Fr h₀ L h' m → News h₀ L h' ([(w', instObj 1041 wd), (wd, owd'), (en, oen'), (lt, W.listOf [].toArray 0), (l4, W.listOf (#[].push (.int 3 t3)) (0 + 1)), (sl, W.listOf (List.toArray ys) (List.length ys)), (tp, ({ cls := .type "tuple", data := .seq #[.int 4 ta, .int (0 + 1) tb] } : Obj))] ++ rest) → ND ([(w', instObj 1041 wd), (wd, owd'), (en, oen'), (lt, W.listOf [].toArray 0), (l4, W.listOf (#[].push (.int 3 t3)) (0 + 1)), (sl, W.listOf (List.toArray ys) (List.length ys)), (tp, ({ cls := .type "tuple", data := .seq #[.int 4 ta, .int (0 + 1) tb] } : Obj))] ++ rest) → Q .none { s with heap := h', toks := tk' }) :
    wpAny (model PySem.Challenge.rw_xw0345_01.prog w) A (call (.ref 998) [.ref w', .int 3 t3, .int 4 t4]) Q E s := by
  obtain ⟨hd0, dp, fr0, gd, un⟩ := A
  dsimp only at hh hA hd9 hu9
  subst hh hA
  revert X; k_fill; intro X
  have f0 : PyProof.V.FlatPairs PyData.int [] [] := by first | exact .nil | constructor | trivial | rfl
  have N := P9.news N9
  have D := P9.nd D9
  refine wpAny_call ?_
  walk_at "A enter"
  rename (∀ (b : Addr) (o : Obj), _ → ¬ _ → _) => kp
  k_steps
  show LeaveP _ _ _ _ _ _ _
  refine leaveP_ (by k_asm) (by k_asm) ?_
  intro F0 N0 fr0 kp0
  refine' P9.leave2 (S' := [(w', instObj 1041 wd), (wd, _), (en, _), (lt, W.listOf [].toArray 0), (l4, W.listOf (#[].push (.int 3 t3)) (0 + 1)), (sl, W.listOf (List.toArray ys) (List.length ys)), (_, ({ cls := .type "tuple", data := .seq #[.int 4 _, .int (0 + 1) _] } : Obj))]) D9 N9 F0 N0 fr0 kp kp0 ?lP ?lD (hret _ _ _ _ _ _ _ ?p0 ?p1)
  case lP => walk_at "pick"
  case lD => walk_at "nd"
  case p0 => walk_at "post"
  case p1 => walk_at "post"
end
-- N5b

section
variable {all rest : List (Addr × Obj)} {w : World} {mean : ExcName → Option Value} {mg mb : Str → Option Value} {A : Around} {env : Env} {outer : List Env} {A₀ : Around} {base h₀ : Heap} {L : Addr} {m : Str → Option Value} {s : Shared} {Q E : Value → Shared → Prop}
theorem cancel_U {w' wd en lt l4 sl tp : Addr} {owd oen : Obj} {ys : List Value} {gn : Int} {t3 u9 ta tb : Tok}
    (B : Below A₀ base outer h₀) (F : Fr h₀ L s.heap m) (X : (hd.heap_1 w.params).In h₀) (P9 : Pick [(w', instObj 1041 wd), (wd, owd), (en, oen), (lt, W.listOf [].toArray 0), (l4, W.listOf (#[].push (.int 3 u9)) (0 + 1)), (sl, W.listOf (List.toArray ys) (List.length ys)), (tp, ({ cls := .type "tuple", data := .seq #[.int 4 ta, .int (0 + 1) tb] } : Obj))] all rest) (D9 : ND all) (N9 : News h₀ L s.heap all) (T : Top vu LOOSE mean mg mb h₀) (hk : env.scope.kind = .function) (hf : env.frame = some L) (hh : A.handled = none) (hA : A.frames = some (env :: outer)) (hd9 : A.depth + 8 < recursionLimit) (hu9 : A.units + 80 < cLine)
    (q0 : WhlD sl lt en gn owd) (q1 : ys.length = 16) (q2 : ys[4]? = some (.ref l4)) (q3 : oen.IsDictOf (intKind PySem.Challenge.rw_xw0345_01.prog w) [(3, .ref tp)]) (q4 : (en == sysModules) = false)
    (hret : ∀ (oen' ol4 : Obj) (h' : Heap) (tk' : Nat), oen'.IsDictOf (intKind PySem.Challenge.rw_xw0345_01.prog w) [] → Fr h₀ L h' m → News h₀ L h' ([(w', instObj 1041 wd), (wd, owd), (en, oen'), (lt, W.listOf [].toArray 0), (l4, ol4), (sl, W.listOf (List.toArray ys) (List.length ys))] ++ rest) → ND ([(w', instObj 1041 wd), (wd, owd), (en, oen'), (lt, W.listOf [].toArray 0), (l4, ol4), (sl, W.listOf (List.toArray ys) (List.length ys))] ++ rest) → Q .none { s with heap := h', toks := tk' }) :
    wpAny (model PySem.Challenge.rw_xw0345_01.prog w) A (call (.ref 1012) [.ref w', .int 3 t3]) Q E s := by
  obtain ⟨hd0, dp, fr0, gd, un⟩ := A
  dsimp only at hh hA hd9 hu9
  subst hh hA
  revert X; k_fill; intro X
  have N := P9.news N9
  have D := P9.nd D9
  refine wpAny_call ?_
  walk_at "A enter"
  rename (∀ (b : Addr) (o : Obj), _ → ¬ _ → _) => kp
  k_steps
  show LeaveP _ _ _ _ _ _ _
  refine leaveP_ (by k_asm) (by k_asm) ?_
  intro F0 N0 fr0 kp0
  refine' P9.leave2 (S' := [(w', instObj 1041 wd), (wd, owd), (en, _), (lt, W.listOf [].toArray 0), (l4, _), (sl, W.listOf (List.toArray ys) (List.length ys))]) D9 N9 F0 N0 fr0 kp kp0 ?lP ?lD (hret _ _ _ _ ?p0)
  case lP => walk_at "pick"
  case lD => walk_at "nd"
  case p0 => walk_at "post"
theorem time_N {w' wd en lt sl : Addr} {owd oen : Obj} {gn : Int} {t3 : Tok}
    (B : Below A₀ base outer h₀) (F : Fr h₀ L s.heap m) (X : (hd.heap_1 w.params).In h₀) (P9 : Pick [(w', instObj 1041 wd), (wd, owd), (en, oen)] all rest) (D9 : ND all) (N9 : News h₀ L s.heap all) (T : Top vu LOOSE mean mg mb h₀) (hk : env.scope.kind = .function) (hf : env.frame = some L) (hh : A.handled = none) (hA : A.frames = some (env :: outer)) (hd9 : A.depth + 8 < recursionLimit) (hu9 : A.units + 80 < cLine)
    (q0 : WhlD sl lt en gn owd) (q3 : oen.IsDictOf (intKind PySem.Challenge.rw_xw0345_01.prog w) []) (q4 : (en == sysModules) = false)
    (hret : ∀  (h' : Heap) (tk' : Nat), Fr h₀ L h' m → News h₀ L h' ([(w', instObj 1041 wd), (wd, owd), (en, oen)] ++ rest) → ND ([(w', instObj 1041 wd), (wd, owd), (en, oen)] ++ rest) → Q .none { s with heap := h', toks := tk' }) :
    wpAny (model PySem.Challenge.rw_xw0345_01.prog w) A (call (.ref 1019) [.ref w', .int 3 t3]) Q E s := by
  obtain ⟨hd0, dp, fr0, gd, un⟩ := A
  dsimp only at hh hA hd9 hu9
  subst hh hA
  revert X; k_fill; intro X
  have N := P9.news N9
  have D := P9.nd D9
  refine wpAny_call ?_
  walk_at "A enter"
  rename (∀ (b : Addr) (o : Obj), _ → ¬ _ → _) => kp
  k_steps
  show LeaveP _ _ _ _ _ _ _
  refine leaveP_ (by k_asm) (by k_asm) ?_
  intro F0 N0 fr0 kp0
  refine' P9.leave2 (S' := [(w', instObj 1041 wd), (wd, owd), (en, oen)]) D9 N9 F0 N0 fr0 kp kp0 ?lP ?lD (hret _ _ )
  case lP => walk_at "pick"
  case lD => walk_at "nd"
theorem time_I {w' wd en lt sl tp : Addr} {owd oen : Obj} {gn : Int} {t3 ta tb : Tok}
    (B : Below A₀ base outer h₀) (F : Fr h₀ L s.heap m) (X : (hd.heap_1 w.params).In h₀) (P9 : Pick [(w', instObj 1041 wd), (wd, owd), (en, oen), (tp, ({ cls := .type "tuple", data := .seq #[.int 4 ta, .int (0 + 1) tb] } : Obj))] all rest) (D9 : ND all) (N9 : News h₀ L s.heap all) (T : Top vu LOOSE mean mg mb h₀) (hk : env.scope.kind = .function) (hf : env.frame = some L) (hh : A.handled = none) (hA : A.frames = some (env :: outer)) (hd9 : A.depth + 8 < recursionLimit) (hu9 : A.units + 80 < cLine)
    (q0 : WhlD sl lt en gn owd) (q3 : oen.IsDictOf (intKind PySem.Challenge.rw_xw0345_01.prog w) [(3, .ref tp)]) (q4 : (en == sysModules) = false)
    (hret : ∀  (h' : Heap) (tk' : Nat), Fr h₀ L h' m → News h₀ L h' ([(w', instObj 1041 wd), (wd, owd), (en, oen), (tp, ({ cls := .type "tuple", data := .seq #[.int 4 ta, .int (0 + 1) tb] } : Obj))] ++ rest) → ND ([(w', instObj 1041 wd), (wd, owd), (en, oen), (tp, ({ cls := .type "tuple", data := .seq #[.int 4 ta, .int (0 + 1) tb] } : Obj))] ++ rest) → Q (.int 4 ta) { s with heap := h', toks := tk' }) :
    wpAny (model PySem.Challenge.rw_xw0345_01.prog w) A (call (.ref 1019) [.ref w', .int 3 t3]) Q E s := by
  obtain ⟨hd0, dp, fr0, gd, un⟩ := A
  dsimp only at hh hA hd9 hu9
  subst hh hA
  revert X; k_fill; intro X
  have N := P9.news N9
  have D := P9.nd D9
  refine wpAny_call ?_
  walk_at "A enter"
  rename (∀ (b : Addr) (o : Obj), _ → ¬ _ → _) => kp
  k_steps
  show LeaveP _ _ _ _ _ _ _
  refine leaveP_ (by k_asm) (by k_asm) ?_
  intro F0 N0 fr0 kp0
  refine' P9.leave2 (S' := [(w', instObj 1041 wd), (wd, owd), (en, oen), (tp, ({ cls := .type "tuple", data := .seq #[.int 4 ta, .int (0 + 1) tb] } : Obj))]) D9 N9 F0 N0 fr0 kp kp0 ?lP ?lD (hret _ _ )
  case lP => walk_at "pick"
  case lD => walk_at "nd"
end
-- N6

section
variable {all rest : List (Addr × Obj)} {w : World} {mean : ExcName → Option Value} {mg mb : Str → Option Value} {A : Around} {env : Env} {outer : List Env} {A₀ : Around} {base h₀ : Heap} {L : Addr} {m : Str → Option Value} {s : Shared} {Q E : Value → Shared → Prop}
theorem flight_U {s' sd q : Addr} {osd : Obj} {iss ring mss una next gr : Int} {sy fa fs : Bool} {k : Int}
    (B : Below A₀ base outer h₀) (F : Fr h₀ L s.heap m) (X : (hd.heap_1 w.params).In h₀) (P9 : Pick [(s', instObj 974 sd), (sd, osd)] all rest) (D9 : ND all) (N9 : News h₀ L s.heap all) (T : Top vu LOOSE mean mg mb h₀) (hk : env.scope.kind = .function) (hf : env.frame = some L) (hh : A.handled = none) (hA : A.frames = some (env :: outer)) (hd9 : A.depth + 8 < recursionLimit) (hu9 : A.units + 60 < cLine)
    (q0 : SenD iss ring mss una next gr q sy fa fs osd) (r0 : 64 ≤ ring) (k0 : Int.fmod (next - una) ring = k)
    (hret : ∀ (tz : Tok) (h' : Heap) (tk' : Nat), Fr h₀ L h' m → News h₀ L h' ([(s', instObj 974 sd), (sd, osd)] ++ rest) → ND ([(s', instObj 974 sd), (sd, osd)] ++ rest) → Q (.int k tz) { s with heap := h', toks := tk' }) :
    wpAny (model PySem.Challenge.rw_xw0345_01.prog w) A (call (.ref 837) [.ref s']) Q E s := by
  obtain ⟨hd0, dp, fr0, gd, un⟩ := A
  dsimp only at hh hA hd9 hu9
  subst hh hA
  revert X; k_fill; intro X
  subst k0
  have N := P9.news N9
  have D := P9.nd D9
  refine wpAny_call ?_
  walk_at "A enter"
  rename (∀ (b : Addr) (o : Obj), _ → ¬ _ → _) => kp
  k_steps
  show LeaveP _ _ _ _ _ _ _
  refine leaveP_ (by k_asm) (by k_asm) ?_
  intro F0 N0 fr0 kp0
  refine' P9.leave2 (S' := [(s', instObj 974 sd), (sd, osd)]) D9 N9 F0 N0 fr0 kp kp0 ?lP ?lD (hret _ _ _ )
  case lP => walk_at "pick"
  case lD => walk_at "nd"
theorem ever_U {s' sd q : Addr} {osd : Obj} {iss ring mss una next gr : Int} {sy fa fs : Bool} {k : Int}
    (B : Below A₀ base outer h₀) (F : Fr h₀ L s.heap m) (X : (hd.heap_1 w.params).In h₀) (P9 : Pick [(s', instObj 974 sd), (sd, osd)] all rest) (D9 : ND all) (N9 : News h₀ L s.heap all) (T : Top vu LOOSE mean mg mb h₀) (hk : env.scope.kind = .function) (hf : env.frame = some L) (hh : A.handled = none) (hA : A.frames = some (env :: outer)) (hd9 : A.depth + 8 < recursionLimit) (hu9 : A.units + 60 < cLine)
    (q0 : SenD iss ring mss una next gr q sy fa fs osd) (r0 : 64 ≤ ring) (k0 : Int.fmod (gr - una) ring = k)
    (hret : ∀ (tz : Tok) (h' : Heap) (tk' : Nat), Fr h₀ L h' m → News h₀ L h' ([(s', instObj 974 sd), (sd, osd)] ++ rest) → ND ([(s', instObj 974 sd), (sd, osd)] ++ rest) → Q (.int k tz) { s with heap := h', toks := tk' }) :
    wpAny (model PySem.Challenge.rw_xw0345_01.prog w) A (call (.ref 922) [.ref s']) Q E s := by
  obtain ⟨hd0, dp, fr0, gd, un⟩ := A
  dsimp only at hh hA hd9 hu9
  subst hh hA
  revert X; k_fill; intro X
  subst k0
  have N := P9.news N9
  have D := P9.nd D9
  refine wpAny_call ?_
  walk_at "A enter"
  rename (∀ (b : Addr) (o : Obj), _ → ¬ _ → _) => kp
  k_steps
  show LeaveP _ _ _ _ _ _ _
  refine leaveP_ (by k_asm) (by k_asm) ?_
  intro F0 N0 fr0 kp0
  refine' P9.leave2 (S' := [(s', instObj 974 sd), (sd, osd)]) D9 N9 F0 N0 fr0 kp kp0 ?lP ?lD (hret _ _ _ )
  case lP => walk_at "pick"
  case lD => walk_at "nd"
end
-- N7
theorem words5 : True := by
  k_with "call ref" => (k_here; (with_reducible show wpAny _ _ (call (Value.ref 837) _) _ _ _); k_dflt (refine' flight_U ?k1W40 ?k2W40 ?k3W40 ?kPW40 ?kDW40 ?kNW40 ?k5W40 ?k6W40 ?kfW40 ?khW40 ?kAW40 ?kdW40 ?kuW40 ?q0W40 ?q1W40 ?q2W40 ?_; (case kAW40 => exact rfl); (case khW40 => exact rfl); (case k1W40 => k_asm); (case k2W40 => k_asm); (case k3W40 => k_asm); (case k5W40 => k_asm); (case k6W40 => first | exact rfl | assumption); (case kfW40 => first | exact rfl | assumption); (case kNW40 => k_asm); (case kPW40 => k_extra "pick"); (case kDW40 => k_extra "nd"); (case q0W40 => k_extra "hyp"); (case q1W40 => k_extra "hyp"); (case q2W40 => k_extra "hyp"); (case kdW40 => ktr_room); (case kuW40 => ktr_units)); intro tz' h' tk'  F' N' D'; (try dsimp only [List.cons_append, List.nil_append] at N' D'); (try k_sweep); (try dsimp only))
  k_with "call ref" => (k_here; (with_reducible show wpAny _ _ (call (Value.ref 922) _) _ _ _); k_dflt (refine' ever_U ?k1W41 ?k2W41 ?k3W41 ?kPW41 ?kDW41 ?kNW41 ?k5W41 ?k6W41 ?kfW41 ?khW41 ?kAW41 ?kdW41 ?kuW41 ?q0W41 ?q1W41 ?q2W41 ?_; (case kAW41 => exact rfl); (case khW41 => exact rfl); (case k1W41 => k_asm); (case k2W41 => k_asm); (case k3W41 => k_asm); (case k5W41 => k_asm); (case k6W41 => first | exact rfl | assumption); (case kfW41 => first | exact rfl | assumption); (case kNW41 => k_asm); (case kPW41 => k_extra "pick"); (case kDW41 => k_extra "nd"); (case q0W41 => k_extra "hyp"); (case q1W41 => k_extra "hyp"); (case q2W41 => k_extra "hyp"); (case kdW41 => ktr_room); (case kuW41 => ktr_units)); intro tz' h' tk'  F' N' D'; (try dsimp only [List.cons_append, List.nil_append] at N' D'); (try k_sweep); (try dsimp only))
  trivial
section
variable {all rest : List (Addr × Obj)} {w : World} {mean : ExcName → Option Value} {mg mb : Str → Option Value} {A : Around} {env : Env} {outer : List Env} {A₀ : Around} {base h₀ : Heap} {L : Addr} {m : Str → Option Value} {s : Shared} {Q E : Value → Shared → Prop}
theorem start_U {s' sd q : Addr} {osd : Obj} {iss ring mss n1 : Int} {fa fs : Bool}
    (B : Below A₀ base outer h₀) (F : Fr h₀ L s.heap m) (X : (hd.heap_1 w.params).In h₀) (P9 : Pick [(s', instObj 974 sd), (sd, osd)] all rest) (D9 : ND all) (N9 : News h₀ L s.heap all) (T : Top vu LOOSE mean mg mb h₀) (hk : env.scope.kind = .function) (hf : env.frame = some L) (hh : A.handled = none) (hA : A.frames = some (env :: outer)) (hd9 : A.depth + 10 < recursionLimit) (hu9 : A.units + 100 < cLine)
    (q0 : SenD iss ring mss iss iss iss q true fa fs osd) (r0 : 64 ≤ ring) (n0 : Int.fmod (iss + 1) ring = n1) (m0 : Int.fmod (n1 - iss) ring = 1)
    (hret : ∀ (osd' : Obj) (tz : Tok) (h' : Heap) (tk' : Nat), SenD iss ring mss iss n1 n1 q true fa fs osd' → Fr h₀ L h' m → News h₀ L h' ([(s', instObj 974 sd), (sd, osd')] ++ rest) → ND ([(s', instObj 974 sd), (sd, osd')] ++ rest) → Q (.int iss tz) { s with heap := h', toks := tk' }) :
    wpAny (model PySem.Challenge.rw_xw0345_01.prog w) A (call (.ref 893) [.ref s']) Q E s := by
  obtain ⟨hd0, dp, fr0, gd, un⟩ := A
  dsimp only at hh hA hd9 hu9
  subst hh hA
  revert X; k_fill; intro X
  subst n0
  have N := P9.news N9
  have D := P9.nd D9
  refine wpAny_call ?_
  walk_at "A enter"
  rename (∀ (b : Addr) (o : Obj), _ → ¬ _ → _) => kp
  k_steps
  all_goals (first | (exfalso; exact (by assumption : ¬ (iss = iss)) rfl) | skip)
  show LeaveP _ _ _ _ _ _ _
  refine leaveP_ (by k_asm) (by k_asm) ?_
  intro F0 N0 fr0 kp0
  refine' P9.leave2 (S' := [(s', instObj 974 sd), (sd, _)]) D9 N9 F0 N0 fr0 kp kp0 ?lP ?lD (hret _ _ _ _ ?p0)
  case lP => walk_at "pick"
  case lD => walk_at "nd"
  case p0 => walk_at "post"
theorem back_U {s' sd q : Addr} {osd : Obj} {iss ring mss n1 : Int} {fa fs : Bool} {ti : Tok}
    (B : Below A₀ base outer h₀) (F : Fr h₀ L s.heap m) (X : (hd.heap_1 w.params).In h₀) (P9 : Pick [(s', instObj 974 sd), (sd, osd)] all rest) (D9 : ND all) (N9 : News h₀ L s.heap all) (T : Top vu LOOSE mean mg mb h₀) (hk : env.scope.kind = .function) (hf : env.frame = some L) (hh : A.handled = none) (hA : A.frames = some (env :: outer)) (hd9 : A.depth + 10 < recursionLimit) (hu9 : A.units + 100 < cLine)
    (q0 : SenD iss ring mss iss n1 n1 q true fa fs osd) (r0 : 64 ≤ ring) (m0 : Int.fmod (n1 - iss) ring = 1) (z0 : Int.fmod (iss - iss) ring = 0)
    (hret : ∀ (osd' : Obj) (h' : Heap) (tk' : Nat), SenD iss ring mss iss iss n1 q true fa fs osd' → Fr h₀ L h' m → News h₀ L h' ([(s', instObj 974 sd), (sd, osd')] ++ rest) → ND ([(s', instObj 974 sd), (sd, osd')] ++ rest) → Q .none { s with heap := h', toks := tk' }) :
    wpAny (model PySem.Challenge.rw_xw0345_01.prog w) A (call (.ref 943) [.ref s', .int iss ti]) Q E s := by
  obtain ⟨hd0, dp, fr0, gd, un⟩ := A
  dsimp only at hh hA hd9 hu9
  subst hh hA
  revert X; k_fill; intro X
  have N := P9.news N9
  have D := P9.nd D9
  refine wpAny_call ?_
  walk_at "A enter"
  rename (∀ (b : Addr) (o : Obj), _ → ¬ _ → _) => kp
  k_steps
  show LeaveP _ _ _ _ _ _ _
  refine leaveP_ (by k_asm) (by k_asm) ?_
  intro F0 N0 fr0 kp0
  refine' P9.leave2 (S' := [(s', instObj 974 sd), (sd, _)]) D9 N9 F0 N0 fr0 kp kp0 ?lP ?lD (hret _ _ _ ?p0)
  case lP => walk_at "pick"
  case lD => walk_at "nd"
  case p0 => walk_at "post"
theorem reach_U {s' sd q : Addr} {osd : Obj} {iss ring mss una next gr k p : Int} {sy fa fs : Bool} {tp : Tok}
    (B : Below A₀ base outer h₀) (F : Fr h₀ L s.heap m) (X : (hd.heap_1 w.params).In h₀) (P9 : Pick [(s', instObj 974 sd), (sd, osd)] all rest) (D9 : ND all) (N9 : News h₀ L s.heap all) (T : Top vu LOOSE mean mg mb h₀) (hk : env.scope.kind = .function) (hf : env.frame = some L) (hh : A.handled = none) (hA : A.frames = some (env :: outer)) (hd9 : A.depth + 10 < recursionLimit) (hu9 : A.units + 100 < cLine)
    (q0 : SenD iss ring mss una next gr q sy fa fs osd) (r0 : 64 ≤ ring) (k0 : Int.fmod (next - una) ring = k)
    (hret : ∀ (osd' : Obj) (h' : Heap) (tk' : Nat), SenD iss ring mss una (if k < p then Int.fmod (una + p) ring else next) gr q sy fa fs osd' → Fr h₀ L h' m → News h₀ L h' ([(s', instObj 974 sd), (sd, osd')] ++ rest) → ND ([(s', instObj 974 sd), (sd, osd')] ++ rest) → Q .none { s with heap := h', toks := tk' }) :
    wpAny (model PySem.Challenge.rw_xw0345_01.prog w) A (call (.ref 936) [.ref s', .int p tp]) Q E s := by
  obtain ⟨hd0, dp, fr0, gd, un⟩ := A
  dsimp only at hh hA hd9 hu9
  subst hh hA
  revert X; k_fill; intro X
  have N := P9.news N9
  have D := P9.nd D9
  refine wpAny_call ?_
  walk_at "A enter"
  rename (∀ (b : Addr) (o : Obj), _ → ¬ _ → _) => kp
  k_steps
  all_goals (by_cases hk9 : k < p)
  all_goals (first | contradiction | (rw [if_pos hk9] at hret) | (rw [if_neg hk9] at hret))
  all_goals
    show LeaveP _ _ _ _ _ _ _
    refine leaveP_ (by k_asm) (by k_asm) ?_
    intro F0 N0 fr0 kp0
    refine' P9.leave2 (S' := [(_, instObj 974 _), (_, _)]) D9 N9 F0 N0 fr0 kp kp0 ?lP ?lD (hret _ _ _ ?p0)
    case lP => walk_at "pick"
    case lD => walk_at "nd"
    case p0 => walk_at "post"
end
-- N8

section
variable {all rest : List (Addr × Obj)} {w : World} {mean : ExcName → Option Value} {mg mb : Str → Option Value} {A : Around} {env : Env} {outer : List Env} {A₀ : Around} {base h₀ : Heap} {L : Addr} {m : Str → Option Value} {s : Shared} {Q E : Value → Shared → Prop}
theorem bInts_inj {a b : Array UInt8} (h : KBw.bInts a = KBw.bInts b) : a = b := by
  unfold KBw.bInts at h
  have := List.map_inj_right (f := fun c : UInt8 => (c.toNat : Int)) (fun x y e => UInt8.toNat_inj.mp (Int.ofNat.inj e)) |>.mp h
  exact Array.toList_inj.mp this
theorem put_eq {ys xs : Array UInt8} {ks : List Int} (h : KBw.bInts ys = List.map (fun c : UInt8 => (c.toNat : Int)) [] ++ List.take (clipAt ks.length (if 40 - ((#[] : Array UInt8).size : Int) < (ks.length : Int) then 40 - ((#[] : Array UInt8).size : Int) else (ks.length : Int))) ks)
    (hx : KBw.bInts xs = ks) (hl : ks.length ≤ 40) : ys = xs := by
  refine bInts_inj (h.trans ?_)
  have c := clipAt_cast ks.length (if 40 - ((#[] : Array UInt8).size : Int) < (ks.length : Int) then 40 - ((#[] : Array UInt8).size : Int) else (ks.length : Int))
  have z : ((#[] : Array UInt8).size : Int) = 0 := rfl
  rw [z] at c ⊢
  have : clipAt ks.length (if 40 - (0:Int) < (ks.length : Int) then 40 - (0:Int) else (ks.length : Int)) = ks.length := by
    have e : (if 40 - (0:Int) < (ks.length : Int) then 40 - (0:Int) else (ks.length : Int)) = ks.length := by split <;> omega
    rw [e] at c ⊢
    have : (if (ks.length : Int) < 0 then (ks.length : Int) + ks.length else (ks.length : Int)) = ks.length := by split <;> omega
    rw [this] at c
    omega
  rw [this, List.take_length, hx]; rfl
theorem part_eq {ys : Array UInt8} {ks : List Int} {sz : Int} (h : KBw.bInts ys = List.take (clipAt ks.length (0 + sz) - clipAt ks.length 0) (List.drop (clipAt ks.length 0) ks)) (h0 : 0 ≤ sz) (h1 : sz ≤ ks.length) : KBw.bInts ys = ks.take sz.toNat := by
  have c0 : clipAt ks.length 0 = 0 := by
    have := clipAt_cast ks.length 0
    have e : (if (0:Int) < 0 then 0 + (ks.length : Int) else 0) = 0 := by split <;> omega
    rw [e] at this; omega
  have c := clipAt_cast ks.length (0 + sz)
  rw [Int.zero_add] at c
  have : (if sz < 0 then sz + (ks.length : Int) else sz) = sz := by split <;> omega
  rw [this] at c
  rw [h, c0, Int.zero_add]
  have : clipAt ks.length sz - 0 = sz.toNat := by omega
  rw [this]; rfl
theorem qput_U {q qd : Addr} {oqd : Obj} {xs : Array UInt8} {ks : List Int} {tb : Tok}
    (B : Below A₀ base outer h₀) (F : Fr h₀ L s.heap m) (X : (hd.heap_1 w.params).In h₀) (P9 : Pick [(q, instObj 741 qd), (qd, oqd)] all rest) (D9 : ND all) (N9 : News h₀ L s.heap all) (T : Top vu LOOSE mean mg mb h₀) (hk : env.scope.kind = .function) (hf : env.frame = some L) (hh : A.handled = none) (hA : A.frames = some (env :: outer)) (hd9 : A.depth + 10 < recursionLimit) (hu9 : A.units + 100 < cLine)
    (q0 : QueD #[] oqd) (hx : KBw.bInts xs = ks) (hx4 : ks.length ≤ 40)
    (hret : ∀ (oqd' : Obj) (rv : Value) (h' : Heap) (tk' : Nat), QueD xs oqd' → Fr h₀ L h' m → News h₀ L h' ([(q, instObj 741 qd), (qd, oqd')] ++ rest) → ND ([(q, instObj 741 qd), (qd, oqd')] ++ rest) → Q rv { s with heap := h', toks := tk' }) :
    wpAny (model PySem.Challenge.rw_xw0345_01.prog w) A (call (.ref 724) [.ref q, .bytes xs tb]) Q E s := by
  obtain ⟨hd0, dp, fr0, gd, un⟩ := A
  dsimp only at hh hA hd9 hu9
  subst hh hA
  revert X; k_fill; intro X
  have N := P9.news N9
  have D := P9.nd D9
  refine wpAny_call ?_
  walk_at "A enter"
  rename (∀ (b : Addr) (o : Obj), _ → ¬ _ → _) => kp
  k_steps
  rename QueD _ _ => sq9
  have e9 := put_eq (by assumption) hx hx4
  rw [e9] at sq9
  show LeaveP _ _ _ _ _ _ _
  refine leaveP_ (by k_asm) (by k_asm) ?_
  intro F0 N0 fr0 kp0
  refine' P9.leave2 (S' := [(q, instObj 741 qd), (qd, _)]) D9 N9 F0 N0 fr0 kp kp0 ?lP ?lD (hret _ _ _ _ ?p0)
  case lP => walk_at "pick"
  case lD => walk_at "nd"
  case p0 => walk_at "post"
theorem part_U {q qd : Addr} {oqd : Obj} {xs : Array UInt8} {ks : List Int} {sz : Int} {t0 t1 : Tok}
    (B : Below A₀ base outer h₀) (F : Fr h₀ L s.heap m) (X : (hd.heap_1 w.params).In h₀) (P9 : Pick [(q, instObj 741 qd), (qd, oqd)] all rest) (D9 : ND all) (N9 : News h₀ L s.heap all) (T : Top vu LOOSE mean mg mb h₀) (hk : env.scope.kind = .function) (hf : env.frame = some L) (hh : A.handled = none) (hA : A.frames = some (env :: outer)) (hd9 : A.depth + 10 < recursionLimit) (hu9 : A.units + 100 < cLine)
    (q0 : QueD xs oqd) (hx : KBw.bInts xs = ks) (hx4 : ks.length ≤ 40) (z0 : 0 ≤ sz) (z1 : sz ≤ ks.length)
    (hret : ∀ (ys : Array UInt8) (ty : Tok) (h' : Heap) (tk' : Nat), KBw.bInts ys = ks.take sz.toNat → Fr h₀ L h' m → News h₀ L h' ([(q, instObj 741 qd), (qd, oqd)] ++ rest) → ND ([(q, instObj 741 qd), (qd, oqd)] ++ rest) → Q (.bytes ys ty) { s with heap := h', toks := tk' }) :
    wpAny (model PySem.Challenge.rw_xw0345_01.prog w) A (call (.ref 731) [.ref q, .int 0 t0, .int sz t1]) Q E s := by
  obtain ⟨hd0, dp, fr0, gd, un⟩ := A
  dsimp only at hh hA hd9 hu9
  subst hh hA
  revert X; k_fill; intro X
  have N := P9.news N9
  have D := P9.nd D9
  refine wpAny_call ?_
  walk_at "A enter"
  rename (∀ (b : Addr) (o : Obj), _ → ¬ _ → _) => kp
  k_steps
  have e9 := part_eq (by assumption) z0 z1
  show LeaveP _ _ _ _ _ _ _
  refine leaveP_ (by k_asm) (by k_asm) ?_
  intro F0 N0 fr0 kp0
  refine' P9.leave2 (S' := [(q, instObj 741 qd), (qd, oqd)]) D9 N9 F0 N0 fr0 kp kp0 ?lP ?lD (hret _ _ _ _ ?p0)
  case lP => walk_at "pick"
  case lD => walk_at "nd"
  case p0 => walk_at "post"
end
-- N8c
theorem words6 : True := by
  k_with "call ref" => (k_here; (with_reducible show wpAny _ _ (call (Value.ref 893) _) _ _ _); k_dflt (refine' start_U ?k1W42 ?k2W42 ?k3W42 ?kPW42 ?kDW42 ?kNW42 ?k5W42 ?k6W42 ?kfW42 ?khW42 ?kAW42 ?kdW42 ?kuW42 ?q0W42 ?q1W42 ?q2W42 ?q3W42 ?_; (case kAW42 => exact rfl); (case khW42 => exact rfl); (case k1W42 => k_asm); (case k2W42 => k_asm); (case k3W42 => k_asm); (case k5W42 => k_asm); (case k6W42 => first | exact rfl | assumption); (case kfW42 => first | exact rfl | assumption); (case kNW42 => k_asm); (case kPW42 => k_extra "pick"); (case kDW42 => k_extra "nd"); (case q0W42 => k_extra "hyp"); (case q1W42 => k_extra "hyp"); (case q2W42 => k_extra "hyp"); (case q3W42 => k_extra "hyp"); (case kdW42 => ktr_room); (case kuW42 => ktr_units)); intro osd' tz' h' tk' o0' F' N' D'; (try dsimp only [List.cons_append, List.nil_append] at N' D'); (try k_sweep); (try dsimp only))
  k_with "call ref" => (k_here; (with_reducible show wpAny _ _ (call (Value.ref 943) _) _ _ _); k_dflt (refine' back_U ?k1W43 ?k2W43 ?k3W43 ?kPW43 ?kDW43 ?kNW43 ?k5W43 ?k6W43 ?kfW43 ?khW43 ?kAW43 ?kdW43 ?kuW43 ?q0W43 ?q1W43 ?q2W43 ?q3W43 ?_; (case kAW43 => exact rfl); (case khW43 => exact rfl); (case k1W43 => k_asm); (case k2W43 => k_asm); (case k3W43 => k_asm); (case k5W43 => k_asm); (case k6W43 => first | exact rfl | assumption); (case kfW43 => first | exact rfl | assumption); (case kNW43 => k_asm); (case kPW43 => k_extra "pick"); (case kDW43 => k_extra "nd"); (case q0W43 => k_extra "hyp"); (case q1W43 => k_extra "hyp"); (case q2W43 => k_extra "hyp"); (case q3W43 => k_extra "hyp"); (case kdW43 => ktr_room); (case kuW43 => ktr_units)); intro osd' h' tk' o0' F' N' D'; (try dsimp only [List.cons_append, List.nil_append] at N' D'); (try k_sweep); (try dsimp only))
  k_with "call ref" => (k_here; (with_reducible show wpAny _ _ (call (Value.ref 936) _) _ _ _); k_dflt (refine' reach_U ?k1W44 ?k2W44 ?k3W44 ?kPW44 ?kDW44 ?kNW44 ?k5W44 ?k6W44 ?kfW44 ?khW44 ?kAW44 ?kdW44 ?kuW44 ?q0W44 ?q1W44 ?q2W44 ?_; (case kAW44 => exact rfl); (case khW44 => exact rfl); (case k1W44 => k_asm); (case k2W44 => k_asm); (case k3W44 => k_asm); (case k5W44 => k_asm); (case k6W44 => first | exact rfl | assumption); (case kfW44 => first | exact rfl | assumption); (case kNW44 => k_asm); (case kPW44 => k_extra "pick"); (case kDW44 => k_extra "nd"); (case q0W44 => k_extra "hyp"); (case q1W44 => k_extra "hyp"); (case q2W44 => k_extra "hyp"); (case kdW44 => ktr_room); (case kuW44 => ktr_units)); intro osd' h' tk' o0' F' N' D'; (try dsimp only [List.cons_append, List.nil_append] at N' D'); (try k_sweep); (try dsimp only))
  k_with "call ref" => (k_here; (with_reducible show wpAny _ _ (call (Value.ref 724) _) _ _ _); k_dflt (refine' qput_U ?k1W45 ?k2W45 ?k3W45 ?kPW45 ?kDW45 ?kNW45 ?k5W45 ?k6W45 ?kfW45 ?khW45 ?kAW45 ?kdW45 ?kuW45 ?q0W45 ?q1W45 ?q2W45 ?_; (case kAW45 => exact rfl); (case khW45 => exact rfl); (case k1W45 => k_asm); (case k2W45 => k_asm); (case k3W45 => k_asm); (case k5W45 => k_asm); (case k6W45 => first | exact rfl | assumption); (case kfW45 => first | exact rfl | assumption); (case kNW45 => k_asm); (case kPW45 => k_extra "pick"); (case kDW45 => k_extra "nd"); (case q0W45 => k_extra "hyp"); (case q1W45 => k_extra "hyp"); (case q2W45 => k_extra "hyp"); (case kdW45 => ktr_room); (case kuW45 => ktr_units)); intro oqd' rv' h' tk' o0' F' N' D'; (try dsimp only [List.cons_append, List.nil_append] at N' D'); (try k_sweep); (try dsimp only))
  k_with "call ref" => (k_here; (with_reducible show wpAny _ _ (call (Value.ref 731) _) _ _ _); k_dflt (refine' part_U ?k1W46 ?k2W46 ?k3W46 ?kPW46 ?kDW46 ?kNW46 ?k5W46 ?k6W46 ?kfW46 ?khW46 ?kAW46 ?kdW46 ?kuW46 ?q0W46 ?q1W46 ?q2W46 ?q3W46 ?q4W46 ?_; (case kAW46 => exact rfl); (case khW46 => exact rfl); (case k1W46 => k_asm); (case k2W46 => k_asm); (case k3W46 => k_asm); (case k5W46 => k_asm); (case k6W46 => first | exact rfl | assumption); (case kfW46 => first | exact rfl | assumption); (case kNW46 => k_asm); (case kPW46 => k_extra "pick"); (case kDW46 => k_extra "nd"); (case q0W46 => k_extra "hyp"); (case q1W46 => k_extra "hyp"); (case q2W46 => k_extra "hyp"); (case q3W46 => k_extra "hyp"); (case q4W46 => k_extra "hyp"); (case kdW46 => ktr_room); (case kuW46 => ktr_units)); intro ys' ty' h' tk' o0' F' N' D'; (try dsimp only [List.cons_append, List.nil_append] at N' D'); (try k_sweep); (try dsimp only))
  trivial
section
variable {all rest : List (Addr × Obj)} {w : World} {mean : ExcName → Option Value} {mg mb : Str → Option Value} {A : Around} {env : Env} {outer : List Env} {A₀ : Around} {base h₀ : Heap} {L : Addr} {m : Str → Option Value} {s : Shared} {Q E : Value → Shared → Prop}
theorem put_S {s' sd : Addr} {osd : Obj} {iss ring mss una next gr : Int} {sy fs : Bool} {q qd : Addr} {oqd : Obj} {xs : Array UInt8} {ks : List Int} {tb : Tok}
    (B : Below A₀ base outer h₀) (F : Fr h₀ L s.heap m) (X : (hd.heap_1 w.params).In h₀) (P9 : Pick [(s', instObj 974 sd), (sd, osd), (q, instObj 741 qd), (qd, oqd)] all rest) (D9 : ND all) (N9 : News h₀ L s.heap all) (T : Top vu LOOSE mean mg mb h₀) (hk : env.scope.kind = .function) (hf : env.frame = some L) (hh : A.handled = none) (hA : A.frames = some (env :: outer)) (hd9 : A.depth + 14 < recursionLimit) (hu9 : A.units + 160 < cLine)
    (q0 : SenD iss ring mss una next gr q sy false fs osd) (q1 : QueD #[] oqd) (hx : KBw.bInts xs = ks) (hx4 : ks.length ≤ 40)
    (hret : ∀ (oqd' : Obj) (rv : Value) (h' : Heap) (tk' : Nat), QueD xs oqd' → Fr h₀ L h' m → News h₀ L h' ([(s', instObj 974 sd), (sd, osd), (q, instObj 741 qd), (qd, oqd')] ++ rest) → ND ([(s', instObj 974 sd), (sd, osd), (q, instObj 741 qd), (qd, oqd')] ++ rest) → Q rv { s with heap := h', toks := tk' }) :
    wpAny (model PySem.Challenge.rw_xw0345_01.prog w) A (call (.ref 823) [.ref s', .bytes xs tb]) Q E s := by
  obtain ⟨hd0, dp, fr0, gd, un⟩ := A
  dsimp only at hh hA hd9 hu9
  subst hh hA
  revert X; k_fill; intro X
  have N := P9.news N9
  have D := P9.nd D9
  refine wpAny_call ?_
  walk_at "A enter"
  rename (∀ (b : Addr) (o : Obj), _ → ¬ _ → _) => kp
  k_steps
  show LeaveP _ _ _ _ _ _ _
  refine leaveP_ (by k_asm) (by k_asm) ?_
  intro F0 N0 fr0 kp0
  refine' P9.leave2 (S' := [(s', instObj 974 sd), (sd, osd), (q, instObj 741 qd), (qd, _)]) D9 N9 F0 N0 fr0 kp kp0 ?lP ?lD (hret _ _ _ _ ?p0)
  case lP => walk_at "pick"
  case lD => walk_at "nd"
  case p0 => walk_at "post"
end
-- N9

section
variable {all rest : List (Addr × Obj)} {w : World} {mean : ExcName → Option Value} {mg mb : Str → Option Value} {A : Around} {env : Env} {outer : List Env} {A₀ : Around} {base h₀ : Heap} {L : Addr} {m : Str → Option Value} {s : Shared} {Q E : Value → Shared → Prop}
theorem piece_S {s' sd q : Addr} {osd : Obj} {iss ring mss next gr k fo : Int} {fa fs : Bool}
    (B : Below A₀ base outer h₀) (F : Fr h₀ L s.heap m) (X : (hd.heap_1 w.params).In h₀) (P9 : Pick [(s', instObj 974 sd), (sd, osd)] all rest) (D9 : ND all) (N9 : News h₀ L s.heap all) (T : Top vu LOOSE mean mg mb h₀) (hk : env.scope.kind = .function) (hf : env.frame = some L) (hh : A.handled = none) (hA : A.frames = some (env :: outer)) (hd9 : A.depth + 14 < recursionLimit) (hu9 : A.units + 160 < cLine)
    (q0 : SenD iss ring mss iss next gr q true fa fs osd) (r0 : 64 ≤ ring) (e0 : Int.fmod (gr - iss) ring = 1) (k0 : Int.fmod (next - iss) ring = k) (f0 : (if k < 1 then Int.fmod (iss + 1) ring else next) = fo)
    (hret : ∀ (osd' : Obj) (tp : Addr) (ta tb : Tok) (h' : Heap) (tk' : Nat), SenD iss ring mss iss fo gr q true fa fs osd' → Fr h₀ L h' m → News h₀ L h' ([(s', instObj 974 sd), (sd, osd'), (tp, ({ cls := .type "tuple", data := .seq #[.int iss ta, .bytes #[] tb, .bool true, .bool false] } : Obj))] ++ rest) → ND ([(s', instObj 974 sd), (sd, osd'), (tp, ({ cls := .type "tuple", data := .seq #[.int iss ta, .bytes #[] tb, .bool true, .bool false] } : Obj))] ++ rest) → Q (.ref tp) { s with heap := h', toks := tk' }) :
    wpAny (model PySem.Challenge.rw_xw0345_01.prog w) A (call (.ref 929) [.ref s']) Q E s := by
  obtain ⟨hd0, dp, fr0, gd, un⟩ := A
  dsimp only at hh hA hd9 hu9
  subst hh hA
  revert X; k_fill; intro X
  subst f0
  have N := P9.news N9
  have D := P9.nd D9
  refine wpAny_call ?_
  walk_at "A enter"
  rename (∀ (b : Addr) (o : Obj), _ → ¬ _ → _) => kp
  k_steps
  show LeaveP _ _ _ _ _ _ _
  refine leaveP_ (by k_asm) (by k_asm) ?_
  intro F0 N0 fr0 kp0
  refine' P9.leave2 (S' := [(s', instObj 974 sd), (sd, _), (_, ({ cls := .type "tuple", data := .seq #[.int iss _, .bytes #[] _, .bool true, .bool false] } : Obj))]) D9 N9 F0 N0 fr0 kp kp0 ?lP ?lD (hret _ _ _ _ _ _ ?p0)
  case lP => walk_at "pick"
  case lD => walk_at "nd"
  case p0 => walk_at "post"
end
-- N10

section
variable {all rest : List (Addr × Obj)} {w : World} {mean : ExcName → Option Value} {mg mb : Str → Option Value} {A : Around} {env : Env} {outer : List Env} {A₀ : Around} {base h₀ : Heap} {L : Addr} {m : Str → Option Value} {s : Shared} {Q E : Value → Shared → Prop}
theorem hn1 {fs hn : Bool} {a b : Prop} [Decidable a] [Decidable b] (b0 : hn = (fs && decide a && decide b)) (h1 : fs = true) (h2 : a) : hn = decide b := by rw [b0, h1, decide_eq_true h2]; rfl
theorem hn2 {fs hn : Bool} {sz n : Int} {b : Prop} [Decidable b] (b0 : hn = (fs && decide (sz = n) && decide b)) (h1 : fs = true) (h2 : sz ≠ n) : hn = (sz == n) := by rw [b0, h1, decide_eq_false h2]; exact (beq_eq_false_iff_ne.mpr h2).symm
theorem hn3 {fs hn : Bool} {a b : Prop} [Decidable a] [Decidable b] (b0 : hn = (fs && decide a && decide b)) (h1 : fs = false) : hn = fs := by rw [b0, h1]; rfl
theorem min_three_K {prog : Program} {w : World} {A : Around} {E : Value → Shared → Prop} {s : Shared} {h₀ : Heap} {L : Addr} {m : Str → Option Value} {news : List (Addr × Obj)} {a b c z : Int} {t u x : Tok} {Q : Value → Shared → Prop} (hh : A.handled = none) (F : Fr h₀ L s.heap m) (N : News h₀ L s.heap news)
    (h4 : z = a ∨ z = b ∨ z = c) (h1 : z ≤ a) (h2 : z ≤ b) (h3 : z ≤ c) (h : ∀ h' tk t', Fr h₀ L h' m → News h₀ L h' news → Q (.int z t') { s with heap := h', toks := tk }) :
    wpAny (model prog w) A (call (.builtin "min") [.int a t, .int b u, .int c x]) Q E s :=
  min_three_ints hh fun h' tk hk => by
    have key := fun t' => h h' tk t' (F.grownK hk) (N.grown hk)
    have : ∃ t', (if b < a then (if c < b then Value.int c x else .int b u) else (if c < a then .int c x else .int a t)) = .int z t' := by
      split <;> split
      · exact ⟨x, by congr; omega⟩
      · exact ⟨u, by congr; omega⟩
      · exact ⟨x, by congr; omega⟩
      · exact ⟨t, by congr; omega⟩
    obtain ⟨t', e⟩ := this
    rw [e]; exact key t'
end
theorem words7 : True := by
  k_with "call builtin:min" => (k_here; (with_reducible show wpAny _ _ (call (Value.builtin _) [Value.int _ _, Value.int _ _, Value.int _ _]) _ _ _); (with_unfolding_all refine' min_three_K ?hhW47 ?FW47 ?NW47 ?h4W47 ?h1W47 ?h2W47 ?h3W47 ?_; (case hhW47 => with_unfolding_all rfl); (case FW47 => k_asm); (case NW47 => k_asm); (case h4W47 => assumption); (case h1W47 => assumption); (case h2W47 => assumption); (case h3W47 => assumption)); intro h' tk' t' F' N'; (try k_sweep))
  trivial
section
variable {all rest : List (Addr × Obj)} {w : World} {mean : ExcName → Option Value} {mg mb : Str → Option Value} {A : Around} {env : Env} {outer : List Env} {A₀ : Around} {base h₀ : Heap} {L : Addr} {m : Str → Option Value} {s : Shared} {Q E : Value → Shared → Prop}
theorem piece_O {s' sd q qd : Addr} {osd oqd : Obj} {iss ring mss una next gr k p fo whole sz : Int} {xs : Array UInt8} {ks : List Int} {fa fs hn : Bool}
    (B : Below A₀ base outer h₀) (F : Fr h₀ L s.heap m) (X : (hd.heap_1 w.params).In h₀) (P9 : Pick [(s', instObj 974 sd), (sd, osd), (q, instObj 741 qd), (qd, oqd)] all rest) (D9 : ND all) (N9 : News h₀ L s.heap all) (T : Top vu LOOSE mean mg mb h₀) (hk : env.scope.kind = .function) (hf : env.frame = some L) (hh : A.handled = none) (hA : A.frames = some (env :: outer)) (hd9 : A.depth + 14 < recursionLimit) (hu9 : A.units + 160 < cLine)
    (q0 : SenD iss ring mss una next gr q false fa fs osd) (q1 : QueD xs oqd) (hx : KBw.bInts xs = ks) (hx4 : ks.length ≤ 40) (r0 : 64 ≤ ring) (e0 : Int.fmod (gr - una) ring = whole) (w1 : 1 ≤ whole) (m1 : 1 ≤ mss) (s0 : 0 ≤ sz) (s1 : sz ≤ mss) (s2 : sz ≤ ks.length) (s3 : sz ≤ whole) (s4 : sz = mss ∨ sz = ks.length ∨ sz = whole) (b0 : hn = (fs && decide (sz = ks.length) && decide (sz < whole))) (p0 : p = sz + if hn then 1 else 0) (k0 : Int.fmod (next - una) ring = k) (f0 : (if k < p then Int.fmod (una + p) ring else next) = fo)
    (hret : ∀ (osd' : Obj) (tp : Addr) (ys : Array UInt8) (ta tb : Tok) (h' : Heap) (tk' : Nat), SenD iss ring mss una fo gr q false fa fs osd' → KBw.bInts ys = ks.take sz.toNat → Fr h₀ L h' m → News h₀ L h' ([(s', instObj 974 sd), (sd, osd'), (q, instObj 741 qd), (qd, oqd), (tp, ({ cls := .type "tuple", data := .seq #[.int una ta, .bytes ys tb, .bool false, .bool hn] } : Obj))] ++ rest) → ND ([(s', instObj 974 sd), (sd, osd'), (q, instObj 741 qd), (qd, oqd), (tp, ({ cls := .type "tuple", data := .seq #[.int una ta, .bytes ys tb, .bool false, .bool hn] } : Obj))] ++ rest) → Q (.ref tp) { s with heap := h', toks := tk' }) :
    wpAny (model PySem.Challenge.rw_xw0345_01.prog w) A (call (.ref 929) [.ref s']) Q E s := by
  obtain ⟨hd0, dp, fr0, gd, un⟩ := A
  dsimp only at hh hA hd9 hu9
  subst hh hA
  revert X; k_fill; intro X
  subst f0
  subst p0
  have N := P9.news N9
  have D := P9.nd D9
  refine wpAny_call ?_
  walk_at "A enter"
  rename (∀ (b : Addr) (o : Obj), _ → ¬ _ → _) => kp
  k_steps
  all_goals try (exfalso; omega)
  all_goals (first | (have e9 := hn1 b0 (by assumption) (by assumption); subst e9) | (have e9 := hn2 b0 (by assumption) (by assumption); subst e9) | (have e9 := hn3 b0 (by assumption); subst e9))
  all_goals
    show LeaveP _ _ _ _ _ _ _
    refine leaveP_ (by k_asm) (by k_asm) ?_
    intro F0 N0 fr0 kp0
    refine' P9.leave2 (S' := [(s', instObj 974 sd), (sd, _), (q, instObj 741 qd), (qd, oqd), (_, ({ cls := .type "tuple", data := .seq #[.int una _, .bytes _ _, .bool false, .bool _] } : Obj))]) D9 N9 F0 N0 fr0 kp kp0 ?lP ?lD (hret _ _ _ _ _ _ _ ?p0 ?p1)
    case lP => walk_at "pick"
    case lD => walk_at "nd"
    case p0 => walk_at "post"
    case p1 => walk_at "post"
end
-- N11
theorem words8 : True := by
  k_with "call builtin:len" => (k_here; (with_reducible show wpAny _ _ (call (Value.builtin "len") [Value.ref _]) _ _ _); k_dflt (refine' call_len_ba ?k1W48 ?k2W48 ?_; (case k1W48 => k_asm); (case k2W48 => k_mem)))
  trivial
section
variable {all rest : List (Addr × Obj)} {w : World} {mean : ExcName → Option Value} {mg mb : Str → Option Value} {A : Around} {env : Env} {outer : List Env} {A₀ : Around} {base h₀ : Heap} {L : Addr} {m : Str → Option Value} {s : Shared} {Q E : Value → Shared → Prop}
theorem fm_of {x r z : Int} (h0 : 0 ≤ z) (h1 : z < r) (k : Int) (h : x = z + r * k) : Int.fmod x r = z := by
  rw [h, Int.fmod_eq_emod_of_nonneg _ (by omega), Int.add_mul_emod_self_left, Int.emod_eq_of_lt h0 h1]
def Bef (a b ring : Int) : Bool := if 0 < Int.fmod (b - a) ring then decide (2 * Int.fmod (b - a) ring < ring) else decide (0 < Int.fmod (b - a) ring)
theorem bef_pos {a b ring : Int} (h : 0 < Int.fmod (b - a) ring) : Bef a b ring = decide (2 * Int.fmod (b - a) ring < ring) := if_pos h
theorem bef_neg {a b ring : Int} (h : ¬ 0 < Int.fmod (b - a) ring) : Bef a b ring = decide (0 < Int.fmod (b - a) ring) := if_neg h
theorem bef_false {a b ring : Int} (z : Int) (h : Int.fmod (b - a) ring = z) (h2 : z ≤ 0 ∨ ring ≤ 2 * z) : Bef a b ring = false := by
  unfold Bef; rw [h]; split <;> exact decide_eq_false (by omega)
theorem dist_U {ring a b k : Int} {ta tb tr : Tok}
    (B : Below A₀ base outer h₀) (F : Fr h₀ L s.heap m) (X : (hd.heap_1 w.params).In h₀) (P9 : Pick [] all rest) (D9 : ND all) (N9 : News h₀ L s.heap all) (T : Top vu LOOSE mean mg mb h₀) (hk : env.scope.kind = .function) (hf : env.frame = some L) (hh : A.handled = none) (hA : A.frames = some (env :: outer)) (hd9 : A.depth + 4 < recursionLimit) (hu9 : A.units + 30 < cLine)
    (r0 : 64 ≤ ring) (k0 : Int.fmod (b - a) ring = k)
    (hret : ∀ (tz : Tok) (h' : Heap) (tk' : Nat), Fr h₀ L h' m → News h₀ L h' ([] ++ rest) → ND ([] ++ rest) → Q (.int k tz) { s with heap := h', toks := tk' }) :
    wpAny (model PySem.Challenge.rw_xw0345_01.prog w) A (call (.ref 157) [.int a ta, .int b tb, .int ring tr]) Q E s := by
  obtain ⟨hd0, dp, fr0, gd, un⟩ := A
  dsimp only at hh hA hd9 hu9
  subst hh hA
  revert X; k_fill; intro X
  subst k0
  have N := P9.news N9
  have D := P9.nd D9
  refine wpAny_call ?_
  walk_at "A enter"
  rename (∀ (b : Addr) (o : Obj), _ → ¬ _ → _) => kp
  k_steps
  show LeaveP _ _ _ _ _ _ _
  refine leaveP_ (by k_asm) (by k_asm) ?_
  intro F0 N0 fr0 kp0
  refine' P9.leave2 (S' := []) D9 N9 F0 N0 fr0 kp kp0 ?lP ?lD (hret _ _ _ )
  case lP => walk_at "pick"
  case lD => walk_at "nd"
theorem plus_U {ring a b k : Int} {ta tb tr : Tok}
    (B : Below A₀ base outer h₀) (F : Fr h₀ L s.heap m) (X : (hd.heap_1 w.params).In h₀) (P9 : Pick [] all rest) (D9 : ND all) (N9 : News h₀ L s.heap all) (T : Top vu LOOSE mean mg mb h₀) (hk : env.scope.kind = .function) (hf : env.frame = some L) (hh : A.handled = none) (hA : A.frames = some (env :: outer)) (hd9 : A.depth + 4 < recursionLimit) (hu9 : A.units + 30 < cLine)
    (r0 : 64 ≤ ring) (k0 : Int.fmod (a + b) ring = k)
    (hret : ∀ (tz : Tok) (h' : Heap) (tk' : Nat), Fr h₀ L h' m → News h₀ L h' ([] ++ rest) → ND ([] ++ rest) → Q (.int k tz) { s with heap := h', toks := tk' }) :
    wpAny (model PySem.Challenge.rw_xw0345_01.prog w) A (call (.ref 150) [.int a ta, .int b tb, .int ring tr]) Q E s := by
  obtain ⟨hd0, dp, fr0, gd, un⟩ := A
  dsimp only at hh hA hd9 hu9
  subst hh hA
  revert X; k_fill; intro X
  subst k0
  have N := P9.news N9
  have D := P9.nd D9
  refine wpAny_call ?_
  walk_at "A enter"
  rename (∀ (b : Addr) (o : Obj), _ → ¬ _ → _) => kp
  k_steps
  show LeaveP _ _ _ _ _ _ _
  refine leaveP_ (by k_asm) (by k_asm) ?_
  intro F0 N0 fr0 kp0
  refine' P9.leave2 (S' := []) D9 N9 F0 N0 fr0 kp kp0 ?lP ?lD (hret _ _ _ )
  case lP => walk_at "pick"
  case lD => walk_at "nd"
theorem bef_U {ring a b : Int} {ta tb tr : Tok} {v : Bool}
    (B : Below A₀ base outer h₀) (F : Fr h₀ L s.heap m) (X : (hd.heap_1 w.params).In h₀) (P9 : Pick [] all rest) (D9 : ND all) (N9 : News h₀ L s.heap all) (T : Top vu LOOSE mean mg mb h₀) (hk : env.scope.kind = .function) (hf : env.frame = some L) (hh : A.handled = none) (hA : A.frames = some (env :: outer)) (hd9 : A.depth + 8 < recursionLimit) (hu9 : A.units + 60 < cLine)
    (r0 : 64 ≤ ring) (k0 : Bef a b ring = v)
    (hret : ∀  (h' : Heap) (tk' : Nat), Fr h₀ L h' m → News h₀ L h' ([] ++ rest) → ND ([] ++ rest) → Q (.bool v) { s with heap := h', toks := tk' }) :
    wpAny (model PySem.Challenge.rw_xw0345_01.prog w) A (call (.ref 164) [.int a ta, .int b tb, .int ring tr]) Q E s := by
  obtain ⟨hd0, dp, fr0, gd, un⟩ := A
  dsimp only at hh hA hd9 hu9
  subst hh hA
  revert X; k_fill; intro X
  subst k0
  have N := P9.news N9
  have D := P9.nd D9
  refine wpAny_call ?_
  walk_at "A enter"
  rename (∀ (b : Addr) (o : Obj), _ → ¬ _ → _) => kp
  k_steps
  all_goals (first | (have e9 := bef_pos (a := a) (b := b) (ring := ring) (by assumption); rw [e9] at hret) | (have e9 := bef_neg (a := a) (b := b) (ring := ring) (by assumption); rw [e9] at hret))
  all_goals
    show LeaveP _ _ _ _ _ _ _
    refine leaveP_ (by k_asm) (by k_asm) ?_
    intro F0 N0 fr0 kp0
    refine' P9.leave2 (S' := []) D9 N9 F0 N0 fr0 kp kp0 ?lP ?lD (hret _ _ )
    case lP => walk_at "pick"
    case lD => walk_at "nd"
end
-- N12
theorem words9 : True := by
  k_with "call ref" => (k_here; (with_reducible show wpAny _ _ (call (Value.ref 157) _) _ _ _); k_dflt (refine' dist_U ?k1W49 ?k2W49 ?k3W49 ?kPW49 ?kDW49 ?kNW49 ?k5W49 ?k6W49 ?kfW49 ?khW49 ?kAW49 ?kdW49 ?kuW49 ?q0W49 ?q1W49 ?_; (case kAW49 => exact rfl); (case khW49 => exact rfl); (case k1W49 => k_asm); (case k2W49 => k_asm); (case k3W49 => k_asm); (case k5W49 => k_asm); (case k6W49 => first | exact rfl | assumption); (case kfW49 => first | exact rfl | assumption); (case kNW49 => k_asm); (case kPW49 => k_extra "pick"); (case kDW49 => k_extra "nd"); (case q0W49 => k_extra "hyp"); (case q1W49 => k_extra "hyp"); (case kdW49 => ktr_room); (case kuW49 => ktr_units)); intro tz' h' tk'  F' N' D'; (try dsimp only [List.cons_append, List.nil_append] at N' D'); (try k_sweep); (try dsimp only))
  k_with "call ref" => (k_here; (with_reducible show wpAny _ _ (call (Value.ref 150) _) _ _ _); k_dflt (refine' plus_U ?k1W50 ?k2W50 ?k3W50 ?kPW50 ?kDW50 ?kNW50 ?k5W50 ?k6W50 ?kfW50 ?khW50 ?kAW50 ?kdW50 ?kuW50 ?q0W50 ?q1W50 ?_; (case kAW50 => exact rfl); (case khW50 => exact rfl); (case k1W50 => k_asm); (case k2W50 => k_asm); (case k3W50 => k_asm); (case k5W50 => k_asm); (case k6W50 => first | exact rfl | assumption); (case kfW50 => first | exact rfl | assumption); (case kNW50 => k_asm); (case kPW50 => k_extra "pick"); (case kDW50 => k_extra "nd"); (case q0W50 => k_extra "hyp"); (case q1W50 => k_extra "hyp"); (case kdW50 => ktr_room); (case kuW50 => ktr_units)); intro tz' h' tk'  F' N' D'; (try dsimp only [List.cons_append, List.nil_append] at N' D'); (try k_sweep); (try dsimp only))
  k_with "call ref" => (k_here; (with_reducible show wpAny _ _ (call (Value.ref 164) _) _ _ _); k_dflt (refine' bef_U ?k1W51 ?k2W51 ?k3W51 ?kPW51 ?kDW51 ?kNW51 ?k5W51 ?k6W51 ?kfW51 ?khW51 ?kAW51 ?kdW51 ?kuW51 ?q0W51 ?q1W51 ?_; (case kAW51 => exact rfl); (case khW51 => exact rfl); (case k1W51 => k_asm); (case k2W51 => k_asm); (case k3W51 => k_asm); (case k5W51 => k_asm); (case k6W51 => first | exact rfl | assumption); (case kfW51 => first | exact rfl | assumption); (case kNW51 => k_asm); (case kPW51 => k_extra "pick"); (case kDW51 => k_extra "nd"); (case q0W51 => k_extra "hyp"); (case q1W51 => k_extra "hyp"); (case kdW51 => ktr_room); (case kuW51 => ktr_units)); intro  h' tk'  F' N' D'; (try dsimp only [List.cons_append, List.nil_append] at N' D'); (try k_sweep); (try dsimp only))
  trivial
section
variable {all rest : List (Addr × Obj)} {w : World} {mean : ExcName → Option Value} {mg mb : Str → Option Value} {A : Around} {env : Env} {outer : List Env} {A₀ : Around} {base h₀ : Heap} {L : Addr} {m : Str → Option Value} {s : Shared} {Q E : Value → Shared → Prop}
theorem win_S {r rd ra : Addr} {ord : Obj} {ring mss : Int}
    (B : Below A₀ base outer h₀) (F : Fr h₀ L s.heap m) (X : (hd.heap_1 w.params).In h₀) (P9 : Pick [(r, instObj 404 rd), (rd, ord), (ra, baObj)] all rest) (D9 : ND all) (N9 : News h₀ L s.heap all) (T : Top vu LOOSE mean mg mb h₀) (hk : env.scope.kind = .function) (hf : env.frame = some L) (hh : A.handled = none) (hA : A.frames = some (env :: outer)) (hd9 : A.depth + 14 < recursionLimit) (hu9 : A.units + 160 < cLine)
    (q0 : RecD ring mss 32 44 ra ord) (r0 : 64 ≤ ring)
    (hret : ∀ (tz : Tok) (h' : Heap) (tk' : Nat), Fr h₀ L h' m → News h₀ L h' ([(r, instObj 404 rd), (rd, ord), (ra, baObj)] ++ rest) → ND ([(r, instObj 404 rd), (rd, ord), (ra, baObj)] ++ rest) → Q (.int 12 tz) { s with heap := h', toks := tk' }) :
    wpAny (model PySem.Challenge.rw_xw0345_01.prog w) A (call (.ref 317) [.ref r]) Q E s := by
  obtain ⟨hd0, dp, fr0, gd, un⟩ := A
  dsimp only at hh hA hd9 hu9
  subst hh hA
  revert X; k_fill; intro X
  have w0 : Int.fmod (32 + (12 - 0)) ring = 44 := fm_of (by omega) (by omega) 0 (by omega)
  have w1 : Int.fmod (44 - 44) ring = 0 := fm_of (by omega) (by omega) 0 (by omega)
  have w2 : Int.fmod (32 - 44) ring = ring - 12 := fm_of (by omega) (by omega) (-1) (by omega)
  have w3 : Int.fmod (44 - 32) ring = 12 := fm_of (by omega) (by omega) 0 (by omega)
  have w4 : Bef 44 44 ring = false := bef_false 0 w1 (by omega)
  have w5 : Bef 44 32 ring = false := bef_false _ w2 (by omega)
  have N := P9.news N9
  have D := P9.nd D9
  refine wpAny_call ?_
  walk_at "A enter"
  rename (∀ (b : Addr) (o : Obj), _ → ¬ _ → _) => kp
  k_steps
  show LeaveP _ _ _ _ _ _ _
  refine leaveP_ (by k_asm) (by k_asm) ?_
  intro F0 N0 fr0 kp0
  refine' P9.leave2 (S' := [(r, instObj 404 rd), (rd, ord), (ra, baObj)]) D9 N9 F0 N0 fr0 kp kp0 ?lP ?lD (hret _ _ _ )
  case lP => walk_at "pick"
  case lD => walk_at "nd"
end
-- N13

section
variable {all rest : List (Addr × Obj)} {w : World} {mean : ExcName → Option Value} {mg mb : Str → Option Value} {A : Around} {env : Env} {outer : List Env} {A₀ : Around} {base h₀ : Heap} {L : Addr} {m : Str → Option Value} {s : Shared} {Q E : Value → Shared → Prop}
theorem six {P : Int → Prop} (h1 : P 1) (h2 : P 2) (h3 : P 3) (h4 : P 4) (h5 : P 5) (h6 : P 6) {n : Int} (a : 1 ≤ n) (b : n ≤ 6) : P n := by
  have : n = 1 ∨ n = 2 ∨ n = 3 ∨ n = 4 ∨ n = 5 ∨ n = 6 := by omega
  rcases this with rfl | rfl | rfl | rfl | rfl | rfl <;> assumption
theorem lowAnd {n : Int} (a : 1 ≤ n) (b : n ≤ 6) : Builtin.bitAnd n 255 = n := six (P := fun n => Builtin.bitAnd n 255 = n) (by decide +kernel) (by decide +kernel) (by decide +kernel) (by decide +kernel) (by decide +kernel) (by decide +kernel) a b
theorem highAnd {n : Int} (a : 1 ≤ n) (b : n ≤ 6) : Builtin.bitAnd (n.fdiv (2 ^ Int.toNat 8)) 255 = 0 := six (P := fun n => Builtin.bitAnd (n.fdiv (2 ^ Int.toNat 8)) 255 = 0) (by decide +kernel) (by decide +kernel) (by decide +kernel) (by decide +kernel) (by decide +kernel) (by decide +kernel) a b
theorem div16 {n : Int} (a : 1 ≤ n) (b : n ≤ 6) : n.fdiv (2 ^ Int.toNat 16) = 0 := six (P := fun n => n.fdiv (2 ^ Int.toNat 16) = 0) (by decide +kernel) (by decide +kernel) (by decide +kernel) (by decide +kernel) (by decide +kernel) (by decide +kernel) a b
theorem ints_opt {b c : Array UInt8} {n : Int} (hb : KBw.bInts b = [2, 4]) (hc : KBw.bInts c = [0, n]) : KBw.bInts (b ++ c) = [2, 4, 0, n] := KBw.ints_app hb hc
theorem put16_U {mss : Int} {t0 : Tok}
    (B : Below A₀ base outer h₀) (F : Fr h₀ L s.heap m) (X : (hd.heap_1 w.params).In h₀) (P9 : Pick [] all rest) (D9 : ND all) (N9 : News h₀ L s.heap all) (T : Top vu LOOSE mean mg mb h₀) (hk : env.scope.kind = .function) (hf : env.frame = some L) (hh : A.handled = none) (hA : A.frames = some (env :: outer)) (hd9 : A.depth + 4 < recursionLimit) (hu9 : A.units + 60 < cLine)
    (m1 : 1 ≤ mss) (m2 : mss ≤ 6)
    (hret : ∀ (opts : Array UInt8) (tz : Tok) (h' : Heap) (tk' : Nat), KBw.bInts opts = [0, mss] → Fr h₀ L h' m → News h₀ L h' ([] ++ rest) → ND ([] ++ rest) → Q (.bytes opts tz) { s with heap := h', toks := tk' }) :
    wpAny (model PySem.Challenge.rw_xw0345_01.prog w) A (call (.ref 72) [.int mss t0]) Q E s := by
  obtain ⟨hd0, dp, fr0, gd, un⟩ := A
  dsimp only at hh hA hd9 hu9
  subst hh hA
  revert X; k_fill; intro X
  have N := P9.news N9
  have D := P9.nd D9
  refine wpAny_call ?_
  walk_at "A enter"
  rename (∀ (b : Addr) (o : Obj), _ → ¬ _ → _) => kp
  k_steps
  rename News _ _ _ _ => n9
  rw [highAnd m1 m2, lowAnd m1 m2] at n9
  refine KBa.make_K (ns := [0, mss]) (by k_asm) n9 rfl (n9.isList (by k_mem)) (.cons _ _ (.cons _ _ .nil)) ?_ (Nat.le_of_ble_eq_true rfl) ?_
  · intro n hn
    simp only [List.mem_cons, List.not_mem_nil, or_false] at hn
    omega
  intro h' t' k' F' N' i9
  have e9 := KBa.ints_make i9
  k_steps
  show LeaveP _ _ _ _ _ _ _
  refine leaveP_ (by k_asm) (by k_asm) ?_
  intro F0 N0 fr0 kp0
  refine' P9.leave2 (S' := []) D9 N9 F0 N0 fr0 kp kp0 ?lP ?lD (hret _ _ _ _ ?p0)
  case lP => walk_at "pick"
  case lD => walk_at "nd"
  case p0 => walk_at "post"
end
-- N13b
theorem words10 : True := by
  k_with "call ref" => (k_here; (with_reducible show wpAny _ _ (call (Value.ref 72) _) _ _ _); k_dflt (refine' put16_U ?k1W52 ?k2W52 ?k3W52 ?kPW52 ?kDW52 ?kNW52 ?k5W52 ?k6W52 ?kfW52 ?khW52 ?kAW52 ?kdW52 ?kuW52 ?q0W52 ?q1W52 ?_; (case kAW52 => exact rfl); (case khW52 => exact rfl); (case k1W52 => k_asm); (case k2W52 => k_asm); (case k3W52 => k_asm); (case k5W52 => k_asm); (case k6W52 => first | exact rfl | assumption); (case kfW52 => first | exact rfl | assumption); (case kNW52 => k_asm); (case kPW52 => k_extra "pick"); (case kDW52 => k_extra "nd"); (case q0W52 => k_extra "hyp"); (case q1W52 => k_extra "hyp"); (case kdW52 => ktr_room); (case kuW52 => ktr_units)); intro op' tz' h' tk' o0' F' N' D'; (try dsimp only [List.cons_append, List.nil_append] at N' D'); (try k_sweep); (try dsimp only))
  trivial
section
variable {all rest : List (Addr × Obj)} {w : World} {mean : ExcName → Option Value} {mg mb : Str → Option Value} {A : Around} {env : Env} {outer : List Env} {A₀ : Around} {base h₀ : Heap} {L : Addr} {m : Str → Option Value} {s : Shared} {Q E : Value → Shared → Prop}
theorem opt_U {mss : Int} {t0 : Tok}
    (B : Below A₀ base outer h₀) (F : Fr h₀ L s.heap m) (X : (hd.heap_1 w.params).In h₀) (P9 : Pick [] all rest) (D9 : ND all) (N9 : News h₀ L s.heap all) (T : Top vu LOOSE mean mg mb h₀) (hk : env.scope.kind = .function) (hf : env.frame = some L) (hh : A.handled = none) (hA : A.frames = some (env :: outer)) (hd9 : A.depth + 12 < recursionLimit) (hu9 : A.units + 120 < cLine)
    (m1 : 1 ≤ mss) (m2 : mss ≤ 6)
    (hret : ∀ (opts : Array UInt8) (tz : Tok) (h' : Heap) (tk' : Nat), KBw.bInts opts = [2, 4, 0, mss] → Fr h₀ L h' m → News h₀ L h' ([] ++ rest) → ND ([] ++ rest) → Q (.bytes opts tz) { s with heap := h', toks := tk' }) :
    wpAny (model PySem.Challenge.rw_xw0345_01.prog w) A (call (.ref 129) [.int mss t0]) Q E s := by
  obtain ⟨hd0, dp, fr0, gd, un⟩ := A
  dsimp only at hh hA hd9 hu9
  subst hh hA
  revert X; k_fill; intro X
  have z9 := div16 m1 m2
  have N := P9.news N9
  have D := P9.nd D9
  refine wpAny_call ?_
  walk_at "A enter"
  rename (∀ (b : Addr) (o : Obj), _ → ¬ _ → _) => kp
  k_steps
  all_goals try (exfalso; exact absurd z9 (by assumption))
  show LeaveP _ _ _ _ _ _ _
  refine leaveP_ (by k_asm) (by k_asm) ?_
  intro F0 N0 fr0 kp0
  refine' P9.leave2 (S' := []) D9 N9 F0 N0 fr0 kp kp0 ?lP ?lD (hret _ _ _ _ ?p0)
  case lP => walk_at "pick"
  case lD => walk_at "nd"
  case p0 => exact ints_opt (by kernel_rfl!) (by assumption)
end
-- N13w
theorem words11 : True := by
  k_with "call ref" => (k_here; (with_reducible show wpAny _ _ (call (Value.ref 317) _) _ _ _); k_dflt (refine' win_S ?k1W53 ?k2W53 ?k3W53 ?kPW53 ?kDW53 ?kNW53 ?k5W53 ?k6W53 ?kfW53 ?khW53 ?kAW53 ?kdW53 ?kuW53 ?q0W53 ?q1W53 ?_; (case kAW53 => exact rfl); (case khW53 => exact rfl); (case k1W53 => k_asm); (case k2W53 => k_asm); (case k3W53 => k_asm); (case k5W53 => k_asm); (case k6W53 => first | exact rfl | assumption); (case kfW53 => first | exact rfl | assumption); (case kNW53 => k_asm); (case kPW53 => k_extra "pick"); (case kDW53 => k_extra "nd"); (case q0W53 => k_extra "hyp"); (case q1W53 => k_extra "hyp"); (case kdW53 => ktr_room); (case kuW53 => ktr_units)); intro tz' h' tk'  F' N' D'; (try dsimp only [List.cons_append, List.nil_append] at N' D'); (try k_sweep); (try dsimp only))
  trivial
section
variable {all rest : List (Addr × Obj)} {w : World} {mean : ExcName → Option Value} {mg mb : Str → Option Value} {A : Around} {env : Env} {outer : List Env} {A₀ : Around} {base h₀ : Heap} {L : Addr} {m : Str → Option Value} {s : Shared} {Q E : Value → Shared → Prop}
theorem wnow_N {x dx lim limd lo re sn c a wh : Addr} {odx olim : Obj} {ring mss : Int}
    (B : Below A₀ base outer h₀) (F : Fr h₀ L s.heap m) (X : (hd.heap_1 w.params).In h₀) (P9 : Pick [(x, instObj 1105 dx), (dx, odx), (lim, instObj 1062 limd), (limd, olim)] all rest) (D9 : ND all) (N9 : News h₀ L s.heap all) (T : Top vu LOOSE mean mg mb h₀) (hk : env.scope.kind = .function) (hf : env.frame = some L) (hh : A.handled = none) (hA : A.frames = some (env :: outer)) (hd9 : A.depth + 6 < recursionLimit) (hu9 : A.units + 60 < cLine)
    (q0 : TcbD lim lo re sn .none c a wh odx) (q1 : LimD ring mss olim)
    (hret : ∀ (tz : Tok) (h' : Heap) (tk' : Nat), Fr h₀ L h' m → News h₀ L h' ([(x, instObj 1105 dx), (dx, odx), (lim, instObj 1062 limd), (limd, olim)] ++ rest) → ND ([(x, instObj 1105 dx), (dx, odx), (lim, instObj 1062 limd), (limd, olim)] ++ rest) → Q (.int 12 tz) { s with heap := h', toks := tk' }) :
    wpAny (model PySem.Challenge.rw_xw0345_01.prog w) A (call (.ref 1094) [.ref x]) Q E s := by
  obtain ⟨hd0, dp, fr0, gd, un⟩ := A
  dsimp only at hh hA hd9 hu9
  subst hh hA
  revert X; k_fill; intro X
  have N := P9.news N9
  have D := P9.nd D9
  refine wpAny_call ?_
  walk_at "A enter"
  rename (∀ (b : Addr) (o : Obj), _ → ¬ _ → _) => kp
  k_steps
  show LeaveP _ _ _ _ _ _ _
  refine leaveP_ (by k_asm) (by k_asm) ?_
  intro F0 N0 fr0 kp0
  refine' P9.leave2 (S' := [(x, instObj 1105 dx), (dx, odx), (lim, instObj 1062 limd), (limd, olim)]) D9 N9 F0 N0 fr0 kp kp0 ?lP ?lD (hret _ _ _ )
  case lP => walk_at "pick"
  case lD => walk_at "nd"
theorem wnow_S {x dx lim lo re sn c a wh r rd ra : Addr} {odx ord : Obj} {ring mss : Int}
    (B : Below A₀ base outer h₀) (F : Fr h₀ L s.heap m) (X : (hd.heap_1 w.params).In h₀) (P9 : Pick [(x, instObj 1105 dx), (dx, odx), (r, instObj 404 rd), (rd, ord), (ra, baObj)] all rest) (D9 : ND all) (N9 : News h₀ L s.heap all) (T : Top vu LOOSE mean mg mb h₀) (hk : env.scope.kind = .function) (hf : env.frame = some L) (hh : A.handled = none) (hA : A.frames = some (env :: outer)) (hd9 : A.depth + 18 < recursionLimit) (hu9 : A.units + 200 < cLine)
    (q0 : TcbD lim lo re sn (.ref r) c a wh odx) (q2 : RecD ring mss 32 44 ra ord) (r0 : 64 ≤ ring)
    (hret : ∀ (tz : Tok) (h' : Heap) (tk' : Nat), Fr h₀ L h' m → News h₀ L h' ([(x, instObj 1105 dx), (dx, odx), (r, instObj 404 rd), (rd, ord), (ra, baObj)] ++ rest) → ND ([(x, instObj 1105 dx), (dx, odx), (r, instObj 404 rd), (rd, ord), (ra, baObj)] ++ rest) → Q (.int 12 tz) { s with heap := h', toks := tk' }) :
    wpAny (model PySem.Challenge.rw_xw0345_01.prog w) A (call (.ref 1094) [.ref x]) Q E s := by
  obtain ⟨hd0, dp, fr0, gd, un⟩ := A
  dsimp only at hh hA hd9 hu9
  subst hh hA
  revert X; k_fill; intro X
  have N := P9.news N9
  have D := P9.nd D9
  refine wpAny_call ?_
  walk_at "A enter"
  rename (∀ (b : Addr) (o : Obj), _ → ¬ _ → _) => kp
  k_steps
  show LeaveP _ _ _ _ _ _ _
  refine leaveP_ (by k_asm) (by k_asm) ?_
  intro F0 N0 fr0 kp0
  refine' P9.leave2 (S' := [(x, instObj 1105 dx), (dx, odx), (r, instObj 404 rd), (rd, ord), (ra, baObj)]) D9 N9 F0 N0 fr0 kp kp0 ?lP ?lD (hret _ _ _ )
  case lP => walk_at "pick"
  case lD => walk_at "nd"
end
-- N14
theorem words12 : True := by
  k_with "call ref" => (k_here; (with_reducible show wpAny _ _ (call (Value.ref 129) _) _ _ _); k_dflt (refine' opt_U ?k1W54 ?k2W54 ?k3W54 ?kPW54 ?kDW54 ?kNW54 ?k5W54 ?k6W54 ?kfW54 ?khW54 ?kAW54 ?kdW54 ?kuW54 ?q0W54 ?q1W54 ?_; (case kAW54 => exact rfl); (case khW54 => exact rfl); (case k1W54 => k_asm); (case k2W54 => k_asm); (case k3W54 => k_asm); (case k5W54 => k_asm); (case k6W54 => first | exact rfl | assumption); (case kfW54 => first | exact rfl | assumption); (case kNW54 => k_asm); (case kPW54 => k_extra "pick"); (case kDW54 => k_extra "nd"); (case q0W54 => k_extra "hyp"); (case q1W54 => k_extra "hyp"); (case kdW54 => ktr_room); (case kuW54 => ktr_units)); intro op' tz' h' tk' o0' F' N' D'; (try dsimp only [List.cons_append, List.nil_append] at N' D'); (try k_sweep); (try dsimp only))
  k_with "call ref" => (k_here; (with_reducible show wpAny _ _ (call (Value.ref 451) _) _ _ _); k_dflt (refine' on_sent_U ?k1W55 ?k2W55 ?k3W55 ?kPW55 ?kDW55 ?kNW55 ?k5W55 ?k6W55 ?kfW55 ?khW55 ?kAW55 ?kdW55 ?kuW55 ?q0W55 ?_; (case kAW55 => exact rfl); (case khW55 => exact rfl); (case k1W55 => k_asm); (case k2W55 => k_asm); (case k3W55 => k_asm); (case k5W55 => k_asm); (case k6W55 => first | exact rfl | assumption); (case kfW55 => first | exact rfl | assumption); (case kNW55 => k_asm); (case kPW55 => k_extra "pick"); (case kDW55 => k_extra "nd"); (case q0W55 => k_extra "hyp"); (case kdW55 => ktr_room); (case kuW55 => ktr_units)); intro oad' wt' h' tk' o0' F' N' D'; (try dsimp only [List.cons_append, List.nil_append] at N' D'); (try k_sweep); (try dsimp only))
  k_with "call ref" => (k_here; (with_reducible show wpAny _ _ (call (Value.ref 1012) _) _ _ _); k_dflt (refine' cancel_U ?k1W56 ?k2W56 ?k3W56 ?kPW56 ?kDW56 ?kNW56 ?k5W56 ?k6W56 ?kfW56 ?khW56 ?kAW56 ?kdW56 ?kuW56 ?q0W56 ?q1W56 ?q2W56 ?q3W56 ?q4W56 ?_; (case kAW56 => exact rfl); (case khW56 => exact rfl); (case k1W56 => k_asm); (case k2W56 => k_asm); (case k3W56 => k_asm); (case k5W56 => k_asm); (case k6W56 => first | exact rfl | assumption); (case kfW56 => first | exact rfl | assumption); (case kNW56 => k_asm); (case q0W56 => k_extra "hyp"); (case kPW56 => k_extra "pick"); (case kDW56 => k_extra "nd"); (case q1W56 => k_extra "hyp"); (case q2W56 => k_extra "hyp"); (case q3W56 => k_extra "hyp"); (case q4W56 => k_extra "hyp"); (case kdW56 => ktr_room); (case kuW56 => ktr_units)); intro oen' ol4' h' tk' o0' F' N' D'; (try dsimp only [List.cons_append, List.nil_append] at N' D'); (try k_sweep); (try dsimp only))
  k_with "call ref" => (k_here; (with_reducible show wpAny _ _ (call (Value.ref 1094) _) _ _ _); k_dflt (refine' wnow_N ?k1W57 ?k2W57 ?k3W57 ?kPW57 ?kDW57 ?kNW57 ?k5W57 ?k6W57 ?kfW57 ?khW57 ?kAW57 ?kdW57 ?kuW57 ?q0W57 ?q1W57 ?_; (case kAW57 => exact rfl); (case khW57 => exact rfl); (case k1W57 => k_asm); (case k2W57 => k_asm); (case k3W57 => k_asm); (case k5W57 => k_asm); (case k6W57 => first | exact rfl | assumption); (case kfW57 => first | exact rfl | assumption); (case kNW57 => k_asm); (case kPW57 => k_extra "pick"); (case kDW57 => k_extra "nd"); (case q0W57 => k_extra "hyp"); (case q1W57 => k_extra "hyp"); (case kdW57 => ktr_room); (case kuW57 => ktr_units)); intro tz' h' tk'  F' N' D'; (try dsimp only [List.cons_append, List.nil_append] at N' D'); (try k_sweep); (try dsimp only))
  k_with "call ref" => (k_here; (with_reducible show wpAny _ _ (call (Value.ref 1094) _) _ _ _); k_dflt (refine' wnow_S ?k1W58 ?k2W58 ?k3W58 ?kPW58 ?kDW58 ?kNW58 ?k5W58 ?k6W58 ?kfW58 ?khW58 ?kAW58 ?kdW58 ?kuW58 ?q0W58 ?q1W58 ?q2W58 ?_; (case kAW58 => exact rfl); (case khW58 => exact rfl); (case k1W58 => k_asm); (case k2W58 => k_asm); (case k3W58 => k_asm); (case k5W58 => k_asm); (case k6W58 => first | exact rfl | assumption); (case kfW58 => first | exact rfl | assumption); (case kNW58 => k_asm); (case kPW58 => k_extra "pick"); (case kDW58 => k_extra "nd"); (case q0W58 => k_extra "hyp"); (case q1W58 => k_extra "hyp"); (case q2W58 => k_extra "hyp"); (case kdW58 => ktr_room); (case kuW58 => ktr_units)); intro tz' h' tk'  F' N' D'; (try dsimp only [List.cons_append, List.nil_append] at N' D'); (try k_sweep); (try dsimp only))
  trivial
section
variable {all rest : List (Addr × Obj)} {w : World} {mean : ExcName → Option Value} {mg mb : Str → Option Value} {A : Around} {env : Env} {outer : List Env} {A₀ : Around} {base h₀ : Heap} {L : Addr} {m : Str → Option Value} {s : Shared} {Q E : Value → Shared → Prop}
theorem opt_fix {o : Array UInt8} {mss : Int} (m2 : mss ≤ 6) (h : KBw.bInts o = [2, 4, 0, if 65535 < mss then 65535 else mss]) : KBw.bInts o = [2, 4, 0, mss] := by
  rwa [if_neg (by omega)] at h
theorem make_N {x dx lim limd lo re sn c a wh : Addr} {odx olim : Obj} {ring mss seq : Int} {p0 p1 p2 p3 t0 t1 : Tok}
    (B : Below A₀ base outer h₀) (F : Fr h₀ L s.heap m) (X : (hd.heap_1 w.params).In h₀) (P9 : Pick [(x, instObj 1105 dx), (dx, odx), (lim, instObj 1062 limd), (limd, olim), (lo, ({ cls := .type "tuple", data := .seq #[.int 1 p0, .int 80 p1] } : Obj)), (re, ({ cls := .type "tuple", data := .seq #[.int 2 p2, .int 90 p3] } : Obj))] all rest) (D9 : ND all) (N9 : News h₀ L s.heap all) (T : Top vu LOOSE mean mg mb h₀) (hk : env.scope.kind = .function) (hf : env.frame = some L) (hh : A.handled = none) (hA : A.frames = some (env :: outer)) (hd9 : A.depth + 20 < recursionLimit) (hu9 : A.units + 200 < cLine)
    (q0 : TcbD lim lo re sn .none c a wh odx) (q1 : LimD ring mss olim) (m1 : 1 ≤ mss) (m2 : mss ≤ 6)
    (hret : ∀ (sg sgd : Addr) (osg : Obj) (opts : Array UInt8) (h' : Heap) (tk' : Nat), SegD seq 0 2 opts #[] osg → KBw.bInts opts = [2, 4, 0, mss] → Fr h₀ L h' m → News h₀ L h' ([(x, instObj 1105 dx), (dx, odx), (lim, instObj 1062 limd), (limd, olim), (lo, ({ cls := .type "tuple", data := .seq #[.int 1 p0, .int 80 p1] } : Obj)), (re, ({ cls := .type "tuple", data := .seq #[.int 2 p2, .int 90 p3] } : Obj)), (sg, instObj 111 sgd), (sgd, osg)] ++ rest) → ND ([(x, instObj 1105 dx), (dx, odx), (lim, instObj 1062 limd), (limd, olim), (lo, ({ cls := .type "tuple", data := .seq #[.int 1 p0, .int 80 p1] } : Obj)), (re, ({ cls := .type "tuple", data := .seq #[.int 2 p2, .int 90 p3] } : Obj)), (sg, instObj 111 sgd), (sgd, osg)] ++ rest) → Q (.ref sg) { s with heap := h', toks := tk' }) :
    wpAny (model PySem.Challenge.rw_xw0345_01.prog w) A (call (.ref 1102) [.ref x, .int 2 t0, .int seq t1]) Q E s := by
  obtain ⟨hd0, dp, fr0, gd, un⟩ := A
  dsimp only at hh hA hd9 hu9
  subst hh hA
  revert X; k_fill; intro X
  have N := P9.news N9
  have D := P9.nd D9
  refine wpAny_call ?_
  walk_at "A enter"
  rename (∀ (b : Addr) (o : Obj), _ → ¬ _ → _) => kp
  k_steps
  show LeaveP _ _ _ _ _ _ _
  refine leaveP_ (by k_asm) (by k_asm) ?_
  intro F0 N0 fr0 kp0
  refine' P9.leave2 (S' := [(x, instObj 1105 dx), (dx, odx), (lim, instObj 1062 limd), (limd, olim), (lo, ({ cls := .type "tuple", data := .seq #[.int 1 p0, .int 80 p1] } : Obj)), (re, ({ cls := .type "tuple", data := .seq #[.int 2 p2, .int 90 p3] } : Obj)), (_, instObj 111 _), (_, _)]) D9 N9 F0 N0 fr0 kp kp0 ?lP ?lD (hret _ _ _ _ _ _ ?p0 ?p1)
  case lP => walk_at "pick"
  case lD => walk_at "nd"
  case p0 => walk_at "post"
  case p1 => exact opt_fix m2 (by assumption)
end
-- N14s

section
variable {all rest : List (Addr × Obj)} {w : World} {mean : ExcName → Option Value} {mg mb : Str → Option Value} {A : Around} {env : Env} {outer : List Env} {A₀ : Around} {base h₀ : Heap} {L : Addr} {m : Str → Option Value} {s : Shared} {Q E : Value → Shared → Prop}
theorem make_S {x dx lim limd lo re sn c r rd ra a ad w' wd en lt l4 sl tp : Addr} {odx olim ord oad owd oen : Obj} {ring mss seq gn : Int} {wt hg du : Value} {ys : List Value} {p0 p1 p2 p3 t0 t1 u9 ta tb : Tok}
    (B : Below A₀ base outer h₀) (F : Fr h₀ L s.heap m) (X : (hd.heap_1 w.params).In h₀) (P9 : Pick [(x, instObj 1105 dx), (dx, odx), (lim, instObj 1062 limd), (limd, olim), (lo, ({ cls := .type "tuple", data := .seq #[.int 1 p0, .int 80 p1] } : Obj)), (re, ({ cls := .type "tuple", data := .seq #[.int 2 p2, .int 90 p3] } : Obj)), (r, instObj 404 rd), (rd, ord), (ra, baObj), (a, instObj 461 ad), (ad, oad), (w', instObj 1041 wd), (wd, owd), (en, oen), (lt, W.listOf [].toArray 0), (l4, W.listOf (#[].push (.int 3 u9)) (0 + 1)), (sl, W.listOf (List.toArray ys) (List.length ys)), (tp, ({ cls := .type "tuple", data := .seq #[.int 4 ta, .int (0 + 1) tb] } : Obj))] all rest) (D9 : ND all) (N9 : News h₀ L s.heap all) (T : Top vu LOOSE mean mg mb h₀) (hk : env.scope.kind = .function) (hf : env.frame = some L) (hh : A.handled = none) (hA : A.frames = some (env :: outer)) (hd9 : A.depth + 24 < recursionLimit) (hu9 : A.units + 240 < cLine)
    (q0 : TcbD lim lo re sn (.ref r) c a w' odx) (q1 : LimD ring mss olim) (m1 : 1 ≤ mss) (m2 : mss ≤ 6) (q2 : RecD ring mss 32 44 ra ord) (r0 : 64 ≤ ring) (q3 : AckD wt hg du oad) (q4 : WhlD sl lt en gn owd) (y1 : ys.length = 16) (y2 : ys[4]? = some (.ref l4)) (y3 : oen.IsDictOf (intKind PySem.Challenge.rw_xw0345_01.prog w) [(3, .ref tp)]) (y4 : (en == sysModules) = false)
    (hret : ∀ (oad' : Obj) (wt' : Value) (oen' ol4 : Obj) (sg sgd : Addr) (osg : Obj) (opts : Array UInt8) (h' : Heap) (tk' : Nat), AckD wt' hg .none oad' → oen'.IsDictOf (intKind PySem.Challenge.rw_xw0345_01.prog w) [] → SegD seq 32 18 opts #[] osg → KBw.bInts opts = [2, 4, 0, mss] → Fr h₀ L h' m → News h₀ L h' ([(x, instObj 1105 dx), (dx, odx), (lim, instObj 1062 limd), (limd, olim), (lo, ({ cls := .type "tuple", data := .seq #[.int 1 p0, .int 80 p1] } : Obj)), (re, ({ cls := .type "tuple", data := .seq #[.int 2 p2, .int 90 p3] } : Obj)), (r, instObj 404 rd), (rd, ord), (ra, baObj), (a, instObj 461 ad), (ad, oad'), (w', instObj 1041 wd), (wd, owd), (en, oen'), (lt, W.listOf [].toArray 0), (l4, ol4), (sl, W.listOf (List.toArray ys) (List.length ys)), (sg, instObj 111 sgd), (sgd, osg)] ++ rest) → ND ([(x, instObj 1105 dx), (dx, odx), (lim, instObj 1062 limd), (limd, olim), (lo, ({ cls := .type "tuple", data := .seq #[.int 1 p0, .int 80 p1] } : Obj)), (re, ({ cls := .type "tuple", data := .seq #[.int 2 p2, .int 90 p3] } : Obj)), (r, instObj 404 rd), (rd, ord), (ra, baObj), (a, instObj 461 ad), (ad, oad'), (w', instObj 1041 wd), (wd, owd), (en, oen'), (lt, W.listOf [].toArray 0), (l4, ol4), (sl, W.listOf (List.toArray ys) (List.length ys)), (sg, instObj 111 sgd), (sgd, osg)] ++ rest) → Q (.ref sg) { s with heap := h', toks := tk' }) :
    wpAny (model PySem.Challenge.rw_xw0345_01.prog w) A (call (.ref 1102) [.ref x, .int 2 t0, .int seq t1]) Q E s := by
  obtain ⟨hd0, dp, fr0, gd, un⟩ := A
  dsimp only at hh hA hd9 hu9
  subst hh hA
  revert X; k_fill; intro X
  have N := P9.news N9
  have D := P9.nd D9
  refine wpAny_call ?_
  walk_at "A enter"
  rename (∀ (b : Addr) (o : Obj), _ → ¬ _ → _) => kp
  k_steps
  have b9 : Builtin.bitOr 2 16 = 18 := by decide +kernel
  rename SegD _ _ _ _ _ _ => sg9
  rw [b9] at sg9
  show LeaveP _ _ _ _ _ _ _
  refine leaveP_ (by k_asm) (by k_asm) ?_
  intro F0 N0 fr0 kp0
  refine' P9.leave2 (S' := [(x, instObj 1105 dx), (dx, odx), (lim, instObj 1062 limd), (limd, olim), (lo, ({ cls := .type "tuple", data := .seq #[.int 1 p0, .int 80 p1] } : Obj)), (re, ({ cls := .type "tuple", data := .seq #[.int 2 p2, .int 90 p3] } : Obj)), (r, instObj 404 rd), (rd, ord), (ra, baObj), (a, instObj 461 ad), (ad, _), (w', instObj 1041 wd), (wd, owd), (en, _), (lt, W.listOf [].toArray 0), (l4, _), (sl, W.listOf (List.toArray ys) (List.length ys)), (_, instObj 111 _), (_, _)]) D9 N9 F0 N0 fr0 kp kp0 ?lP ?lD (hret _ _ _ _ _ _ _ _ _ _ ?p0 ?p1 ?p2 ?p3)
  case lP => walk_at "pick"
  case lD => walk_at "nd"
  case p0 => walk_at "post"
  case p1 => walk_at "post"
  case p2 => walk_at "post"
  case p3 => exact opt_fix m2 (by assumption)
end
-- N14o

section
variable {all rest : List (Addr × Obj)} {w : World} {mean : ExcName → Option Value} {mg mb : Str → Option Value} {A : Around} {env : Env} {outer : List Env} {A₀ : Around} {base h₀ : Heap} {L : Addr} {m : Str → Option Value} {s : Shared} {Q E : Value → Shared → Prop}
theorem or_fl {prog : Program} {w : World} {A : Around} {E : Value → Shared → Prop} {s : Shared} {a b c : Int} {t u : Tok} {Q : Value → Shared → Prop} (e : Builtin.bitOr a b = c) (h : Q (.int c s.toks) { s with toks := s.toks + 1 }) : wpAny (model prog w) A (binaryOp .BitOr (.int a t) (.int b u)) Q E s := or_int (by rw [e]; exact h)
theorem and_fl {prog : Program} {w : World} {A : Around} {E : Value → Shared → Prop} {s : Shared} {a b c : Int} {t u : Tok} {Q : Value → Shared → Prop} (e : Builtin.bitAnd a b = c) (h : Q (.int c s.toks) { s with toks := s.toks + 1 }) : wpAny (model prog w) A (binaryOp .BitAnd (.int a t) (.int b u)) Q E s := and_int (by rw [e]; exact h)
end
theorem words13 : True := by
  k_with "binaryOp BitOr int int" => refine or_fl (by with_reducible assumption) ?_
  trivial
section
variable {all rest : List (Addr × Obj)} {w : World} {mean : ExcName → Option Value} {mg mb : Str → Option Value} {A : Around} {env : Env} {outer : List Env} {A₀ : Around} {base h₀ : Heap} {L : Addr} {m : Str → Option Value} {s : Shared} {Q E : Value → Shared → Prop}
end
theorem words14 : True := by
  k_with "binaryOp BitAnd int int" => refine and_fl (by with_reducible assumption) ?_
  trivial
section
variable {all rest : List (Addr × Obj)} {w : World} {mean : ExcName → Option Value} {mg mb : Str → Option Value} {A : Around} {env : Env} {outer : List Env} {A₀ : Around} {base h₀ : Heap} {L : Addr} {m : Str → Option Value} {s : Shared} {Q E : Value → Shared → Prop}
theorem make_O {x dx lim limd lo re sn c r rd ra a ad w' wd en lt l4 sl tp : Addr} {odx olim ord oad owd oen : Obj} {ring mss seq gn : Int} {wt hg du : Value} {ys : List Value} {p0 p1 p2 p3 t0 t1 t2 u9 ta tb : Tok} {pay : Array UInt8} {fl : Int}
    (B : Below A₀ base outer h₀) (F : Fr h₀ L s.heap m) (X : (hd.heap_1 w.params).In h₀) (P9 : Pick [(x, instObj 1105 dx), (dx, odx), (lim, instObj 1062 limd), (limd, olim), (lo, ({ cls := .type "tuple", data := .seq #[.int 1 p0, .int 80 p1] } : Obj)), (re, ({ cls := .type "tuple", data := .seq #[.int 2 p2, .int 90 p3] } : Obj)), (r, instObj 404 rd), (rd, ord), (ra, baObj), (a, instObj 461 ad), (ad, oad), (w', instObj 1041 wd), (wd, owd), (en, oen), (lt, W.listOf [].toArray 0), (l4, W.listOf (#[].push (.int 3 u9)) (0 + 1)), (sl, W.listOf (List.toArray ys) (List.length ys)), (tp, ({ cls := .type "tuple", data := .seq #[.int 4 ta, .int (0 + 1) tb] } : Obj))] all rest) (D9 : ND all) (N9 : News h₀ L s.heap all) (T : Top vu LOOSE mean mg mb h₀) (hk : env.scope.kind = .function) (hf : env.frame = some L) (hh : A.handled = none) (hA : A.frames = some (env :: outer)) (hd9 : A.depth + 24 < recursionLimit) (hu9 : A.units + 240 < cLine)
    (q0 : TcbD lim lo re sn (.ref r) c a w' odx) (q1 : LimD ring mss olim) (m1 : 1 ≤ mss) (m2 : mss ≤ 6) (q2 : RecD ring mss 32 44 ra ord) (r0 : 64 ≤ ring) (q3 : AckD wt hg du oad) (q4 : WhlD sl lt en gn owd) (y1 : ys.length = 16) (y2 : ys[4]? = some (.ref l4)) (y3 : oen.IsDictOf (intKind PySem.Challenge.rw_xw0345_01.prog w) [(3, .ref tp)]) (y4 : (en == sysModules) = false) (b1 : Builtin.bitOr fl 16 = fl) (b2 : Builtin.bitAnd fl 2 = 0)
    (hret : ∀ (oad' : Obj) (wt' : Value) (oen' ol4 : Obj) (sg sgd : Addr) (osg : Obj) (h' : Heap) (tk' : Nat), AckD wt' hg .none oad' → oen'.IsDictOf (intKind PySem.Challenge.rw_xw0345_01.prog w) [] → SegD seq 32 fl #[] pay osg → Fr h₀ L h' m → News h₀ L h' ([(x, instObj 1105 dx), (dx, odx), (lim, instObj 1062 limd), (limd, olim), (lo, ({ cls := .type "tuple", data := .seq #[.int 1 p0, .int 80 p1] } : Obj)), (re, ({ cls := .type "tuple", data := .seq #[.int 2 p2, .int 90 p3] } : Obj)), (r, instObj 404 rd), (rd, ord), (ra, baObj), (a, instObj 461 ad), (ad, oad'), (w', instObj 1041 wd), (wd, owd), (en, oen'), (lt, W.listOf [].toArray 0), (l4, ol4), (sl, W.listOf (List.toArray ys) (List.length ys)), (sg, instObj 111 sgd), (sgd, osg)] ++ rest) → ND ([(x, instObj 1105 dx), (dx, odx), (lim, instObj 1062 limd), (limd, olim), (lo, ({ cls := .type "tuple", data := .seq #[.int 1 p0, .int 80 p1] } : Obj)), (re, ({ cls := .type "tuple", data := .seq #[.int 2 p2, .int 90 p3] } : Obj)), (r, instObj 404 rd), (rd, ord), (ra, baObj), (a, instObj 461 ad), (ad, oad'), (w', instObj 1041 wd), (wd, owd), (en, oen'), (lt, W.listOf [].toArray 0), (l4, ol4), (sl, W.listOf (List.toArray ys) (List.length ys)), (sg, instObj 111 sgd), (sgd, osg)] ++ rest) → Q (.ref sg) { s with heap := h', toks := tk' }) :
    wpAny (model PySem.Challenge.rw_xw0345_01.prog w) A (call (.ref 1102) [.ref x, .int fl t0, .int seq t1, .bytes pay t2]) Q E s := by
  obtain ⟨hd0, dp, fr0, gd, un⟩ := A
  dsimp only at hh hA hd9 hu9
  subst hh hA
  revert X; k_fill; intro X
  have N := P9.news N9
  have D := P9.nd D9
  refine wpAny_call ?_
  walk_at "A enter"
  rename (∀ (b : Addr) (o : Obj), _ → ¬ _ → _) => kp
  k_steps
  show LeaveP _ _ _ _ _ _ _
  refine leaveP_ (by k_asm) (by k_asm) ?_
  intro F0 N0 fr0 kp0
  refine' P9.leave2 (S' := [(x, instObj 1105 dx), (dx, odx), (lim, instObj 1062 limd), (limd, olim), (lo, ({ cls := .type "tuple", data := .seq #[.int 1 p0, .int 80 p1] } : Obj)), (re, ({ cls := .type "tuple", data := .seq #[.int 2 p2, .int 90 p3] } : Obj)), (r, instObj 404 rd), (rd, ord), (ra, baObj), (a, instObj 461 ad), (ad, _), (w', instObj 1041 wd), (wd, owd), (en, _), (lt, W.listOf [].toArray 0), (l4, _), (sl, W.listOf (List.toArray ys) (List.length ys)), (_, instObj 111 _), (_, _)]) D9 N9 F0 N0 fr0 kp kp0 ?lP ?lD (hret _ _ _ _ _ _ _ _ _ ?p0 ?p1 ?p2)
  case lP => walk_at "pick"
  case lD => walk_at "nd"
  case p0 => walk_at "post"
  case p1 => walk_at "post"
  case p2 => walk_at "post"
end
-- N15

section
variable {all rest : List (Addr × Obj)} {w : World} {mean : ExcName → Option Value} {mg mb : Str → Option Value} {A : Around} {env : Env} {outer : List Env} {A₀ : Around} {base h₀ : Heap} {L : Addr} {m : Str → Option Value} {s : Shared} {Q E : Value → Shared → Prop}
theorem row_U {sg sgd : Addr} {osg : Obj} {seq ack flags : Int} {opts pay : Array UInt8}
    (B : Below A₀ base outer h₀) (F : Fr h₀ L s.heap m) (X : (hd.heap_1 w.params).In h₀) (P9 : Pick [(sg, instObj 111 sgd), (sgd, osg)] all rest) (D9 : ND all) (N9 : News h₀ L s.heap all) (T : Top vu LOOSE mean mg mb h₀) (hk : env.scope.kind = .function) (hf : env.frame = some L) (hh : A.handled = none) (hA : A.frames = some (env :: outer)) (hd9 : A.depth + 8 < recursionLimit) (hu9 : A.units + 80 < cLine)
    (q0 : SegD seq ack flags opts pay osg)
    (hret : ∀ (tr : Addr) (r0 r1 r2 r3 r4 r5 r6 r7 r8 : Tok) (h' : Heap) (tk' : Nat), Fr h₀ L h' m → News h₀ L h' ([(sg, instObj 111 sgd), (sgd, osg), (tr, ({ cls := .type "tuple", data := .seq #[.int 80 r0, .int 90 r1, .int seq r2, .int ack r3, .int flags r4, .int 12 r5, .int 0 r6, .bytes opts r7, .bytes pay r8] } : Obj))] ++ rest) → ND ([(sg, instObj 111 sgd), (sgd, osg), (tr, ({ cls := .type "tuple", data := .seq #[.int 80 r0, .int 90 r1, .int seq r2, .int ack r3, .int flags r4, .int 12 r5, .int 0 r6, .bytes opts r7, .bytes pay r8] } : Obj))] ++ rest) → Q (.ref tr) { s with heap := h', toks := tk' }) :
    wpAny (model PySem.Challenge.rw_xw0345_01.prog w) A (call (.ref 108) [.ref sg]) Q E s := by
  obtain ⟨hd0, dp, fr0, gd, un⟩ := A
  dsimp only at hh hA hd9 hu9
  subst hh hA
  revert X; k_fill; intro X
  have N := P9.news N9
  have D := P9.nd D9
  refine wpAny_call ?_
  walk_at "A enter"
  rename (∀ (b : Addr) (o : Obj), _ → ¬ _ → _) => kp
  k_steps
  show LeaveP _ _ _ _ _ _ _
  refine leaveP_ (by k_asm) (by k_asm) ?_
  intro F0 N0 fr0 kp0
  refine' P9.leave2 (S' := [(sg, instObj 111 sgd), (sgd, osg), (_, ({ cls := .type "tuple", data := .seq #[.int 80 _, .int 90 _, .int seq _, .int ack _, .int flags _, .int 12 _, .int 0 _, .bytes opts _, .bytes pay _] } : Obj))]) D9 N9 F0 N0 fr0 kp kp0 ?lP ?lD (hret _ _ _ _ _ _ _ _ _ _ _ _ )
  case lP => walk_at "pick"
  case lD => walk_at "nd"
end
-- N16
theorem words15 : True := by
  k_with "call ref" => (k_here; (with_reducible show wpAny _ _ (call (Value.ref 591) _) _ _ _); k_dflt (refine' forget_U ?k1W61 ?k2W61 ?k3W61 ?kPW61 ?kDW61 ?kNW61 ?k5W61 ?k6W61 ?kfW61 ?khW61 ?kAW61 ?kdW61 ?kuW61 ?q0W61 ?_; (case kAW61 => exact rfl); (case khW61 => exact rfl); (case k1W61 => k_asm); (case k2W61 => k_asm); (case k3W61 => k_asm); (case k5W61 => k_asm); (case k6W61 => first | exact rfl | assumption); (case kfW61 => first | exact rfl | assumption); (case kNW61 => k_asm); (case kPW61 => k_extra "pick"); (case kDW61 => k_extra "nd"); (case q0W61 => k_extra "hyp"); (case kdW61 => ktr_room); (case kuW61 => ktr_units)); intro ocd' h' tk' o0' F' N' D'; (try dsimp only [List.cons_append, List.nil_append] at N' D'); (try k_sweep); (try dsimp only))
  k_with "call ref" => (k_here; (with_reducible show wpAny _ _ (call (Value.ref 929) _) _ _ _); k_dflt (refine' piece_S ?k1W62 ?k2W62 ?k3W62 ?kPW62 ?kDW62 ?kNW62 ?k5W62 ?k6W62 ?kfW62 ?khW62 ?kAW62 ?kdW62 ?kuW62 ?q0W62 ?q1W62 ?q2W62 ?q3W62 ?q4W62 ?_; (case kAW62 => exact rfl); (case khW62 => exact rfl); (case k1W62 => k_asm); (case k2W62 => k_asm); (case k3W62 => k_asm); (case k5W62 => k_asm); (case k6W62 => first | exact rfl | assumption); (case kfW62 => first | exact rfl | assumption); (case kNW62 => k_asm); (case kPW62 => k_extra "pick"); (case kDW62 => k_extra "nd"); (case q0W62 => k_extra "hyp"); (case q1W62 => k_extra "hyp"); (case q2W62 => k_extra "hyp"); (case q3W62 => k_extra "hyp"); (case q4W62 => k_extra "hyp"); (case kdW62 => ktr_room); (case kuW62 => ktr_units)); intro osd' tp' ta' tb' h' tk' o0' F' N' D'; (try dsimp only [List.cons_append, List.nil_append] at N' D'); (try k_sweep); (try dsimp only))
  k_with "call ref" => (k_here; (with_reducible show wpAny _ _ (call (Value.ref 929) _) _ _ _); k_dflt (refine' piece_O ?k1W63 ?k2W63 ?k3W63 ?kPW63 ?kDW63 ?kNW63 ?k5W63 ?k6W63 ?kfW63 ?khW63 ?kAW63 ?kdW63 ?kuW63 ?q0W63 ?q1W63 ?q2W63 ?q3W63 ?q4W63 ?q5W63 ?q6W63 ?q7W63 ?q8W63 ?q9W63 ?q10W63 ?q11W63 ?q12W63 ?q13W63 ?q14W63 ?q15W63 ?q16W63 ?_; (case kAW63 => exact rfl); (case khW63 => exact rfl); (case k1W63 => k_asm); (case k2W63 => k_asm); (case k3W63 => k_asm); (case k5W63 => k_asm); (case k6W63 => first | exact rfl | assumption); (case kfW63 => first | exact rfl | assumption); (case kNW63 => k_asm); (case kPW63 => k_extra "pick"); (case kDW63 => k_extra "nd"); (case q0W63 => k_extra "hyp"); (case q1W63 => k_extra "hyp"); (case q2W63 => k_extra "hyp"); (case q3W63 => k_extra "hyp"); (case q4W63 => k_extra "hyp"); (case q5W63 => k_extra "hyp"); (case q6W63 => k_extra "hyp"); (case q7W63 => k_extra "hyp"); (case q8W63 => k_extra "hyp"); (case q9W63 => k_extra "hyp"); (case q10W63 => k_extra "hyp"); (case q11W63 => k_extra "hyp"); (case q12W63 => k_extra "hyp"); (case q13W63 => k_extra "hyp"); (case q14W63 => k_extra "hyp"); (case q15W63 => k_extra "hyp"); (case q16W63 => k_extra "hyp"); (case kdW63 => ktr_room); (case kuW63 => ktr_units)); intro osd' tp' ys' ta' tb' h' tk' o0' o1' F' N' D'; (try dsimp only [List.cons_append, List.nil_append] at N' D'); (try k_sweep); (try dsimp only))
  k_with "call ref" => (k_here; (with_reducible show wpAny _ _ (call (Value.ref 1102) _) _ _ _); k_dflt (refine' make_N ?k1W64 ?k2W64 ?k3W64 ?kPW64 ?kDW64 ?kNW64 ?k5W64 ?k6W64 ?kfW64 ?khW64 ?kAW64 ?kdW64 ?kuW64 ?q0W64 ?q1W64 ?q2W64 ?q3W64 ?_; (case kAW64 => exact rfl); (case khW64 => exact rfl); (case k1W64 => k_asm); (case k2W64 => k_asm); (case k3W64 => k_asm); (case k5W64 => k_asm); (case k6W64 => first | exact rfl | assumption); (case kfW64 => first | exact rfl | assumption); (case kNW64 => k_asm); (case kPW64 => k_extra "pick"); (case kDW64 => k_extra "nd"); (case q0W64 => k_extra "hyp"); (case q1W64 => k_extra "hyp"); (case q2W64 => k_extra "hyp"); (case q3W64 => k_extra "hyp"); (case kdW64 => ktr_room); (case kuW64 => ktr_units)); intro sg' sgd' osg' opts' h' tk' o0' o1' F' N' D'; (try dsimp only [List.cons_append, List.nil_append] at N' D'); (try k_sweep); (try dsimp only))
  k_with "call ref" => (k_here; (with_reducible show wpAny _ _ (call (Value.ref 1102) _) _ _ _); k_dflt (refine' make_S ?k1W65 ?k2W65 ?k3W65 ?kPW65 ?kDW65 ?kNW65 ?k5W65 ?k6W65 ?kfW65 ?khW65 ?kAW65 ?kdW65 ?kuW65 ?q0W65 ?q1W65 ?q2W65 ?q3W65 ?q4W65 ?q5W65 ?q6W65 ?q7W65 ?q8W65 ?q9W65 ?q10W65 ?q11W65 ?_; (case kAW65 => exact rfl); (case khW65 => exact rfl); (case k1W65 => k_asm); (case k2W65 => k_asm); (case k3W65 => k_asm); (case k5W65 => k_asm); (case k6W65 => first | exact rfl | assumption); (case kfW65 => first | exact rfl | assumption); (case kNW65 => k_asm); (case q7W65 => k_extra "hyp"); (case kPW65 => k_extra "pick"); (case kDW65 => k_extra "nd"); (case q0W65 => k_extra "hyp"); (case q1W65 => k_extra "hyp"); (case q2W65 => k_extra "hyp"); (case q3W65 => k_extra "hyp"); (case q4W65 => k_extra "hyp"); (case q5W65 => k_extra "hyp"); (case q6W65 => k_extra "hyp"); (case q8W65 => k_extra "hyp"); (case q9W65 => k_extra "hyp"); (case q10W65 => k_extra "hyp"); (case q11W65 => k_extra "hyp"); (case kdW65 => ktr_room); (case kuW65 => ktr_units)); intro oad' wt' oen' ol4' sg' sgd' osg' opts' h' tk' o0' o1' o2' o3' F' N' D'; (try dsimp only [List.cons_append, List.nil_append] at N' D'); (try k_sweep); (try dsimp only))
  k_with "call ref" => (k_here; (with_reducible show wpAny _ _ (call (Value.ref 1102) _) _ _ _); k_dflt (refine' make_O ?k1W66 ?k2W66 ?k3W66 ?kPW66 ?kDW66 ?kNW66 ?k5W66 ?k6W66 ?kfW66 ?khW66 ?kAW66 ?kdW66 ?kuW66 ?q0W66 ?q1W66 ?q2W66 ?q3W66 ?q4W66 ?q5W66 ?q6W66 ?q7W66 ?q8W66 ?q9W66 ?q10W66 ?q11W66 ?q12W66 ?q13W66 ?_; (case kAW66 => exact rfl); (case khW66 => exact rfl); (case k1W66 => k_asm); (case k2W66 => k_asm); (case k3W66 => k_asm); (case k5W66 => k_asm); (case k6W66 => first | exact rfl | assumption); (case kfW66 => first | exact rfl | assumption); (case kNW66 => k_asm); (case q7W66 => k_extra "hyp"); (case kPW66 => k_extra "pick"); (case kDW66 => k_extra "nd"); (case q0W66 => k_extra "hyp"); (case q1W66 => k_extra "hyp"); (case q2W66 => k_extra "hyp"); (case q3W66 => k_extra "hyp"); (case q4W66 => k_extra "hyp"); (case q5W66 => k_extra "hyp"); (case q6W66 => k_extra "hyp"); (case q8W66 => k_extra "hyp"); (case q9W66 => k_extra "hyp"); (case q10W66 => k_extra "hyp"); (case q11W66 => k_extra "hyp"); (case q12W66 => first | with_reducible assumption | decide +kernel); (case q13W66 => first | with_reducible assumption | decide +kernel); (case kdW66 => ktr_room); (case kuW66 => ktr_units)); intro oad' wt' oen' ol4' sg' sgd' osg' h' tk' o0' o1' o2' F' N' D'; (try dsimp only [List.cons_append, List.nil_append] at N' D'); (try k_sweep); (try dsimp only))
  trivial
section
variable {all rest : List (Addr × Obj)} {w : World} {mean : ExcName → Option Value} {mg mb : Str → Option Value} {A : Around} {env : Env} {outer : List Env} {A₀ : Around} {base h₀ : Heap} {L : Addr} {m : Str → Option Value} {s : Shared} {Q E : Value → Shared → Prop}
theorem again_N {x dx lim limd lo re s' sd q c cd a wh : Addr} {odx olim osd ocd : Obj} {ring mss iss next gr k fo : Int} {te : Value} {fa fs : Bool} {p0 p1 p2 p3 : Tok}
    (B : Below A₀ base outer h₀) (F : Fr h₀ L s.heap m) (X : (hd.heap_1 w.params).In h₀) (P9 : Pick [(x, instObj 1105 dx), (dx, odx), (lim, instObj 1062 limd), (limd, olim), (lo, ({ cls := .type "tuple", data := .seq #[.int 1 p0, .int 80 p1] } : Obj)), (re, ({ cls := .type "tuple", data := .seq #[.int 2 p2, .int 90 p3] } : Obj)), (s', instObj 974 sd), (sd, osd), (c, instObj 629 cd), (cd, ocd)] all rest) (D9 : ND all) (N9 : News h₀ L s.heap all) (T : Top vu LOOSE mean mg mb h₀) (hk : env.scope.kind = .function) (hf : env.frame = some L) (hh : A.handled = none) (hA : A.frames = some (env :: outer)) (hd9 : A.depth + 28 < recursionLimit) (hu9 : A.units + 300 < cLine)
    (q0 : TcbD lim lo re s' .none c a wh odx) (q1 : LimD ring mss olim) (m1 : 1 ≤ mss) (m2 : mss ≤ 6) (r0 : 64 ≤ ring) (q2 : SenD iss ring mss iss next gr q true fa fs osd) (q3 : ClkD te ocd) (e0 : Int.fmod (gr - iss) ring = 1) (k0 : Int.fmod (next - iss) ring = k) (f0 : (if k < 1 then Int.fmod (iss + 1) ring else next) = fo)
    (hret : ∀ (osd' ocd' : Obj) (sg sgd : Addr) (osg : Obj) (opts : Array UInt8) (h' : Heap) (tk' : Nat), SenD iss ring mss iss fo gr q true fa fs osd' → ClkD .none ocd' → SegD iss 0 2 opts #[] osg → KBw.bInts opts = [2, 4, 0, mss] → Fr h₀ L h' m → News h₀ L h' ([(x, instObj 1105 dx), (dx, odx), (lim, instObj 1062 limd), (limd, olim), (lo, ({ cls := .type "tuple", data := .seq #[.int 1 p0, .int 80 p1] } : Obj)), (re, ({ cls := .type "tuple", data := .seq #[.int 2 p2, .int 90 p3] } : Obj)), (s', instObj 974 sd), (sd, osd'), (c, instObj 629 cd), (cd, ocd'), (sg, instObj 111 sgd), (sgd, osg)] ++ rest) → ND ([(x, instObj 1105 dx), (dx, odx), (lim, instObj 1062 limd), (limd, olim), (lo, ({ cls := .type "tuple", data := .seq #[.int 1 p0, .int 80 p1] } : Obj)), (re, ({ cls := .type "tuple", data := .seq #[.int 2 p2, .int 90 p3] } : Obj)), (s', instObj 974 sd), (sd, osd'), (c, instObj 629 cd), (cd, ocd'), (sg, instObj 111 sgd), (sgd, osg)] ++ rest) → Q (.ref sg) { s with heap := h', toks := tk' }) :
    wpAny (model PySem.Challenge.rw_xw0345_01.prog w) A (call (.ref 143) [.ref x]) Q E s := by
  obtain ⟨hd0, dp, fr0, gd, un⟩ := A
  dsimp only at hh hA hd9 hu9
  subst hh hA
  revert X; k_fill; intro X
  have N := P9.news N9
  have D := P9.nd D9
  refine wpAny_call ?_
  walk_at "A enter"
  rename (∀ (b : Addr) (o : Obj), _ → ¬ _ → _) => kp
  k_steps
  show LeaveP _ _ _ _ _ _ _
  refine leaveP_ (by k_asm) (by k_asm) ?_
  intro F0 N0 fr0 kp0
  refine' P9.leave2 (S' := [(x, instObj 1105 dx), (dx, odx), (lim, instObj 1062 limd), (limd, olim), (lo, ({ cls := .type "tuple", data := .seq #[.int 1 p0, .int 80 p1] } : Obj)), (re, ({ cls := .type "tuple", data := .seq #[.int 2 p2, .int 90 p3] } : Obj)), (s', instObj 974 sd), (sd, _), (c, instObj 629 cd), (cd, _), (_, instObj 111 _), (_, _)]) D9 N9 F0 N0 fr0 kp kp0 ?lP ?lD (hret _ _ _ _ _ _ _ _ ?p0 ?p1 ?p2 ?p3)
  case lP => walk_at "pick"
  case lD => walk_at "nd"
  case p0 => walk_at "post"
  case p1 => walk_at "post"
  case p2 => walk_at "post"
  case p3 => walk_at "post"
end
-- N16s

section
variable {all rest : List (Addr × Obj)} {w : World} {mean : ExcName → Option Value} {mg mb : Str → Option Value} {A : Around} {env : Env} {outer : List Env} {A₀ : Around} {base h₀ : Heap} {L : Addr} {m : Str → Option Value} {s : Shared} {Q E : Value → Shared → Prop}
theorem again_S {x dx lim limd lo re s' sd q c cd r rd ra a ad w' wd en lt l4 sl tp : Addr} {odx olim ord oad owd oen osd ocd : Obj} {ring mss iss next gr gn k fo : Int} {wt hg du te : Value} {ys : List Value} {fa fs : Bool} {p0 p1 p2 p3 u9 ta tb : Tok}
    (B : Below A₀ base outer h₀) (F : Fr h₀ L s.heap m) (X : (hd.heap_1 w.params).In h₀) (P9 : Pick [(x, instObj 1105 dx), (dx, odx), (lim, instObj 1062 limd), (limd, olim), (lo, ({ cls := .type "tuple", data := .seq #[.int 1 p0, .int 80 p1] } : Obj)), (re, ({ cls := .type "tuple", data := .seq #[.int 2 p2, .int 90 p3] } : Obj)), (r, instObj 404 rd), (rd, ord), (ra, baObj), (a, instObj 461 ad), (ad, oad), (w', instObj 1041 wd), (wd, owd), (en, oen), (lt, W.listOf [].toArray 0), (l4, W.listOf (#[].push (.int 3 u9)) (0 + 1)), (sl, W.listOf (List.toArray ys) (List.length ys)), (tp, ({ cls := .type "tuple", data := .seq #[.int 4 ta, .int (0 + 1) tb] } : Obj)), (s', instObj 974 sd), (sd, osd), (c, instObj 629 cd), (cd, ocd)] all rest) (D9 : ND all) (N9 : News h₀ L s.heap all) (T : Top vu LOOSE mean mg mb h₀) (hk : env.scope.kind = .function) (hf : env.frame = some L) (hh : A.handled = none) (hA : A.frames = some (env :: outer)) (hd9 : A.depth + 32 < recursionLimit) (hu9 : A.units + 340 < cLine)
    (q0 : TcbD lim lo re s' (.ref r) c a w' odx) (q1 : LimD ring mss olim) (m1 : 1 ≤ mss) (m2 : mss ≤ 6) (r0 : 64 ≤ ring) (hq2 : RecD ring mss 32 44 ra ord) (hq3 : AckD wt hg du oad) (hq4 : WhlD sl lt en gn owd) (hy1 : ys.length = 16) (hy2 : ys[4]? = some (.ref l4)) (hy3 : oen.IsDictOf (intKind PySem.Challenge.rw_xw0345_01.prog w) [(3, .ref tp)]) (hy4 : (en == sysModules) = false) (q2 : SenD iss ring mss iss next gr q true fa fs osd) (q3 : ClkD te ocd) (e0 : Int.fmod (gr - iss) ring = 1) (k0 : Int.fmod (next - iss) ring = k) (f0 : (if k < 1 then Int.fmod (iss + 1) ring else next) = fo)
    (hret : ∀ (oad' : Obj) (wt' : Value) (oen' ol4 : Obj) (osd' ocd' : Obj) (sg sgd : Addr) (osg : Obj) (opts : Array UInt8) (h' : Heap) (tk' : Nat), AckD wt' hg .none oad' → oen'.IsDictOf (intKind PySem.Challenge.rw_xw0345_01.prog w) [] → SenD iss ring mss iss fo gr q true fa fs osd' → ClkD .none ocd' → SegD iss 32 18 opts #[] osg → KBw.bInts opts = [2, 4, 0, mss] → Fr h₀ L h' m → News h₀ L h' ([(x, instObj 1105 dx), (dx, odx), (lim, instObj 1062 limd), (limd, olim), (lo, ({ cls := .type "tuple", data := .seq #[.int 1 p0, .int 80 p1] } : Obj)), (re, ({ cls := .type "tuple", data := .seq #[.int 2 p2, .int 90 p3] } : Obj)), (r, instObj 404 rd), (rd, ord), (ra, baObj), (a, instObj 461 ad), (ad, oad'), (w', instObj 1041 wd), (wd, owd), (en, oen'), (lt, W.listOf [].toArray 0), (l4, ol4), (sl, W.listOf (List.toArray ys) (List.length ys)), (s', instObj 974 sd), (sd, osd'), (c, instObj 629 cd), (cd, ocd'), (sg, instObj 111 sgd), (sgd, osg)] ++ rest) → ND ([(x, instObj 1105 dx), (dx, odx), (lim, instObj 1062 limd), (limd, olim), (lo, ({ cls := .type "tuple", data := .seq #[.int 1 p0, .int 80 p1] } : Obj)), (re, ({ cls := .type "tuple", data := .seq #[.int 2 p2, .int 90 p3] } : Obj)), (r, instObj 404 rd), (rd, ord), (ra, baObj), (a, instObj 461 ad), (ad, oad'), (w', instObj 1041 wd), (wd, owd), (en, oen'), (lt, W.listOf [].toArray 0), (l4, ol4), (sl, W.listOf (List.toArray ys) (List.length ys)), (s', instObj 974 sd), (sd, osd'), (c, instObj 629 cd), (cd, ocd'), (sg, instObj 111 sgd), (sgd, osg)] ++ rest) → Q (.ref sg) { s with heap := h', toks := tk' }) :
    wpAny (model PySem.Challenge.rw_xw0345_01.prog w) A (call (.ref 143) [.ref x]) Q E s := by
  obtain ⟨hd0, dp, fr0, gd, un⟩ := A
  dsimp only at hh hA hd9 hu9
  subst hh hA
  revert X; k_fill; intro X
  have N := P9.news N9
  have D := P9.nd D9
  refine wpAny_call ?_
  walk_at "A enter"
  rename (∀ (b : Addr) (o : Obj), _ → ¬ _ → _) => kp
  k_steps
  show LeaveP _ _ _ _ _ _ _
  refine leaveP_ (by k_asm) (by k_asm) ?_
  intro F0 N0 fr0 kp0
  refine' P9.leave2 (S' := [(x, instObj 1105 dx), (dx, odx), (lim, instObj 1062 limd), (limd, olim), (lo, ({ cls := .type "tuple", data := .seq #[.int 1 p0, .int 80 p1] } : Obj)), (re, ({ cls := .type "tuple", data := .seq #[.int 2 p2, .int 90 p3] } : Obj)), (r, instObj 404 rd), (rd, ord), (ra, baObj), (a, instObj 461 ad), (ad, _), (w', instObj 1041 wd), (wd, owd), (en, _), (lt, W.listOf [].toArray 0), (l4, _), (sl, W.listOf (List.toArray ys) (List.length ys)), (s', instObj 974 sd), (sd, _), (c, instObj 629 cd), (cd, _), (_, instObj 111 _), (_, _)]) D9 N9 F0 N0 fr0 kp kp0 ?lP ?lD (hret _ _ _ _ _ _ _ _ _ _ _ _ ?p0 ?p1 ?p2 ?p3 ?p4 ?p5)
  case lP => walk_at "pick"
  case lD => walk_at "nd"
  case p0 => walk_at "post"
  case p1 => walk_at "post"
  case p2 => walk_at "post"
  case p3 => walk_at "post"
  case p4 => walk_at "post"
  case p5 => walk_at "post"
end
-- N17

section
variable {all rest : List (Addr × Obj)} {w : World} {mean : ExcName → Option Value} {mg mb : Str → Option Value} {A : Around} {env : Env} {outer : List Env} {A₀ : Around} {base h₀ : Heap} {L : Addr} {m : Str → Option Value} {s : Shared} {Q E : Value → Shared → Prop}
theorem again_24 {x dx lim limd lo re s' sd q qd c cd r rd ra a ad w' wd en lt l4 sl tp : Addr} {odx olim ord oad owd oen osd ocd oqd : Obj} {iss ring mss una next gr gn k p fo whole sz : Int} {xs : Array UInt8} {ks : List Int} {wt hg du te : Value} {ys : List Value} {fa fs : Bool} {p0 p1 p2 p3 u9 ta tb : Tok}
    (B : Below A₀ base outer h₀) (F : Fr h₀ L s.heap m) (X : (hd.heap_1 w.params).In h₀) (P9 : Pick [(x, instObj 1105 dx), (dx, odx), (lim, instObj 1062 limd), (limd, olim), (lo, ({ cls := .type "tuple", data := .seq #[.int 1 p0, .int 80 p1] } : Obj)), (re, ({ cls := .type "tuple", data := .seq #[.int 2 p2, .int 90 p3] } : Obj)), (r, instObj 404 rd), (rd, ord), (ra, baObj), (a, instObj 461 ad), (ad, oad), (w', instObj 1041 wd), (wd, owd), (en, oen), (lt, W.listOf [].toArray 0), (l4, W.listOf (#[].push (.int 3 u9)) (0 + 1)), (sl, W.listOf (List.toArray ys) (List.length ys)), (tp, ({ cls := .type "tuple", data := .seq #[.int 4 ta, .int (0 + 1) tb] } : Obj)), (s', instObj 974 sd), (sd, osd), (c, instObj 629 cd), (cd, ocd), (q, instObj 741 qd), (qd, oqd)] all rest) (D9 : ND all) (N9 : News h₀ L s.heap all) (T : Top vu LOOSE mean mg mb h₀) (hk : env.scope.kind = .function) (hf : env.frame = some L) (hh : A.handled = none) (hA : A.frames = some (env :: outer)) (hd9 : A.depth + 36 < recursionLimit) (hu9 : A.units + 400 < cLine)
    (q0 : TcbD lim lo re s' (.ref r) c a w' odx) (q1 : LimD ring mss olim) (m1 : 1 ≤ mss) (m2 : mss ≤ 6) (r0 : 64 ≤ ring) (hq2 : RecD ring mss 32 44 ra ord) (hq3 : AckD wt hg du oad) (hq4 : WhlD sl lt en gn owd) (hy1 : ys.length = 16) (hy2 : ys[4]? = some (.ref l4)) (hy3 : oen.IsDictOf (intKind PySem.Challenge.rw_xw0345_01.prog w) [(3, .ref tp)]) (hy4 : (en == sysModules) = false) (q3 : ClkD te ocd) (zq0 : SenD iss ring mss una next gr q false fa fs osd) (zq1 : QueD xs oqd) (zhx : KBw.bInts xs = ks) (zhx4 : ks.length ≤ 40) (ze0 : Int.fmod (gr - una) ring = whole) (zw1 : 1 ≤ whole) (zs0 : 0 ≤ sz) (zs1 : sz ≤ mss) (zs2 : sz ≤ ks.length) (zs3 : sz ≤ whole) (zs4 : sz = mss ∨ sz = ks.length ∨ sz = whole) (zb0 : false = (fs && decide (sz = ks.length) && decide (sz < whole))) (zk0 : Int.fmod (next - una) ring = k) (zf0 : (if k < p then Int.fmod (una + p) ring else next) = fo) (zpp0 : p = sz + if false then 1 else 0)
    (hret : ∀ (oad' : Obj) (wt' : Value) (oen' ol4 : Obj) (osd' ocd' : Obj) (sg sgd : Addr) (osg : Obj) (pay : Array UInt8) (h' : Heap) (tk' : Nat), AckD wt' hg .none oad' → oen'.IsDictOf (intKind PySem.Challenge.rw_xw0345_01.prog w) [] → SenD iss ring mss una fo gr q false fa fs osd' → ClkD .none ocd' → SegD una 32 24 #[] pay osg → KBw.bInts pay = ks.take sz.toNat → Fr h₀ L h' m → News h₀ L h' ([(x, instObj 1105 dx), (dx, odx), (lim, instObj 1062 limd), (limd, olim), (lo, ({ cls := .type "tuple", data := .seq #[.int 1 p0, .int 80 p1] } : Obj)), (re, ({ cls := .type "tuple", data := .seq #[.int 2 p2, .int 90 p3] } : Obj)), (r, instObj 404 rd), (rd, ord), (ra, baObj), (a, instObj 461 ad), (ad, oad'), (w', instObj 1041 wd), (wd, owd), (en, oen'), (lt, W.listOf [].toArray 0), (l4, ol4), (sl, W.listOf (List.toArray ys) (List.length ys)), (s', instObj 974 sd), (sd, osd'), (c, instObj 629 cd), (cd, ocd'), (q, instObj 741 qd), (qd, oqd), (sg, instObj 111 sgd), (sgd, osg)] ++ rest) → ND ([(x, instObj 1105 dx), (dx, odx), (lim, instObj 1062 limd), (limd, olim), (lo, ({ cls := .type "tuple", data := .seq #[.int 1 p0, .int 80 p1] } : Obj)), (re, ({ cls := .type "tuple", data := .seq #[.int 2 p2, .int 90 p3] } : Obj)), (r, instObj 404 rd), (rd, ord), (ra, baObj), (a, instObj 461 ad), (ad, oad'), (w', instObj 1041 wd), (wd, owd), (en, oen'), (lt, W.listOf [].toArray 0), (l4, ol4), (sl, W.listOf (List.toArray ys) (List.length ys)), (s', instObj 974 sd), (sd, osd'), (c, instObj 629 cd), (cd, ocd'), (q, instObj 741 qd), (qd, oqd), (sg, instObj 111 sgd), (sgd, osg)] ++ rest) → Q (.ref sg) { s with heap := h', toks := tk' }) :
    wpAny (model PySem.Challenge.rw_xw0345_01.prog w) A (call (.ref 143) [.ref x]) Q E s := by
  obtain ⟨hd0, dp, fr0, gd, un⟩ := A
  dsimp only at hh hA hd9 hu9
  subst hh hA
  revert X; k_fill; intro X
  have N := P9.news N9
  have D := P9.nd D9
  refine wpAny_call ?_
  walk_at "A enter"
  rename (∀ (b : Addr) (o : Obj), _ → ¬ _ → _) => kp
  k_steps
  have b9 : Builtin.bitOr 16 8 = 24 := by decide +kernel
  rename SegD _ _ _ _ _ _ => sg9
  rw [b9] at sg9
  show LeaveP _ _ _ _ _ _ _
  refine leaveP_ (by k_asm) (by k_asm) ?_
  intro F0 N0 fr0 kp0
  refine' P9.leave2 (S' := [(x, instObj 1105 dx), (dx, odx), (lim, instObj 1062 limd), (limd, olim), (lo, ({ cls := .type "tuple", data := .seq #[.int 1 p0, .int 80 p1] } : Obj)), (re, ({ cls := .type "tuple", data := .seq #[.int 2 p2, .int 90 p3] } : Obj)), (r, instObj 404 rd), (rd, ord), (ra, baObj), (a, instObj 461 ad), (ad, _), (w', instObj 1041 wd), (wd, owd), (en, _), (lt, W.listOf [].toArray 0), (l4, _), (sl, W.listOf (List.toArray ys) (List.length ys)), (s', instObj 974 sd), (sd, _), (c, instObj 629 cd), (cd, _), (q, instObj 741 qd), (qd, oqd), (_, instObj 111 _), (_, _)]) D9 N9 F0 N0 fr0 kp kp0 ?lP ?lD (hret _ _ _ _ _ _ _ _ _ _ _ _ ?p0 ?p1 ?p2 ?p3 ?p4 ?p5)
  case lP => walk_at "pick"
  case lD => walk_at "nd"
  case p0 => walk_at "post"
  case p1 => walk_at "post"
  case p2 => walk_at "post"
  case p3 => walk_at "post"
  case p4 => walk_at "post"
  case p5 => walk_at "post"
end
-- N17b

section
variable {all rest : List (Addr × Obj)} {w : World} {mean : ExcName → Option Value} {mg mb : Str → Option Value} {A : Around} {env : Env} {outer : List Env} {A₀ : Around} {base h₀ : Heap} {L : Addr} {m : Str → Option Value} {s : Shared} {Q E : Value → Shared → Prop}
theorem again_25 {x dx lim limd lo re s' sd q qd c cd r rd ra a ad w' wd en lt l4 sl tp : Addr} {odx olim ord oad owd oen osd ocd oqd : Obj} {iss ring mss una next gr gn k p fo whole sz : Int} {xs : Array UInt8} {ks : List Int} {wt hg du te : Value} {ys : List Value} {fa fs : Bool} {p0 p1 p2 p3 u9 ta tb : Tok}
    (B : Below A₀ base outer h₀) (F : Fr h₀ L s.heap m) (X : (hd.heap_1 w.params).In h₀) (P9 : Pick [(x, instObj 1105 dx), (dx, odx), (lim, instObj 1062 limd), (limd, olim), (lo, ({ cls := .type "tuple", data := .seq #[.int 1 p0, .int 80 p1] } : Obj)), (re, ({ cls := .type "tuple", data := .seq #[.int 2 p2, .int 90 p3] } : Obj)), (r, instObj 404 rd), (rd, ord), (ra, baObj), (a, instObj 461 ad), (ad, oad), (w', instObj 1041 wd), (wd, owd), (en, oen), (lt, W.listOf [].toArray 0), (l4, W.listOf (#[].push (.int 3 u9)) (0 + 1)), (sl, W.listOf (List.toArray ys) (List.length ys)), (tp, ({ cls := .type "tuple", data := .seq #[.int 4 ta, .int (0 + 1) tb] } : Obj)), (s', instObj 974 sd), (sd, osd), (c, instObj 629 cd), (cd, ocd), (q, instObj 741 qd), (qd, oqd)] all rest) (D9 : ND all) (N9 : News h₀ L s.heap all) (T : Top vu LOOSE mean mg mb h₀) (hk : env.scope.kind = .function) (hf : env.frame = some L) (hh : A.handled = none) (hA : A.frames = some (env :: outer)) (hd9 : A.depth + 36 < recursionLimit) (hu9 : A.units + 400 < cLine)
    (q0 : TcbD lim lo re s' (.ref r) c a w' odx) (q1 : LimD ring mss olim) (m1 : 1 ≤ mss) (m2 : mss ≤ 6) (r0 : 64 ≤ ring) (hq2 : RecD ring mss 32 44 ra ord) (hq3 : AckD wt hg du oad) (hq4 : WhlD sl lt en gn owd) (hy1 : ys.length = 16) (hy2 : ys[4]? = some (.ref l4)) (hy3 : oen.IsDictOf (intKind PySem.Challenge.rw_xw0345_01.prog w) [(3, .ref tp)]) (hy4 : (en == sysModules) = false) (q3 : ClkD te ocd) (zq0 : SenD iss ring mss una next gr q false fa fs osd) (zq1 : QueD xs oqd) (zhx : KBw.bInts xs = ks) (zhx4 : ks.length ≤ 40) (ze0 : Int.fmod (gr - una) ring = whole) (zw1 : 1 ≤ whole) (zs0 : 0 ≤ sz) (zs1 : sz ≤ mss) (zs2 : sz ≤ ks.length) (zs3 : sz ≤ whole) (zs4 : sz = mss ∨ sz = ks.length ∨ sz = whole) (zb0 : true = (fs && decide (sz = ks.length) && decide (sz < whole))) (zk0 : Int.fmod (next - una) ring = k) (zf0 : (if k < p then Int.fmod (una + p) ring else next) = fo) (zpp0 : p = sz + if true then 1 else 0)
    (hret : ∀ (oad' : Obj) (wt' : Value) (oen' ol4 : Obj) (osd' ocd' : Obj) (sg sgd : Addr) (osg : Obj) (pay : Array UInt8) (h' : Heap) (tk' : Nat), AckD wt' hg .none oad' → oen'.IsDictOf (intKind PySem.Challenge.rw_xw0345_01.prog w) [] → SenD iss ring mss una fo gr q false fa fs osd' → ClkD .none ocd' → SegD una 32 25 #[] pay osg → KBw.bInts pay = ks.take sz.toNat → Fr h₀ L h' m → News h₀ L h' ([(x, instObj 1105 dx), (dx, odx), (lim, instObj 1062 limd), (limd, olim), (lo, ({ cls := .type "tuple", data := .seq #[.int 1 p0, .int 80 p1] } : Obj)), (re, ({ cls := .type "tuple", data := .seq #[.int 2 p2, .int 90 p3] } : Obj)), (r, instObj 404 rd), (rd, ord), (ra, baObj), (a, instObj 461 ad), (ad, oad'), (w', instObj 1041 wd), (wd, owd), (en, oen'), (lt, W.listOf [].toArray 0), (l4, ol4), (sl, W.listOf (List.toArray ys) (List.length ys)), (s', instObj 974 sd), (sd, osd'), (c, instObj 629 cd), (cd, ocd'), (q, instObj 741 qd), (qd, oqd), (sg, instObj 111 sgd), (sgd, osg)] ++ rest) → ND ([(x, instObj 1105 dx), (dx, odx), (lim, instObj 1062 limd), (limd, olim), (lo, ({ cls := .type "tuple", data := .seq #[.int 1 p0, .int 80 p1] } : Obj)), (re, ({ cls := .type "tuple", data := .seq #[.int 2 p2, .int 90 p3] } : Obj)), (r, instObj 404 rd), (rd, ord), (ra, baObj), (a, instObj 461 ad), (ad, oad'), (w', instObj 1041 wd), (wd, owd), (en, oen'), (lt, W.listOf [].toArray 0), (l4, ol4), (sl, W.listOf (List.toArray ys) (List.length ys)), (s', instObj 974 sd), (sd, osd'), (c, instObj 629 cd), (cd, ocd'), (q, instObj 741 qd), (qd, oqd), (sg, instObj 111 sgd), (sgd, osg)] ++ rest) → Q (.ref sg) { s with heap := h', toks := tk' }) :
    wpAny (model PySem.Challenge.rw_xw0345_01.prog w) A (call (.ref 143) [.ref x]) Q E s := by
  obtain ⟨hd0, dp, fr0, gd, un⟩ := A
  dsimp only at hh hA hd9 hu9
  subst hh hA
  revert X; k_fill; intro X
  have N := P9.news N9
  have D := P9.nd D9
  refine wpAny_call ?_
  walk_at "A enter"
  rename (∀ (b : Addr) (o : Obj), _ → ¬ _ → _) => kp
  k_steps
  have b9 : Builtin.bitOr (Builtin.bitOr 16 8) 1 = 25 := by decide +kernel
  rename SegD _ _ _ _ _ _ => sg9
  rw [b9] at sg9
  show LeaveP _ _ _ _ _ _ _
  refine leaveP_ (by k_asm) (by k_asm) ?_
  intro F0 N0 fr0 kp0
  refine' P9.leave2 (S' := [(x, instObj 1105 dx), (dx, odx), (lim, instObj 1062 limd), (limd, olim), (lo, ({ cls := .type "tuple", data := .seq #[.int 1 p0, .int 80 p1] } : Obj)), (re, ({ cls := .type "tuple", data := .seq #[.int 2 p2, .int 90 p3] } : Obj)), (r, instObj 404 rd), (rd, ord), (ra, baObj), (a, instObj 461 ad), (ad, _), (w', instObj 1041 wd), (wd, owd), (en, _), (lt, W.listOf [].toArray 0), (l4, _), (sl, W.listOf (List.toArray ys) (List.length ys)), (s', instObj 974 sd), (sd, _), (c, instObj 629 cd), (cd, _), (q, instObj 741 qd), (qd, oqd), (_, instObj 111 _), (_, _)]) D9 N9 F0 N0 fr0 kp kp0 ?lP ?lD (hret _ _ _ _ _ _ _ _ _ _ _ _ ?p0 ?p1 ?p2 ?p3 ?p4 ?p5)
  case lP => walk_at "pick"
  case lD => walk_at "nd"
  case p0 => walk_at "post"
  case p1 => walk_at "post"
  case p2 => walk_at "post"
  case p3 => walk_at "post"
  case p4 => walk_at "post"
  case p5 => walk_at "post"
end
-- N17c

section
variable {all rest : List (Addr × Obj)} {w : World} {mean : ExcName → Option Value} {mg mb : Str → Option Value} {A : Around} {env : Env} {outer : List Env} {A₀ : Around} {base h₀ : Heap} {L : Addr} {m : Str → Option Value} {s : Shared} {Q E : Value → Shared → Prop}
theorem again_O {x dx lim limd lo re s' sd q qd c cd r rd ra a ad w' wd en lt l4 sl tp : Addr} {odx olim ord oad owd oen osd ocd oqd : Obj} {iss ring mss una next gr gn k p fo whole sz : Int} {xs : Array UInt8} {ks : List Int} {wt hg du te : Value} {ys : List Value} {fa fs : Bool} {p0 p1 p2 p3 u9 ta tb : Tok} {fl : Int} {hn : Bool}
    (B : Below A₀ base outer h₀) (F : Fr h₀ L s.heap m) (X : (hd.heap_1 w.params).In h₀) (P9 : Pick [(x, instObj 1105 dx), (dx, odx), (lim, instObj 1062 limd), (limd, olim), (lo, ({ cls := .type "tuple", data := .seq #[.int 1 p0, .int 80 p1] } : Obj)), (re, ({ cls := .type "tuple", data := .seq #[.int 2 p2, .int 90 p3] } : Obj)), (r, instObj 404 rd), (rd, ord), (ra, baObj), (a, instObj 461 ad), (ad, oad), (w', instObj 1041 wd), (wd, owd), (en, oen), (lt, W.listOf [].toArray 0), (l4, W.listOf (#[].push (.int 3 u9)) (0 + 1)), (sl, W.listOf (List.toArray ys) (List.length ys)), (tp, ({ cls := .type "tuple", data := .seq #[.int 4 ta, .int (0 + 1) tb] } : Obj)), (s', instObj 974 sd), (sd, osd), (c, instObj 629 cd), (cd, ocd), (q, instObj 741 qd), (qd, oqd)] all rest) (D9 : ND all) (N9 : News h₀ L s.heap all) (T : Top vu LOOSE mean mg mb h₀) (hk : env.scope.kind = .function) (hf : env.frame = some L) (hh : A.handled = none) (hA : A.frames = some (env :: outer)) (hd9 : A.depth + 36 < recursionLimit) (hu9 : A.units + 400 < cLine)
    (q0 : TcbD lim lo re s' (.ref r) c a w' odx) (q1 : LimD ring mss olim) (m1 : 1 ≤ mss) (m2 : mss ≤ 6) (r0 : 64 ≤ ring) (hq2 : RecD ring mss 32 44 ra ord) (hq3 : AckD wt hg du oad) (hq4 : WhlD sl lt en gn owd) (hy1 : ys.length = 16) (hy2 : ys[4]? = some (.ref l4)) (hy3 : oen.IsDictOf (intKind PySem.Challenge.rw_xw0345_01.prog w) [(3, .ref tp)]) (hy4 : (en == sysModules) = false) (q3 : ClkD te ocd) (zq0 : SenD iss ring mss una next gr q false fa fs osd) (zq1 : QueD xs oqd) (zhx : KBw.bInts xs = ks) (zhx4 : ks.length ≤ 40) (ze0 : Int.fmod (gr - una) ring = whole) (zw1 : 1 ≤ whole) (zs0 : 0 ≤ sz) (zs1 : sz ≤ mss) (zs2 : sz ≤ ks.length) (zs3 : sz ≤ whole) (zs4 : sz = mss ∨ sz = ks.length ∨ sz = whole) (zb0 : hn = (fs && decide (sz = ks.length) && decide (sz < whole))) (zk0 : Int.fmod (next - una) ring = k) (zf0 : (if k < p then Int.fmod (una + p) ring else next) = fo) (zpp0 : p = sz + if hn then 1 else 0) (hfl : (fl = 24 ∧ hn = false) ∨ (fl = 25 ∧ hn = true))
    (hret : ∀ (oad' : Obj) (wt' : Value) (oen' ol4 : Obj) (osd' ocd' : Obj) (sg sgd : Addr) (osg : Obj) (pay : Array UInt8) (h' : Heap) (tk' : Nat), AckD wt' hg .none oad' → oen'.IsDictOf (intKind PySem.Challenge.rw_xw0345_01.prog w) [] → SenD iss ring mss una fo gr q false fa fs osd' → ClkD .none ocd' → SegD una 32 fl #[] pay osg → KBw.bInts pay = ks.take sz.toNat → Fr h₀ L h' m → News h₀ L h' ([(x, instObj 1105 dx), (dx, odx), (lim, instObj 1062 limd), (limd, olim), (lo, ({ cls := .type "tuple", data := .seq #[.int 1 p0, .int 80 p1] } : Obj)), (re, ({ cls := .type "tuple", data := .seq #[.int 2 p2, .int 90 p3] } : Obj)), (r, instObj 404 rd), (rd, ord), (ra, baObj), (a, instObj 461 ad), (ad, oad'), (w', instObj 1041 wd), (wd, owd), (en, oen'), (lt, W.listOf [].toArray 0), (l4, ol4), (sl, W.listOf (List.toArray ys) (List.length ys)), (s', instObj 974 sd), (sd, osd'), (c, instObj 629 cd), (cd, ocd'), (q, instObj 741 qd), (qd, oqd), (sg, instObj 111 sgd), (sgd, osg)] ++ rest) → ND ([(x, instObj 1105 dx), (dx, odx), (lim, instObj 1062 limd), (limd, olim), (lo, ({ cls := .type "tuple", data := .seq #[.int 1 p0, .int 80 p1] } : Obj)), (re, ({ cls := .type "tuple", data := .seq #[.int 2 p2, .int 90 p3] } : Obj)), (r, instObj 404 rd), (rd, ord), (ra, baObj), (a, instObj 461 ad), (ad, oad'), (w', instObj 1041 wd), (wd, owd), (en, oen'), (lt, W.listOf [].toArray 0), (l4, ol4), (sl, W.listOf (List.toArray ys) (List.length ys)), (s', instObj 974 sd), (sd, osd'), (c, instObj 629 cd), (cd, ocd'), (q, instObj 741 qd), (qd, oqd), (sg, instObj 111 sgd), (sgd, osg)] ++ rest) → Q (.ref sg) { s with heap := h', toks := tk' }) :
    wpAny (model PySem.Challenge.rw_xw0345_01.prog w) A (call (.ref 143) [.ref x]) Q E s := by
  rcases hfl with ⟨rfl, rfl⟩ | ⟨rfl, rfl⟩
  · exact again_24 B F X P9 D9 N9 T hk hf hh hA hd9 hu9 q0 q1 m1 m2 r0 hq2 hq3 hq4 hy1 hy2 hy3 hy4 q3 zq0 zq1 zhx zhx4 ze0 zw1 zs0 zs1 zs2 zs3 zs4 zb0 zk0 zf0 zpp0 hret
  · exact again_25 B F X P9 D9 N9 T hk hf hh hA hd9 hu9 q0 q1 m1 m2 r0 hq2 hq3 hq4 hy1 hy2 hy3 hy4 q3 zq0 zq1 zhx zhx4 ze0 zw1 zs0 zs1 zs2 zs3 zs4 zb0 zk0 zf0 zpp0 hret
end
-- N18
theorem words16 : True := by
  k_with "same" => first | exact SameV.nil | (refine' SameV.int ?bW67; (case bW67 => k_extra "same")) | (refine' SameV.bytes ?bW67; (case bW67 => k_extra "same"))
  k_with "compareOp NotEq ref ref" => (k_here; (with_reducible show wpAny _ _ (compareOp CmpOp.NotEq (Value.ref _) (Value.ref _)) _ _ _); k_dflt (refine' ne_rows ?k1W68 ?k2W68 ?k3W68 ?k4W68 ?k5W68 ?_; (case k1W68 => k_asm); (case k2W68 => k_mem); (case k3W68 => k_mem); (case k4W68 => k_extra "same"); (case k5W68 => ktr_units)))
  k_with "call ref" => (k_here; (with_reducible show wpAny _ _ (call (Value.ref 143) _) _ _ _); k_dflt (refine' again_N ?k1W69 ?k2W69 ?k3W69 ?kPW69 ?kDW69 ?kNW69 ?k5W69 ?k6W69 ?kfW69 ?khW69 ?kAW69 ?kdW69 ?kuW69 ?q0W69 ?q1W69 ?q2W69 ?q3W69 ?q4W69 ?q5W69 ?q6W69 ?q7W69 ?q8W69 ?q9W69 ?_; (case kAW69 => exact rfl); (case khW69 => exact rfl); (case k1W69 => k_asm); (case k2W69 => k_asm); (case k3W69 => k_asm); (case k5W69 => k_asm); (case k6W69 => first | exact rfl | assumption); (case kfW69 => first | exact rfl | assumption); (case kNW69 => k_asm); (case kPW69 => k_extra "pick"); (case kDW69 => k_extra "nd"); (case q0W69 => k_extra "hyp"); (case q1W69 => k_extra "hyp"); (case q2W69 => k_extra "hyp"); (case q3W69 => k_extra "hyp"); (case q4W69 => k_extra "hyp"); (case q5W69 => k_extra "hyp"); (case q6W69 => k_extra "hyp"); (case q7W69 => k_extra "hyp"); (case q8W69 => k_extra "hyp"); (case q9W69 => k_extra "hyp"); (case kdW69 => ktr_room); (case kuW69 => ktr_units)); intro osd' ocd' sg' sgd' osg' opts' h' tk' o0' o1' o2' o3' F' N' D'; (try dsimp only [List.cons_append, List.nil_append] at N' D'); (try k_sweep); (try dsimp only); (k_dflt (have q9 := same_eq (by with_reducible assumption) o3'); k_dflt (subst q9)))
  k_with "call ref" => (k_here; (with_reducible show wpAny _ _ (call (Value.ref 143) _) _ _ _); k_dflt (refine' again_S ?k1W70 ?k2W70 ?k3W70 ?kPW70 ?kDW70 ?kNW70 ?k5W70 ?k6W70 ?kfW70 ?khW70 ?kAW70 ?kdW70 ?kuW70 ?q0W70 ?q1W70 ?q2W70 ?q3W70 ?q4W70 ?q5W70 ?q6W70 ?q7W70 ?q8W70 ?q9W70 ?q10W70 ?q11W70 ?q12W70 ?q13W70 ?q14W70 ?q15W70 ?q16W70 ?_; (case kAW70 => exact rfl); (case khW70 => exact rfl); (case k1W70 => k_asm); (case k2W70 => k_asm); (case k3W70 => k_asm); (case k5W70 => k_asm); (case k6W70 => first | exact rfl | assumption); (case kfW70 => first | exact rfl | assumption); (case kNW70 => k_asm); (case q7W70 => k_extra "hyp"); (case kPW70 => k_extra "pick"); (case kDW70 => k_extra "nd"); (case q0W70 => k_extra "hyp"); (case q1W70 => k_extra "hyp"); (case q2W70 => k_extra "hyp"); (case q3W70 => k_extra "hyp"); (case q4W70 => k_extra "hyp"); (case q5W70 => k_extra "hyp"); (case q6W70 => k_extra "hyp"); (case q8W70 => k_extra "hyp"); (case q9W70 => k_extra "hyp"); (case q10W70 => k_extra "hyp"); (case q11W70 => k_extra "hyp"); (case q12W70 => k_extra "hyp"); (case q13W70 => k_extra "hyp"); (case q14W70 => k_extra "hyp"); (case q15W70 => k_extra "hyp"); (case q16W70 => k_extra "hyp"); (case kdW70 => ktr_room); (case kuW70 => ktr_units)); intro oad' wt' oen' ol4' osd' ocd' sg' sgd' osg' opts' h' tk' o0' o1' o2' o3' o4' o5' F' N' D'; (try dsimp only [List.cons_append, List.nil_append] at N' D'); (try k_sweep); (try dsimp only); (k_dflt (have q9 := same_eq (by with_reducible assumption) o5'); k_dflt (subst q9)))
  k_with "call ref" => (k_here; (with_reducible show wpAny _ _ (call (Value.ref 143) _) _ _ _); k_dflt (refine' again_O ?k1W71 ?k2W71 ?k3W71 ?kPW71 ?kDW71 ?kNW71 ?k5W71 ?k6W71 ?kfW71 ?khW71 ?kAW71 ?kdW71 ?kuW71 ?q0W71 ?q1W71 ?q2W71 ?q3W71 ?q4W71 ?q5W71 ?q6W71 ?q7W71 ?q8W71 ?q9W71 ?q10W71 ?q11W71 ?q12W71 ?q13W71 ?q14W71 ?q15W71 ?q16W71 ?q17W71 ?q18W71 ?q19W71 ?q20W71 ?q21W71 ?q22W71 ?q23W71 ?q24W71 ?q25W71 ?q26W71 ?q27W71 ?q28W71 ?_; (case kAW71 => exact rfl); (case khW71 => exact rfl); (case k1W71 => k_asm); (case k2W71 => k_asm); (case k3W71 => k_asm); (case k5W71 => k_asm); (case k6W71 => first | exact rfl | assumption); (case kfW71 => first | exact rfl | assumption); (case kNW71 => k_asm); (case q7W71 => k_extra "hyp"); (case kPW71 => k_extra "pick"); (case kDW71 => k_extra "nd"); (case q0W71 => k_extra "hyp"); (case q1W71 => k_extra "hyp"); (case q2W71 => k_extra "hyp"); (case q3W71 => k_extra "hyp"); (case q4W71 => k_extra "hyp"); (case q5W71 => k_extra "hyp"); (case q6W71 => k_extra "hyp"); (case q8W71 => k_extra "hyp"); (case q9W71 => k_extra "hyp"); (case q10W71 => k_extra "hyp"); (case q11W71 => k_extra "hyp"); (case q12W71 => k_extra "hyp"); (case q13W71 => k_extra "hyp"); (case q14W71 => k_extra "hyp"); (case q15W71 => k_extra "hyp"); (case q16W71 => k_extra "hyp"); (case q17W71 => k_extra "hyp"); (case q18W71 => k_extra "hyp"); (case q19W71 => k_extra "hyp"); (case q20W71 => k_extra "hyp"); (case q21W71 => k_extra "hyp"); (case q22W71 => k_extra "hyp"); (case q23W71 => k_extra "hyp"); (case q24W71 => k_extra "hyp"); (case q25W71 => k_extra "hyp"); (case q26W71 => k_extra "hyp"); (case q27W71 => k_extra "hyp"); (case q28W71 => k_extra "hyp"); (case kdW71 => ktr_room); (case kuW71 => ktr_units)); intro oad' wt' oen' ol4' osd' ocd' sg' sgd' osg' pay' h' tk' o0' o1' o2' o3' o4' o5' F' N' D'; (try dsimp only [List.cons_append, List.nil_append] at N' D'); (try k_sweep); (try dsimp only); (k_dflt (have q9 := same_eq (by with_reducible assumption) o5'); k_dflt (subst q9)))
  k_with "call ref" => (k_here; (with_reducible show wpAny _ _ (call (Value.ref 108) _) _ _ _); k_dflt (refine' row_U ?k1W72 ?k2W72 ?k3W72 ?kPW72 ?kDW72 ?kNW72 ?k5W72 ?k6W72 ?kfW72 ?khW72 ?kAW72 ?kdW72 ?kuW72 ?q0W72 ?_; (case kAW72 => exact rfl); (case khW72 => exact rfl); (case k1W72 => k_asm); (case k2W72 => k_asm); (case k3W72 => k_asm); (case k5W72 => k_asm); (case k6W72 => first | exact rfl | assumption); (case kfW72 => first | exact rfl | assumption); (case kNW72 => k_asm); (case kPW72 => k_extra "pick"); (case kDW72 => k_extra "nd"); (case q0W72 => k_extra "hyp"); (case kdW72 => ktr_room); (case kuW72 => ktr_units)); intro tr' r0' r1' r2' r3' r4' r5' r6' r7' r8' h' tk'  F' N' D'; (try dsimp only [List.cons_append, List.nil_append] at N' D'); (try k_sweep); (try dsimp only))
  k_with "call ref" => (k_here; (with_reducible show wpAny _ _ (call (Value.ref 577) _) _ _ _); k_dflt (refine' timing_U ?k1W73 ?k2W73 ?k3W73 ?kPW73 ?kDW73 ?kNW73 ?k5W73 ?k6W73 ?kfW73 ?khW73 ?kAW73 ?kdW73 ?kuW73 ?q0W73 ?_; (case kAW73 => exact rfl); (case khW73 => exact rfl); (case k1W73 => k_asm); (case k2W73 => k_asm); (case k3W73 => k_asm); (case k5W73 => k_asm); (case k6W73 => first | exact rfl | assumption); (case kfW73 => first | exact rfl | assumption); (case kNW73 => k_asm); (case kPW73 => k_extra "pick"); (case kDW73 => k_extra "nd"); (case q0W73 => k_extra "hyp"); (case kdW73 => ktr_room); (case kuW73 => ktr_units)); intro  h' tk'  F' N' D'; (try dsimp only [List.cons_append, List.nil_append] at N' D'); (try k_sweep); (try dsimp only))
  k_with "call ref" => (k_here; (with_reducible show wpAny _ _ (call (Value.ref 458) _) _ _ _); k_dflt (refine' due_N ?k1W74 ?k2W74 ?k3W74 ?kPW74 ?kDW74 ?kNW74 ?k5W74 ?k6W74 ?kfW74 ?khW74 ?kAW74 ?kdW74 ?kuW74 ?q0W74 ?_; (case kAW74 => exact rfl); (case khW74 => exact rfl); (case k1W74 => k_asm); (case k2W74 => k_asm); (case k3W74 => k_asm); (case k5W74 => k_asm); (case k6W74 => first | exact rfl | assumption); (case kfW74 => first | exact rfl | assumption); (case kNW74 => k_asm); (case kPW74 => k_extra "pick"); (case kDW74 => k_extra "nd"); (case q0W74 => k_extra "hyp"); (case kdW74 => ktr_room); (case kuW74 => ktr_units)); intro  h' tk'  F' N' D'; (try dsimp only [List.cons_append, List.nil_append] at N' D'); (try k_sweep); (try dsimp only))
  k_with "call ref" => (k_here; (with_reducible show wpAny _ _ (call (Value.ref 458) _) _ _ _); k_dflt (refine' due_I ?k1W75 ?k2W75 ?k3W75 ?kPW75 ?kDW75 ?kNW75 ?k5W75 ?k6W75 ?kfW75 ?khW75 ?kAW75 ?kdW75 ?kuW75 ?q0W75 ?_; (case kAW75 => exact rfl); (case khW75 => exact rfl); (case k1W75 => k_asm); (case k2W75 => k_asm); (case k3W75 => k_asm); (case k5W75 => k_asm); (case k6W75 => first | exact rfl | assumption); (case kfW75 => first | exact rfl | assumption); (case kNW75 => k_asm); (case kPW75 => k_extra "pick"); (case kDW75 => k_extra "nd"); (case q0W75 => k_extra "hyp"); (case kdW75 => ktr_room); (case kuW75 => ktr_units)); intro  h' tk'  F' N' D'; (try dsimp only [List.cons_append, List.nil_append] at N' D'); (try k_sweep); (try dsimp only))
  k_with "call ref" => (k_here; (with_reducible show wpAny _ _ (call (Value.ref 1019) _) _ _ _); k_dflt (refine' time_N ?k1W76 ?k2W76 ?k3W76 ?kPW76 ?kDW76 ?kNW76 ?k5W76 ?k6W76 ?kfW76 ?khW76 ?kAW76 ?kdW76 ?kuW76 ?q0W76 ?q1W76 ?q2W76 ?_; (case kAW76 => exact rfl); (case khW76 => exact rfl); (case k1W76 => k_asm); (case k2W76 => k_asm); (case k3W76 => k_asm); (case k5W76 => k_asm); (case k6W76 => first | exact rfl | assumption); (case kfW76 => first | exact rfl | assumption); (case kNW76 => k_asm); (case q0W76 => k_extra "hyp"); (case kPW76 => k_extra "pick"); (case kDW76 => k_extra "nd"); (case q1W76 => k_extra "hyp"); (case q2W76 => k_extra "hyp"); (case kdW76 => ktr_room); (case kuW76 => ktr_units)); intro  h' tk'  F' N' D'; (try dsimp only [List.cons_append, List.nil_append] at N' D'); (try k_sweep); (try dsimp only))
  k_with "call ref" => (k_here; (with_reducible show wpAny _ _ (call (Value.ref 1019) _) _ _ _); k_dflt (refine' time_I ?k1W77 ?k2W77 ?k3W77 ?kPW77 ?kDW77 ?kNW77 ?k5W77 ?k6W77 ?kfW77 ?khW77 ?kAW77 ?kdW77 ?kuW77 ?q0W77 ?q1W77 ?q2W77 ?_; (case kAW77 => exact rfl); (case khW77 => exact rfl); (case k1W77 => k_asm); (case k2W77 => k_asm); (case k3W77 => k_asm); (case k5W77 => k_asm); (case k6W77 => first | exact rfl | assumption); (case kfW77 => first | exact rfl | assumption); (case kNW77 => k_asm); (case q0W77 => k_extra "hyp"); (case kPW77 => k_extra "pick"); (case kDW77 => k_extra "nd"); (case q1W77 => k_extra "hyp"); (case q2W77 => k_extra "hyp"); (case kdW77 => ktr_room); (case kuW77 => ktr_units)); intro  h' tk'  F' N' D'; (try dsimp only [List.cons_append, List.nil_append] at N' D'); (try k_sweep); (try dsimp only))
  trivial
section
variable {all rest : List (Addr × Obj)} {w : World} {mean : ExcName → Option Value} {mg mb : Str → Option Value} {A : Around} {env : Env} {outer : List Env} {A₀ : Around} {base h₀ : Heap} {L : Addr} {m : Str → Option Value} {s : Shared} {Q E : Value → Shared → Prop}
theorem answers_N {x dx lim limd lo re s' sd q c cd a ad w' wd en sl lt tp rw : Addr} {odx olim osd ocd oad owd oen : Obj} {ring mss iss next gr k fo gn : Int} {te wt hg : Value} {opt0 : Array UInt8} {td ta tb tf : Tok} {fa fs : Bool} {p0 p1 p2 p3 : Tok} {g0 g1 g2 g3 g4 g5 g6 g7 g8 : Tok}
    (B : Below A₀ base outer h₀) (F : Fr h₀ L s.heap m) (X : (hd.heap_1 w.params).In h₀) (P9 : Pick [(x, instObj 1105 dx), (dx, odx), (lim, instObj 1062 limd), (limd, olim), (lo, ({ cls := .type "tuple", data := .seq #[.int 1 p0, .int 80 p1] } : Obj)), (re, ({ cls := .type "tuple", data := .seq #[.int 2 p2, .int 90 p3] } : Obj)), (s', instObj 974 sd), (sd, osd), (c, instObj 629 cd), (cd, ocd), (a, instObj 461 ad), (ad, oad), (w', instObj 1041 wd), (wd, owd), (en, oen), (tp, ({ cls := .type "tuple", data := .seq #[.int 4 ta, .int (0 + 1) tb] } : Obj)), (rw, ({ cls := .type "tuple", data := .seq #[.int 80 g0, .int 90 g1, .int iss g2, .int 0 g3, .int 2 g4, .int 12 g5, .int 0 g6, .bytes opt0 g7, .bytes #[] g8] } : Obj))] all rest) (D9 : ND all) (N9 : News h₀ L s.heap all) (T : Top vu LOOSE mean mg mb h₀) (hk : env.scope.kind = .function) (hf : env.frame = some L) (hh : A.handled = none) (hA : A.frames = some (env :: outer)) (hd9 : A.depth + 44 < recursionLimit) (hu9 : A.units + 500 < cLine)
    (q0 : TcbD lim lo re s' .none c a w' odx) (q1 : LimD ring mss olim) (m1 : 1 ≤ mss) (m2 : mss ≤ 6) (r0 : 64 ≤ ring) (q2 : SenD iss ring mss iss next gr q true fa fs osd) (q3 : ClkD te ocd) (e0 : Int.fmod (gr - iss) ring = 1) (k0 : Int.fmod (next - iss) ring = k) (f0 : (if k < 1 then Int.fmod (iss + 1) ring else next) = fo) (a0 : AckD wt hg (.int (2 + 2) td) oad) (w0 : WhlD sl lt en gn owd) (y3 : oen.IsDictOf (intKind PySem.Challenge.rw_xw0345_01.prog w) [(3, .ref tp)]) (y4 : (en == sysModules) = false) (s0 : Same [2, 4, 0, mss] opt0)
    (hret : ∀ (osd' : Obj) (h' : Heap) (tk' : Nat), SenD iss ring mss iss fo gr q true fa fs osd' → Fr h₀ L h' m → News h₀ L h' ([(x, instObj 1105 dx), (dx, odx), (s', instObj 974 sd), (sd, osd')] ++ rest) → ND ([(x, instObj 1105 dx), (dx, odx), (s', instObj 974 sd), (sd, osd')] ++ rest) → Q (.bool true) { s with heap := h', toks := tk' }) :
    wpAny (model PySem.Challenge.rw_xw0345_01.prog w) A (call (.ref 1156) [.ref x, .ref rw, .bool false, .int fo tf]) Q E s := by
  obtain ⟨hd0, dp, fr0, gd, un⟩ := A
  dsimp only at hh hA hd9 hu9
  subst hh hA
  revert X; k_fill; intro X
  have N := P9.news N9
  have D := P9.nd D9
  refine wpAny_call ?_
  walk_at "A enter"
  rename (∀ (b : Addr) (o : Obj), _ → ¬ _ → _) => kp
  k_steps
  all_goals try (exfalso; exact absurd rfl (by assumption : fo ≠ fo))
  change LeaveP _ _ _ _ _ (Value.bool true) _
  show LeaveP _ _ _ _ _ _ _
  refine leaveP_ (by k_asm) (by k_asm) ?_
  intro F0 N0 fr0 kp0
  refine' P9.leave2 (S' := [(x, instObj 1105 dx), (dx, odx), (s', instObj 974 sd), (sd, _)]) D9 N9 F0 N0 fr0 kp kp0 ?lP ?lD (hret _ _ _ ?p0)
  case lP => walk_at "pick"
  case lD => walk_at "nd"
  case p0 => walk_at "post"
end
-- N18s

section
variable {all rest : List (Addr × Obj)} {w : World} {mean : ExcName → Option Value} {mg mb : Str → Option Value} {A : Around} {env : Env} {outer : List Env} {A₀ : Around} {base h₀ : Heap} {L : Addr} {m : Str → Option Value} {s : Shared} {Q E : Value → Shared → Prop}
theorem answers_S {x dx lim limd lo re s' sd q c cd r rd ra a ad w' wd en lt l4 sl tp : Addr} {odx olim ord oad owd oen osd ocd : Obj} {ring mss iss next gr gn k fo : Int} {wt hg du te : Value} {ys : List Value} {fa fs : Bool} {p0 p1 p2 p3 u9 ta tb : Tok} {opt0 : Array UInt8} {rw : Addr} {tf : Tok} {g0 g1 g2 g3 g4 g5 g6 g7 g8 : Tok}
    (B : Below A₀ base outer h₀) (F : Fr h₀ L s.heap m) (X : (hd.heap_1 w.params).In h₀) (P9 : Pick [(x, instObj 1105 dx), (dx, odx), (lim, instObj 1062 limd), (limd, olim), (lo, ({ cls := .type "tuple", data := .seq #[.int 1 p0, .int 80 p1] } : Obj)), (re, ({ cls := .type "tuple", data := .seq #[.int 2 p2, .int 90 p3] } : Obj)), (r, instObj 404 rd), (rd, ord), (ra, baObj), (a, instObj 461 ad), (ad, oad), (w', instObj 1041 wd), (wd, owd), (en, oen), (lt, W.listOf [].toArray 0), (l4, W.listOf (#[].push (.int 3 u9)) (0 + 1)), (sl, W.listOf (List.toArray ys) (List.length ys)), (tp, ({ cls := .type "tuple", data := .seq #[.int 4 ta, .int (0 + 1) tb] } : Obj)), (s', instObj 974 sd), (sd, osd), (c, instObj 629 cd), (cd, ocd), (rw, ({ cls := .type "tuple", data := .seq #[.int 80 g0, .int 90 g1, .int iss g2, .int 32 g3, .int 18 g4, .int 12 g5, .int 0 g6, .bytes opt0 g7, .bytes #[] g8] } : Obj))] all rest) (D9 : ND all) (N9 : News h₀ L s.heap all) (T : Top vu LOOSE mean mg mb h₀) (hk : env.scope.kind = .function) (hf : env.frame = some L) (hh : A.handled = none) (hA : A.frames = some (env :: outer)) (hd9 : A.depth + 44 < recursionLimit) (hu9 : A.units + 500 < cLine)
    (q0 : TcbD lim lo re s' (.ref r) c a w' odx) (q1 : LimD ring mss olim) (m1 : 1 ≤ mss) (m2 : mss ≤ 6) (r0 : 64 ≤ ring) (hq2 : RecD ring mss 32 44 ra ord) (hq3 : AckD wt hg du oad) (hq4 : WhlD sl lt en gn owd) (hy1 : ys.length = 16) (hy2 : ys[4]? = some (.ref l4)) (hy3 : oen.IsDictOf (intKind PySem.Challenge.rw_xw0345_01.prog w) [(3, .ref tp)]) (hy4 : (en == sysModules) = false) (q2 : SenD iss ring mss iss next gr q true fa fs osd) (q3 : ClkD te ocd) (e0 : Int.fmod (gr - iss) ring = 1) (k0 : Int.fmod (next - iss) ring = k) (f0 : (if k < 1 then Int.fmod (iss + 1) ring else next) = fo) (s0 : Same [2, 4, 0, mss] opt0)
    (hret : ∀ (osd' : Obj) (h' : Heap) (tk' : Nat), SenD iss ring mss iss fo gr q true fa fs osd' → Fr h₀ L h' m → News h₀ L h' ([(x, instObj 1105 dx), (dx, odx), (s', instObj 974 sd), (sd, osd')] ++ rest) → ND ([(x, instObj 1105 dx), (dx, odx), (s', instObj 974 sd), (sd, osd')] ++ rest) → Q (.bool true) { s with heap := h', toks := tk' }) :
    wpAny (model PySem.Challenge.rw_xw0345_01.prog w) A (call (.ref 1156) [.ref x, .ref rw, .bool true, .int fo tf]) Q E s := by
  obtain ⟨hd0, dp, fr0, gd, un⟩ := A
  dsimp only at hh hA hd9 hu9
  subst hh hA
  revert X; k_fill; intro X
  have N := P9.news N9
  have D := P9.nd D9
  refine wpAny_call ?_
  walk_at "A enter"
  rename (∀ (b : Addr) (o : Obj), _ → ¬ _ → _) => kp
  k_steps
  all_goals try (exfalso; exact absurd rfl (by assumption : fo ≠ fo))
  change LeaveP _ _ _ _ _ (Value.bool true) _
  show LeaveP _ _ _ _ _ _ _
  refine leaveP_ (by k_asm) (by k_asm) ?_
  intro F0 N0 fr0 kp0
  refine' P9.leave2 (S' := [(x, instObj 1105 dx), (dx, odx), (s', instObj 974 sd), (sd, _)]) D9 N9 F0 N0 fr0 kp kp0 ?lP ?lD (hret _ _ _ ?p0)
  case lP => walk_at "pick"
  case lD => walk_at "nd"
  case p0 => walk_at "post"
end
-- N18o

section
variable {all rest : List (Addr × Obj)} {w : World} {mean : ExcName → Option Value} {mg mb : Str → Option Value} {A : Around} {env : Env} {outer : List Env} {A₀ : Around} {base h₀ : Heap} {L : Addr} {m : Str → Option Value} {s : Shared} {Q E : Value → Shared → Prop}
theorem answers_O {x dx lim limd lo re s' sd q qd c cd r rd ra a ad w' wd en lt l4 sl tp : Addr} {odx olim ord oad owd oen osd ocd oqd : Obj} {iss ring mss una next gr gn k p fo whole sz : Int} {xs : Array UInt8} {ks : List Int} {wt hg du te : Value} {ys : List Value} {fa fs : Bool} {p0 p1 p2 p3 u9 ta tb : Tok} {pay0 : Array UInt8} {fl : Int} {hn : Bool} {rw : Addr} {tf : Tok} {g0 g1 g2 g3 g4 g5 g6 g7 g8 : Tok}
    (B : Below A₀ base outer h₀) (F : Fr h₀ L s.heap m) (X : (hd.heap_1 w.params).In h₀) (P9 : Pick [(x, instObj 1105 dx), (dx, odx), (lim, instObj 1062 limd), (limd, olim), (lo, ({ cls := .type "tuple", data := .seq #[.int 1 p0, .int 80 p1] } : Obj)), (re, ({ cls := .type "tuple", data := .seq #[.int 2 p2, .int 90 p3] } : Obj)), (r, instObj 404 rd), (rd, ord), (ra, baObj), (a, instObj 461 ad), (ad, oad), (w', instObj 1041 wd), (wd, owd), (en, oen), (lt, W.listOf [].toArray 0), (l4, W.listOf (#[].push (.int 3 u9)) (0 + 1)), (sl, W.listOf (List.toArray ys) (List.length ys)), (tp, ({ cls := .type "tuple", data := .seq #[.int 4 ta, .int (0 + 1) tb] } : Obj)), (s', instObj 974 sd), (sd, osd), (c, instObj 629 cd), (cd, ocd), (q, instObj 741 qd), (qd, oqd), (rw, ({ cls := .type "tuple", data := .seq #[.int 80 g0, .int 90 g1, .int una g2, .int 32 g3, .int fl g4, .int 12 g5, .int 0 g6, .bytes #[] g7, .bytes pay0 g8] } : Obj))] all rest) (D9 : ND all) (N9 : News h₀ L s.heap all) (T : Top vu LOOSE mean mg mb h₀) (hk : env.scope.kind = .function) (hf : env.frame = some L) (hh : A.handled = none) (hA : A.frames = some (env :: outer)) (hd9 : A.depth + 44 < recursionLimit) (hu9 : A.units + 500 < cLine)
    (q0 : TcbD lim lo re s' (.ref r) c a w' odx) (q1 : LimD ring mss olim) (m1 : 1 ≤ mss) (m2 : mss ≤ 6) (r0 : 64 ≤ ring) (hq2 : RecD ring mss 32 44 ra ord) (hq3 : AckD wt hg du oad) (hq4 : WhlD sl lt en gn owd) (hy1 : ys.length = 16) (hy2 : ys[4]? = some (.ref l4)) (hy3 : oen.IsDictOf (intKind PySem.Challenge.rw_xw0345_01.prog w) [(3, .ref tp)]) (hy4 : (en == sysModules) = false) (q3 : ClkD te ocd) (zq0 : SenD iss ring mss una next gr q false fa fs osd) (zq1 : QueD xs oqd) (zhx : KBw.bInts xs = ks) (zhx4 : ks.length ≤ 40) (ze0 : Int.fmod (gr - una) ring = whole) (zw1 : 1 ≤ whole) (zs0 : 0 ≤ sz) (zs1 : sz ≤ mss) (zs2 : sz ≤ ks.length) (zs3 : sz ≤ whole) (zs4 : sz = mss ∨ sz = ks.length ∨ sz = whole) (zb0 : hn = (fs && decide (sz = ks.length) && decide (sz < whole))) (zk0 : Int.fmod (next - una) ring = k) (zf0 : (if k < p then Int.fmod (una + p) ring else next) = fo) (zpp0 : p = sz + if hn then 1 else 0) (ss0 : Same (ks.take sz.toNat) pay0) (hfl : (fl = 24 ∧ hn = false) ∨ (fl = 25 ∧ hn = true))
    (hret : ∀ (osd' : Obj) (h' : Heap) (tk' : Nat), SenD iss ring mss una fo gr q false fa fs osd' → Fr h₀ L h' m → News h₀ L h' ([(x, instObj 1105 dx), (dx, odx), (s', instObj 974 sd), (sd, osd'), (q, instObj 741 qd), (qd, oqd)] ++ rest) → ND ([(x, instObj 1105 dx), (dx, odx), (s', instObj 974 sd), (sd, osd'), (q, instObj 741 qd), (qd, oqd)] ++ rest) → Q (.bool true) { s with heap := h', toks := tk' }) :
    wpAny (model PySem.Challenge.rw_xw0345_01.prog w) A (call (.ref 1156) [.ref x, .ref rw, .bool true, .int fo tf]) Q E s := by
  obtain ⟨hd0, dp, fr0, gd, un⟩ := A
  dsimp only at hh hA hd9 hu9
  subst hh hA
  revert X; k_fill; intro X
  have N := P9.news N9
  have D := P9.nd D9
  refine wpAny_call ?_
  walk_at "A enter"
  rename (∀ (b : Addr) (o : Obj), _ → ¬ _ → _) => kp
  k_steps
  all_goals try (exfalso; exact absurd rfl (by assumption : fo ≠ fo))
  change LeaveP _ _ _ _ _ (Value.bool true) _
  show LeaveP _ _ _ _ _ _ _
  refine leaveP_ (by k_asm) (by k_asm) ?_
  intro F0 N0 fr0 kp0
  refine' P9.leave2 (S' := [(x, instObj 1105 dx), (dx, odx), (s', instObj 974 sd), (sd, _), (q, instObj 741 qd), (qd, oqd)]) D9 N9 F0 N0 fr0 kp kp0 ?lP ?lD (hret _ _ _ ?p0)
  case lP => walk_at "pick"
  case lD => walk_at "nd"
  case p0 => walk_at "post"
end
-- N19r
theorem words18 : True := by
  k_with "hasI" => with_reducible exact hasI_put2 (by assumption) (by assumption) (by assumption) (by assumption) (by decide +kernel) (by decide +kernel)
  trivial
section
variable {all rest : List (Addr × Obj)} {w : World} {mean : ExcName → Option Value} {mg mb : Str → Option Value} {A : Around} {env : Env} {outer : List Env} {A₀ : Around} {base h₀ : Heap} {L : Addr} {m : Str → Option Value} {s : Shared} {Q E : Value → Shared → Prop}
theorem RecD.fo {ring mss nx te : Int} {ra : Addr} {t0 t1 t2 t3 t4 : Tok} {v0 : Value} {o1 o2 o3 o4 o5 o6 o7 o8 o9 o10 : Obj} (s9 : SetO o9 o10 (Str.ofString "urgent_at") (.none)) (s8 : SetO o8 o9 (Str.ofString "has_fin") (.bool false)) (s7 : SetO o7 o8 (Str.ofString "fin_at") (.none)) (s6 : SetO o6 o7 (Str.ofString "told_edge") (.int te t4)) (s5 : SetO o5 o6 (Str.ofString "assembly") (v0)) (s4 : SetO o4 o5 (Str.ofString "ready") (.ref ra)) (s3 : SetO o3 o4 (Str.ofString "next") (.int nx t3)) (s2 : SetO o2 o3 (Str.ofString "mss") (.int mss t2)) (s1 : SetO o1 o2 (Str.ofString "room") (.int 12 t1)) (s0 : SetO (dictOf [] 0) o1 (Str.ofString "ring") (.int ring t0)) : RecD ring mss nx te ra o10 := RecD.of s0 s1 s2 s3 s4 s5 s6 s7 s8 s9
end
theorem words17 : True := by
  k_with "post" => with_reducible exact RecD.fo (by assumption) (by assumption) (by assumption) (by assumption) (by assumption) (by assumption) (by assumption) (by assumption) (by assumption) (by assumption)
  trivial
section
variable {all rest : List (Addr × Obj)} {w : World} {mean : ExcName → Option Value} {mg mb : Str → Option Value} {A : Around} {env : Env} {outer : List Env} {A₀ : Around} {base h₀ : Heap} {L : Addr} {m : Str → Option Value} {s : Shared} {Q E : Value → Shared → Prop}
theorem rec_new {ring mss : Int} {t0 t1 t2 t3 : Tok}
    (B : Below A₀ base outer h₀) (F : Fr h₀ L s.heap m) (X : (hd.heap_1 w.params).In h₀) (P9 : Pick [] all rest) (D9 : ND all) (N9 : News h₀ L s.heap all) (T : Top vu LOOSE mean mg mb h₀) (hk : env.scope.kind = .function) (hf : env.frame = some L) (hh : A.handled = none) (hA : A.frames = some (env :: outer)) (hd9 : A.depth + 20 < recursionLimit) (hu9 : A.units + 200 < cLine)
    (r0 : 64 ≤ ring) (m1 : 1 ≤ mss) (m2 : mss ≤ 6)
    (hret : ∀ (r rd ra : Addr) (ord : Obj) (h' : Heap) (tk' : Nat), RecD ring mss 32 44 ra ord → Fr h₀ L h' m → News h₀ L h' ([(r, instObj 404 rd), (rd, ord), (ra, baObj)] ++ rest) → ND ([(r, instObj 404 rd), (rd, ord), (ra, baObj)] ++ rest) → Q (.ref r) { s with heap := h', toks := tk' }) :
    wpC (model PySem.Challenge.rw_xw0345_01.prog w) A (call (.ref 404) [.int 31 t0, .int ring t1, .int 12 t2, .int mss t3]) Q E s := by
  obtain ⟨hd0, dp, fr0, gd, un⟩ := A
  dsimp only at hh hA hd9 hu9
  subst hh hA
  revert X; k_fill; intro X
  have n0 : Int.fmod (31 + 1) ring = 32 := fm_of (by omega) (by omega) 0 (by omega)
  have n1 : Int.fmod (32 + 12) ring = 44 := fm_of (by omega) (by omega) 0 (by omega)
  have N := P9.newsAll N9
  have D := P9.ndAll D9
  clear N9 D9 P9
  dsimp only [List.cons_append, List.nil_append] at N D
  refine wpC_call ?_
  walk_at "C class"
  walk_at "C enter"
  iterate 4 (refine execsC_any ?_; k_steps)
  refine execsC ?_
  refine assignAttrC ?_
  refine evalCallC ?_
  k_steps
  refine callC_type0 ?_
  walk_at "C bytearray"
  k_steps
  refine wpC_any ?_
  k_steps
  refine' Pick.finish (S := [(_, instObj 404 _), (_, _), (_, baObj)]) (rest := rest) ?fN ?fP ?fU ?fD (fun N0 D0 => hret _ _ _ _ _ _ ?p0 (by k_asm) N0 D0)
  case fN => k_asm
  case fP => walk_at "pick"
  case fU => walk_at "suff"
  case fD => walk_at "nd"
  case p0 => walk_at "post"
end
-- N19
theorem words19 : True := by
  k_with "call ref" => (k_here; (with_reducible show wpAny _ _ (call (Value.ref 1105) _) _ _ _); k_dflt (refine' tcb_new ?k1W80 ?k2W80 ?k3W80 ?kPW80 ?kDW80 ?kNW80 ?k5W80 ?k6W80 ?kfW80 ?khW80 ?kAW80 ?kdW80 ?kuW80 ?q0W80 ?_; (case kAW80 => exact rfl); (case khW80 => exact rfl); (case k1W80 => k_asm); (case k2W80 => k_asm); (case k3W80 => k_asm); (case k5W80 => k_asm); (case k6W80 => first | exact rfl | assumption); (case kfW80 => first | exact rfl | assumption); (case kNW80 => k_asm); (case kPW80 => k_extra "pick"); (case kDW80 => k_extra "nd"); (case q0W80 => k_extra "hyp"); (case kdW80 => ktr_room); (case kuW80 => ktr_units)); intro x' dx' s9' sd' q' qd' c' cd' a' ad' w9' wd' en' lt' l4' sl' odx' osd' oqd' ocd' oad' owd' oen' ys' t9' h' tk' o0' o1' o2' o3' o4' o5' o6' o7' o8' o9' F' N' D'; (try dsimp only [List.cons_append, List.nil_append] at N' D'); (try k_sweep); (try dsimp only))
  k_with "call ref" => (k_here; (with_reducible show wpAny _ _ (call (Value.ref 998) _) _ _ _); k_dflt (refine' put_U ?k1W81 ?k2W81 ?k3W81 ?kPW81 ?kDW81 ?kNW81 ?k5W81 ?k6W81 ?kfW81 ?khW81 ?kAW81 ?kdW81 ?kuW81 ?q0W81 ?q1W81 ?q2W81 ?q3W81 ?q4W81 ?_; (case kAW81 => exact rfl); (case khW81 => exact rfl); (case k1W81 => k_asm); (case k2W81 => k_asm); (case k3W81 => k_asm); (case k5W81 => k_asm); (case k6W81 => first | exact rfl | assumption); (case kfW81 => first | exact rfl | assumption); (case kNW81 => k_asm); (case q0W81 => k_extra "hyp"); (case kPW81 => k_extra "pick"); (case kDW81 => k_extra "nd"); (case q1W81 => k_extra "hyp"); (case q2W81 => k_extra "hyp"); (case q3W81 => k_extra "hyp"); (case q4W81 => k_extra "hyp"); (case kdW81 => ktr_room); (case kuW81 => ktr_units)); intro owd' oen' tp' ta' tb' h' tk' o0' o1' F' N' D'; (try dsimp only [List.cons_append, List.nil_append] at N' D'); (try k_sweep); (try dsimp only))
  k_with "call ref" => (k_here; (with_reducible show wpAny _ _ (call (Value.ref 430) _) _ _ _); k_dflt (refine' on_octets_U ?k1W82 ?k2W82 ?k3W82 ?kPW82 ?kDW82 ?kNW82 ?k5W82 ?k6W82 ?kfW82 ?khW82 ?kAW82 ?kdW82 ?kuW82 ?q0W82 ?_; (case kAW82 => exact rfl); (case khW82 => exact rfl); (case k1W82 => k_asm); (case k2W82 => k_asm); (case k3W82 => k_asm); (case k5W82 => k_asm); (case k6W82 => first | exact rfl | assumption); (case kfW82 => first | exact rfl | assumption); (case kNW82 => k_asm); (case kPW82 => k_extra "pick"); (case kDW82 => k_extra "nd"); (case q0W82 => k_extra "hyp"); (case kdW82 => ktr_room); (case kuW82 => ktr_units)); intro oad' wt' hg' rv' td' h' tk' o0' F' N' D'; (try dsimp only [List.cons_append, List.nil_append] at N' D'); (try k_sweep); (try dsimp only))
  k_with "C rec" => (k_dflt (refine' rec_new ?k1W83 ?k2W83 ?k3W83 ?kPW83 ?kDW83 ?kNW83 ?k5W83 ?k6W83 ?kfW83 ?khW83 ?kAW83 ?kdW83 ?kuW83 ?q0W83 ?q1W83 ?q2W83 ?_; (case kAW83 => exact rfl); (case khW83 => exact rfl); (case k1W83 => k_asm); (case k2W83 => k_asm); (case k3W83 => k_asm); (case k5W83 => k_asm); (case k6W83 => first | exact rfl | assumption); (case kfW83 => first | exact rfl | assumption); (case kNW83 => k_asm); (case kPW83 => k_extra "pick"); (case kDW83 => k_extra "nd"); (case q0W83 => k_extra "hyp"); (case q1W83 => k_extra "hyp"); (case q2W83 => k_extra "hyp"); (case kdW83 => ktr_room); (case kuW83 => ktr_units)); intro r9 rd9 ra9 ord9 h' tk' o0' F' N' D'; (try dsimp only [List.cons_append, List.nil_append] at N' D'); (try k_sweep); (try dsimp only))
  trivial
section
variable {all rest : List (Addr × Obj)} {w : World} {mean : ExcName → Option Value} {mg mb : Str → Option Value} {A : Around} {env : Env} {outer : List Env} {A₀ : Around} {base h₀ : Heap} {L : Addr} {m : Str → Option Value} {s : Shared} {Q E : Value → Shared → Prop}
theorem end_come {ring first mss : Int} {tr tf tm : Tok}
    (B : Below A₀ base outer h₀) (F : Fr h₀ L s.heap m) (X : (hd.heap_1 w.params).In h₀) (P9 : Pick [] all rest) (D9 : ND all) (N9 : News h₀ L s.heap all) (T : Top vu LOOSE mean mg mb h₀) (hk : env.scope.kind = .function) (hf : env.frame = some L) (hh : A.handled = none) (hA : A.frames = some (env :: outer)) (hd9 : A.depth + 30 < recursionLimit) (hu9 : A.units + 300 < cLine)
    (r0 : 64 ≤ ring) (r1 : ring ≤ 4294967296) (b0 : 0 ≤ first) (b1 : first < ring) (m1 : 1 ≤ mss) (m2 : mss ≤ 6)
    (hret : ∀ (x dx lim limd lo re s' sd q qd c cd r rd ra a ad w' wd en lt l4 sl tp : Addr) (odx olim ord oad owd oen osd ocd oqd : Obj) (wt hg : Value) (ys : List Value) (p0 p1 p2 p3 u9 ta tb td : Tok) (h' : Heap) (tk' : Nat), TcbD lim lo re s' (.ref r) c a w' odx → LimD ring mss olim → RecD ring mss 32 44 ra ord → AckD wt hg (.int (2 + 2) td) oad → WhlD sl lt en (0 + 1) owd → ys.length = 16 → ys[4]? = some (.ref l4) → oen.IsDictOf (intKind PySem.Challenge.rw_xw0345_01.prog w) [(3, .ref tp)] → (en == sysModules) = false → SenD (Int.fmod (first - 1) ring) ring mss (Int.fmod (first - 1) ring) (Int.fmod (first - 1) ring) (Int.fmod (first - 1) ring) q true false false osd → ClkD .none ocd → QueD #[] oqd → Fr h₀ L h' m → News h₀ L h' ([(x, instObj 1105 dx), (dx, odx), (lim, instObj 1062 limd), (limd, olim), (lo, ({ cls := .type "tuple", data := .seq #[.int 1 p0, .int 80 p1] } : Obj)), (re, ({ cls := .type "tuple", data := .seq #[.int 2 p2, .int 90 p3] } : Obj)), (r, instObj 404 rd), (rd, ord), (ra, baObj), (a, instObj 461 ad), (ad, oad), (w', instObj 1041 wd), (wd, owd), (en, oen), (lt, W.listOf [].toArray 0), (l4, W.listOf (#[].push (.int 3 u9)) (0 + 1)), (sl, W.listOf (List.toArray ys) (List.length ys)), (tp, ({ cls := .type "tuple", data := .seq #[.int 4 ta, .int (0 + 1) tb] } : Obj)), (s', instObj 974 sd), (sd, osd), (c, instObj 629 cd), (cd, ocd), (q, instObj 741 qd), (qd, oqd)] ++ rest) → ND ([(x, instObj 1105 dx), (dx, odx), (lim, instObj 1062 limd), (limd, olim), (lo, ({ cls := .type "tuple", data := .seq #[.int 1 p0, .int 80 p1] } : Obj)), (re, ({ cls := .type "tuple", data := .seq #[.int 2 p2, .int 90 p3] } : Obj)), (r, instObj 404 rd), (rd, ord), (ra, baObj), (a, instObj 461 ad), (ad, oad), (w', instObj 1041 wd), (wd, owd), (en, oen), (lt, W.listOf [].toArray 0), (l4, W.listOf (#[].push (.int 3 u9)) (0 + 1)), (sl, W.listOf (List.toArray ys) (List.length ys)), (tp, ({ cls := .type "tuple", data := .seq #[.int 4 ta, .int (0 + 1) tb] } : Obj)), (s', instObj 974 sd), (sd, osd), (c, instObj 629 cd), (cd, ocd), (q, instObj 741 qd), (qd, oqd)] ++ rest) → Q (.ref x) { s with heap := h', toks := tk' }) :
    wpC (model PySem.Challenge.rw_xw0345_01.prog w) A (call (.ref 1137) [.int ring tr, .int first tf, .int mss tm, .bool true]) Q E s := by
  obtain ⟨hd0, dp, fr0, gd, un⟩ := A
  dsimp only at hh hA hd9 hu9
  subst hh hA
  revert X; k_fill; intro X
  have n0 : Int.fmod (31 + 1) ring = 32 := fm_of (by omega) (by omega) 0 (by omega)
  have n1 : Int.fmod (32 + 12) ring = 44 := fm_of (by omega) (by omega) 0 (by omega)
  have N := P9.news N9
  have D := P9.nd D9
  refine wpC_call ?_
  walk_at "P enter"
  rename (∀ (b : Addr) (o : Obj), _ → ¬ _ → _) => kp
  refine execsC_any ?_
  k_steps
  refine execsC_any ?_
  k_steps
  refine execsC_any ?_
  k_steps
  refine execsC ?_
  refine ifC_any ?_
  k_steps
  refine execsC ?_
  refine assignAttrC ?_
  refine evalCallC ?_
  k_steps
  walk_at "C call"
  k_steps
  walk_at "C rec"
  k_steps
  refine wpC_any ?_
  k_steps
  refine execsC_any ?_
  k_steps
  show LeaveP _ _ _ _ _ _ _
  refine leaveP_ (by k_asm) (by k_asm) ?_
  intro F0 N0 fr0 kp0
  refine' P9.leave2 (S' := [(_, instObj 1105 _), (_, _), (_, instObj 1062 _), (_, _), (_, ({ cls := .type "tuple", data := .seq #[.int 1 _, .int 80 _] } : Obj)), (_, ({ cls := .type "tuple", data := .seq #[.int 2 _, .int 90 _] } : Obj)), (_, instObj 404 _), (_, _), (_, baObj), (_, instObj 461 _), (_, _), (_, instObj 1041 _), (_, _), (_, _), (_, W.listOf [].toArray 0), (_, W.listOf (#[].push (.int 3 _)) (0 + 1)), (_, W.listOf (List.toArray _) (List.length _)), (_, ({ cls := .type "tuple", data := .seq #[.int 4 _, .int (0 + 1) _] } : Obj)), (_, instObj 974 _), (_, _), (_, instObj 629 _), (_, _), (_, instObj 741 _), (_, _)]) D9 N9 F0 N0 fr0 kp kp0 ?lP ?lD (hret _ _ _ _ _ _ _ _ _ _ _ _ _ _ _ _ _ _ _ _ _ _ _ _ _ _ _ _ _ _ _ _ _ _ _ _ _ _ _ _ _ _ _ _ _ _ ?p0 ?p1 ?p2 ?p3 ?p4 ?p5 ?p6 ?p7 ?p8 ?p9 ?p10 ?p11)
  case p4 => walk_at "post"
  case lP => walk_at "pick"
  case lD => walk_at "nd"
  case p0 => walk_at "post"
  case p1 => walk_at "post"
  case p2 => walk_at "post"
  case p3 => walk_at "post"
  case p5 => walk_at "post"
  case p6 => walk_at "post"
  case p7 => walk_at "post"
  case p8 => walk_at "post"
  case p9 => walk_at "post"
  case p10 => walk_at "post"
  case p11 => walk_at "post"
end
-- N19n

section
variable {all rest : List (Addr × Obj)} {w : World} {mean : ExcName → Option Value} {mg mb : Str → Option Value} {A : Around} {env : Env} {outer : List Env} {A₀ : Around} {base h₀ : Heap} {L : Addr} {m : Str → Option Value} {s : Shared} {Q E : Value → Shared → Prop}
theorem end_none {ring first mss : Int} {tr tf tm : Tok}
    (B : Below A₀ base outer h₀) (F : Fr h₀ L s.heap m) (X : (hd.heap_1 w.params).In h₀) (P9 : Pick [] all rest) (D9 : ND all) (N9 : News h₀ L s.heap all) (T : Top vu LOOSE mean mg mb h₀) (hk : env.scope.kind = .function) (hf : env.frame = some L) (hh : A.handled = none) (hA : A.frames = some (env :: outer)) (hd9 : A.depth + 30 < recursionLimit) (hu9 : A.units + 300 < cLine)
    (r0 : 64 ≤ ring) (r1 : ring ≤ 4294967296) (b0 : 0 ≤ first) (b1 : first < ring) (m1 : 1 ≤ mss) (m2 : mss ≤ 6)
    (hret : ∀ (x dx lim limd lo re s' sd q qd c cd a ad w' wd en lt l4 sl tp : Addr) (odx olim oad owd oen osd ocd oqd : Obj) (wt hg : Value) (ys : List Value) (p0 p1 p2 p3 u9 ta tb td : Tok) (h' : Heap) (tk' : Nat), TcbD lim lo re s' .none c a w' odx → LimD ring mss olim → AckD wt hg (.int (2 + 2) td) oad → WhlD sl lt en (0 + 1) owd → ys.length = 16 → ys[4]? = some (.ref l4) → oen.IsDictOf (intKind PySem.Challenge.rw_xw0345_01.prog w) [(3, .ref tp)] → (en == sysModules) = false → SenD (Int.fmod (first - 1) ring) ring mss (Int.fmod (first - 1) ring) (Int.fmod (first - 1) ring) (Int.fmod (first - 1) ring) q true false false osd → ClkD .none ocd → QueD #[] oqd → Fr h₀ L h' m → News h₀ L h' ([(x, instObj 1105 dx), (dx, odx), (lim, instObj 1062 limd), (limd, olim), (lo, ({ cls := .type "tuple", data := .seq #[.int 1 p0, .int 80 p1] } : Obj)), (re, ({ cls := .type "tuple", data := .seq #[.int 2 p2, .int 90 p3] } : Obj)), (a, instObj 461 ad), (ad, oad), (w', instObj 1041 wd), (wd, owd), (en, oen), (lt, W.listOf [].toArray 0), (l4, W.listOf (#[].push (.int 3 u9)) (0 + 1)), (sl, W.listOf (List.toArray ys) (List.length ys)), (tp, ({ cls := .type "tuple", data := .seq #[.int 4 ta, .int (0 + 1) tb] } : Obj)), (s', instObj 974 sd), (sd, osd), (c, instObj 629 cd), (cd, ocd), (q, instObj 741 qd), (qd, oqd)] ++ rest) → ND ([(x, instObj 1105 dx), (dx, odx), (lim, instObj 1062 limd), (limd, olim), (lo, ({ cls := .type "tuple", data := .seq #[.int 1 p0, .int 80 p1] } : Obj)), (re, ({ cls := .type "tuple", data := .seq #[.int 2 p2, .int 90 p3] } : Obj)), (a, instObj 461 ad), (ad, oad), (w', instObj 1041 wd), (wd, owd), (en, oen), (lt, W.listOf [].toArray 0), (l4, W.listOf (#[].push (.int 3 u9)) (0 + 1)), (sl, W.listOf (List.toArray ys) (List.length ys)), (tp, ({ cls := .type "tuple", data := .seq #[.int 4 ta, .int (0 + 1) tb] } : Obj)), (s', instObj 974 sd), (sd, osd), (c, instObj 629 cd), (cd, ocd), (q, instObj 741 qd), (qd, oqd)] ++ rest) → Q (.ref x) { s with heap := h', toks := tk' }) :
    wpC (model PySem.Challenge.rw_xw0345_01.prog w) A (call (.ref 1137) [.int ring tr, .int first tf, .int mss tm, .bool false]) Q E s := by
  obtain ⟨hd0, dp, fr0, gd, un⟩ := A
  dsimp only at hh hA hd9 hu9
  subst hh hA
  revert X; k_fill; intro X
  have N := P9.news N9
  have D := P9.nd D9
  refine wpC_call ?_
  walk_at "P enter"
  rename (∀ (b : Addr) (o : Obj), _ → ¬ _ → _) => kp
  refine execsC_any ?_
  k_steps
  refine execsC_any ?_
  k_steps
  refine execsC_any ?_
  k_steps
  refine execsC_any ?_
  k_steps
  refine execsC_any ?_
  k_steps
  show LeaveP _ _ _ _ _ _ _
  refine leaveP_ (by k_asm) (by k_asm) ?_
  intro F0 N0 fr0 kp0
  refine' P9.leave2 (S' := [(_, instObj 1105 _), (_, _), (_, instObj 1062 _), (_, _), (_, ({ cls := .type "tuple", data := .seq #[.int 1 _, .int 80 _] } : Obj)), (_, ({ cls := .type "tuple", data := .seq #[.int 2 _, .int 90 _] } : Obj)), (_, instObj 461 _), (_, _), (_, instObj 1041 _), (_, _), (_, _), (_, W.listOf [].toArray 0), (_, W.listOf (#[].push (.int 3 _)) (0 + 1)), (_, W.listOf (List.toArray _) (List.length _)), (_, ({ cls := .type "tuple", data := .seq #[.int 4 _, .int (0 + 1) _] } : Obj)), (_, instObj 974 _), (_, _), (_, instObj 629 _), (_, _), (_, instObj 741 _), (_, _)]) D9 N9 F0 N0 fr0 kp kp0 ?lP ?lD (hret _ _ _ _ _ _ _ _ _ _ _ _ _ _ _ _ _ _ _ _ _ _ _ _ _ _ _ _ _ _ _ _ _ _ _ _ _ _ _ _ _ _ ?p0 ?p1 ?p2 ?p3 ?p4 ?p5 ?p6 ?p7 ?p8 ?p9 ?p10)
  case p3 => walk_at "post"
  case lP => walk_at "pick"
  case lD => walk_at "nd"
  case p0 => walk_at "post"
  case p1 => walk_at "post"
  case p2 => walk_at "post"
  case p4 => walk_at "post"
  case p5 => walk_at "post"
  case p6 => walk_at "post"
  case p7 => walk_at "post"
  case p8 => walk_at "post"
  case p9 => walk_at "post"
  case p10 => walk_at "post"
end
-- N20
theorem words20 : True := by
  k_with "ints" => first | assumption | exact IntsAre.nil | (refine' IntsAre.cons _ _ ?bW84; (case bW84 => k_extra "ints"))
  k_with "inr" => first | assumption | (intro n hn; (simp only [List.mem_cons, List.not_mem_nil, or_false] at hn); omega)
  k_with "call type:bytes" => (k_here; (with_reducible show wpAny _ _ (call (Value.type "bytes") [Value.ref _]) _ _ _); k_dflt (refine' bytes_S ?k1W86 ?k2W86 ?k3W86 ?k4W86 ?k5W86 ?k6W86 ?k7W86 ?_; (case k1W86 => k_asm); (case k2W86 => k_asm); (case k3W86 => rfl); (case k4W86 => k_mem); (case k5W86 => k_extra "ints"); (case k6W86 => k_extra "inr"); (case k7W86 => first | exact Nat.le_of_ble_eq_true rfl | omega)); intro b' h' t' k' sm' F' N'; (try k_sweep))
  k_with "compareOp Eq ref ref" => (k_here; (with_reducible show wpAny _ _ (compareOp CmpOp.Eq (Value.ref _) (Value.ref _)) _ _ _); k_dflt (refine' eq_lists ?k1W87 ?k2W87 ?k3W87 ?k4W87 ?k5W87 ?_; (case k1W87 => k_asm); (case k2W87 => k_mem); (case k3W87 => k_mem); (case k4W87 => k_extra "same"); (case k5W87 => ktr_units)))
  k_with "call builtin:len" => (k_here; (with_reducible show wpAny _ _ (call (Value.builtin "len") [Value.ref _]) _ _ _); k_dflt (refine' len_l ?k1W88 ?k2W88 ?k3W88 ?k4W88 ?_; (case k1W88 => k_asm); (case k2W88 => k_mem); (case k3W88 => with_reducible assumption); (case k4W88 => omega)); intro t' tk')
  k_with "call builtin:list.append" => (k_here; k_dflt (refine' append_own ?k1W89 ?k2W89 ?k3W89 ?_ ?k4W89; (case k1W89 => k_asm); (case k2W89 => k_asm); (case k3W89 => with_reducible assumption); (case k4W89 => omega)); intro h' F' N'; (try k_sweep))
  trivial
section
variable {all rest : List (Addr × Obj)} {w : World} {mean : ExcName → Option Value} {mg mb : Str → Option Value} {A : Around} {env : Env} {outer : List Env} {A₀ : Around} {base h₀ : Heap} {L : Addr} {m : Str → Option Value} {s : Shared} {Q E : Value → Shared → Prop}
theorem pieceof_U {ml : Addr} {vs : List Value} {n : Nat} {ns : List Int} {mss : Int} {tm : Tok}
    (B : Below A₀ base outer h₀) (F : Fr h₀ L s.heap m) (X : (hd.heap_1 w.params).In h₀) (P9 : Pick [(ml, W.listOf (List.toArray vs) n)] all rest) (D9 : ND all) (N9 : News h₀ L s.heap all) (T : Top vu LOOSE mean mg mb h₀) (hk : env.scope.kind = .function) (hf : env.frame = some L) (hh : A.handled = none) (hA : A.frames = some (env :: outer)) (hd9 : A.depth + 14 < recursionLimit) (hu9 : A.units + 200 < cLine)
    (i0 : IntsAre vs ns) (i1 : ∀ v ∈ ns, 0 ≤ v ∧ v ≤ 256) (i2 : ns.length ≤ 21) (m1 : 1 ≤ mss) (m2 : mss ≤ 6)
    (hret : ∀ (tp : Addr) (k : Nat) (hf : Int) (b : Array UInt8) (tb th : Tok) (h' : Heap) (tk' : Nat), PieceRes ns mss k hf → Same (ns.take k) b → Fr h₀ L h' m → News h₀ L h' ([(tp, ({ cls := .type "tuple", data := .seq #[.bytes b tb, .int hf th] } : Obj)), (ml, W.listOf (List.toArray vs) n)] ++ rest) → ND ([(tp, ({ cls := .type "tuple", data := .seq #[.bytes b tb, .int hf th] } : Obj)), (ml, W.listOf (List.toArray vs) n)] ++ rest) → Q (.ref tp) { s with heap := h', toks := tk' }) :
    wpAny (model PySem.Challenge.rw_xw0345_01.prog w) A (call (.ref 1149) [.ref ml, .int mss tm]) Q E s := by
  obtain ⟨hd0, dp, fr0, gd, un⟩ := A
  dsimp only at hh hA hd9 hu9
  subst hh hA
  revert X; k_fill; intro X
  have N := P9.news N9
  have D := P9.nd D9
  refine wpAny_call ?_
  walk_at "A enter"
  rename (∀ (b : Addr) (o : Obj), _ → ¬ _ → _) => kp
  iterate 10 (first | (k_unfold; (try dsimp only)) | (k_end; wrow_close) | walk1 | (dsimp only; walk1) | (leave1; try dsimp only))
  rename ND _ => D8
  rename News _ _ _ _ => N8
  rename Fr _ _ _ _ => F8
  refine iter_invNL (PJ _ ml vs ns mss n _) rfl (by k_mem) i0 F8 N8 (PJ.start m1) ?_ ?_
  · intro i v t m₁ news₁ h tk own hi hk1 ho hl hJ F1 N1
    obtain ⟨fs, c, rfl, fi, hne, hle, hm⟩ := hJ
    have F1 := fr_off hm F1
    have off := off_of ho D8
    have hv := i1 v (List.mem_of_getElem? hi)
    have il := (List.getElem?_eq_some_iff.mp hi).1
    have l8 : (ns.take i).length = i := by rw [List.length_take]; omega
    have fl9 : fs.length = i := fi.length.trans l8
    have In9 := in_take i1 hne
    simp only [List.cons_append, List.nil_append] at N1
    clear hm hl hk1 F8 N8
    k_steps
    · skip
      show LeaveP _ _ _ _ _ _ _
      refine leaveP_ (by k_asm) (by k_asm) ?_
      intro F0 N0 fr0 kp0
      refine' P9.leave (S' := [(_, ({ cls := .type "tuple", data := .seq #[.bytes _ _, .int _ _] } : Obj)), (ml, W.listOf (List.toArray vs) n)]) D9 N9 F0 N0 fr0 kp kp0 ?sb ?nd (hret _ i _ _ _ _ _ _ ?p0 ?p1)
      case sb => lcg_sub
      case nd => exact ND.cons_lt ⟨by omega, trivial⟩ D
      case p0 => exact ⟨hne, hle, by omega, .inl ⟨rfl, by rw [hi]; congr⟩⟩
      case p1 => with_reducible assumption
    · skip
      show LeaveP _ _ _ _ _ _ _
      refine leaveP_ (by k_asm) (by k_asm) ?_
      intro F0 N0 fr0 kp0
      refine' P9.leave (S' := [(_, ({ cls := .type "tuple", data := .seq #[.bytes _ _, .int _ _] } : Obj)), (ml, W.listOf (List.toArray vs) n)]) D9 N9 F0 N0 fr0 kp kp0 ?sb ?nd (hret _ i _ _ _ _ _ _ ?p0 ?p1)
      case sb => lcg_sub
      case nd => exact ND.cons_lt ⟨by omega, trivial⟩ D
      case p0 => exact ⟨hne, hle, by omega, .inr (.inl ⟨rfl, by omega, il, by rw [hi]; intro e; exact absurd (Option.some.inj e) (by assumption)⟩)⟩
      case p1 => with_reducible assumption
    · refine InvEndN.intro (nx := [(_, W.listOf (List.toArray (fs ++ [Value.int v t])) (c + 1)), (ml, W.listOf (List.toArray vs) n)]) (by k_asm) (by k_asm) ⟨by k_mem, fs ++ [Value.int v t], c + 1, rfl, ints_snoc fi hi, take_ne hne hi (by assumption), by omega, fun z hz => if_neg hz⟩ rfl ?_ ?_
      · lcg_sub
      · lcg_sub
  · intro m₁ news₁ h tk hl hJ F1 N1
    obtain ⟨fs, c, rfl, fi, hne, hle, hm⟩ := hJ
    have F1 := fr_end hm F1
    have In9 := in_take i1 hne
    have l8 : (ns.take ns.length).length = ns.length := by rw [List.take_length]
    clear hm hl F8 N8
    k_steps
    show LeaveP _ _ _ _ _ _ _
    refine leaveP_ (by k_asm) (by k_asm) ?_
    intro F0 N0 fr0 kp0
    refine' P9.leave2 (S' := [(_, ({ cls := .type "tuple", data := .seq #[.bytes _ _, .int _ _] } : Obj)), (ml, W.listOf (List.toArray vs) n)]) D9 N9 F0 N0 fr0 kp kp0 ?lP ?lD (hret _ ns.length _ _ _ _ _ _ ?p0 ?p1)
    case lP => walk_at "pick"
    case lD => walk_at "nd"
    case p0 => exact ⟨hne, hle, Nat.le_refl _, .inr (.inr ⟨rfl, rfl⟩)⟩
    case p1 => with_reducible assumption
end
-- N21a

section
variable {all rest : List (Addr × Obj)} {w : World} {mean : ExcName → Option Value} {mg mb : Str → Option Value} {A : Around} {env : Env} {outer : List Env} {A₀ : Around} {base h₀ : Heap} {L : Addr} {m : Str → Option Value} {s : Shared} {Q E : Value → Shared → Prop}
theorem iss_cases {first ring : Int} (r0 : 64 ≤ ring) (b0 : 0 ≤ first) (b1 : first < ring) : (first = 0 ∧ Int.fmod (first - 1) ring = ring - 1) ∨ (1 ≤ first ∧ Int.fmod (first - 1) ring = first - 1) := by
  by_cases h : first = 0
  · exact .inl ⟨h, fm_of (by omega) (by omega) (-1) (by omega)⟩
  · exact .inr ⟨by omega, fm_of (by omega) (by omega) 0 (by omega)⟩
theorem syn_a0 {first ring : Int} (r0 : 64 ≤ ring) (b0 : 0 ≤ first) (b1 : first < ring) : Int.fmod (Int.fmod (first - 1) ring + 1) ring = first := by
  rcases iss_cases r0 b0 b1 with ⟨h, e⟩ | ⟨h, e⟩ <;> rw [e]
  · exact fm_of (by omega) (by omega) 1 (by omega)
  · exact fm_of (by omega) (by omega) 0 (by omega)
theorem syn_a1 {first ring : Int} (r0 : 64 ≤ ring) (b0 : 0 ≤ first) (b1 : first < ring) : Int.fmod (first - Int.fmod (first - 1) ring) ring = 1 := by
  rcases iss_cases r0 b0 b1 with ⟨h, e⟩ | ⟨h, e⟩ <;> rw [e]
  · exact fm_of (by omega) (by omega) (-1) (by omega)
  · exact fm_of (by omega) (by omega) 0 (by omega)
theorem fm_self {a ring : Int} (r0 : 64 ≤ ring) : Int.fmod (a - a) ring = 0 := fm_of (by omega) (by omega) 0 (by omega)
def BkP (h₀ : Heap) (L : Addr) (m : Str → Option Value) (s₁ : Shared) (iss ring mss fo : Int) (sn sd q : Addr) (rest : List (Addr × Obj)) (fl : Flow) (s' : Shared) : Prop :=
  fl = .next ∧ ∃ nx k osd h tk, s' = { s₁ with heap := h, toks := tk } ∧ SenD iss ring mss iss nx fo q true false false osd ∧ Int.fmod (nx - iss) ring = k ∧ (if k < 1 then Int.fmod (iss + 1) ring else nx) = fo ∧ Fr h₀ L h m ∧ News h₀ L h ((sn, instObj 974 sd) :: (sd, osd) :: rest) ∧ ND ((sn, instObj 974 sd) :: (sd, osd) :: rest)
theorem BkP.mk {h₀ h : Heap} {L : Addr} {m : Str → Option Value} {s₁ : Shared} {iss ring mss fo nx k : Int} {sn sd q : Addr} {osd : Obj} {al rest : List (Addr × Obj)} {tk : Nat} (F : Fr h₀ L h m) (N : News h₀ L h al) (P : Pick [(sn, instObj 974 sd), (sd, osd)] al rest) (D : ND al) (S : SenD iss ring mss iss nx fo q true false false osd)
    (k0 : Int.fmod (nx - iss) ring = k) (f0 : (if k < 1 then Int.fmod (iss + 1) ring else nx) = fo) : BkP h₀ L m s₁ iss ring mss fo sn sd q rest .next { s₁ with heap := h, toks := tk } :=
  ⟨rfl, nx, k, osd, h, tk, rfl, S, k0, f0, F, P.newsAll N, P.ndAll D⟩
theorem back_any {M : Model} {A : Around} {t : Sem Flow} {s : Shared} {Q : Flow → Shared → Prop} {E : Value → Shared → Prop} {h₀ hh : Heap} {L : Addr} {m : Str → Option Value} {iss ring mss fo n0 : Int} {sn sd q : Addr} {o0 : Obj} {all rest : List (Addr × Obj)} (_F : Fr h₀ L hh m) (_N : News h₀ L hh all) (_P : Pick [(sn, instObj 974 sd), (sd, o0)] all rest)
    (_S : SenD iss ring mss iss n0 fo q true false false o0) (h : wpAny M A t (BkP h₀ L m s iss ring mss fo sn sd q rest) E s)
    (k : ∀ nx k osd h tk, SenD iss ring mss iss nx fo q true false false osd → Int.fmod (nx - iss) ring = k → (if k < 1 then Int.fmod (iss + 1) ring else nx) = fo → Fr h₀ L h m → News h₀ L h ((sn, instObj 974 sd) :: (sd, osd) :: rest) → ND ((sn, instObj 974 sd) :: (sd, osd) :: rest) → Q .next { s with heap := h, toks := tk }) : wpAny M A t Q E s := by
  refine wpAny_mono h ?_ fun e s' x => x
  rintro fl s' ⟨rfl, nx, k9, osd, h, tk, rfl, S, k0, f0, F, N, D⟩
  exact k nx k9 osd h tk S k0 f0 F N D
end
-- N21
theorem words21 : True := by
  k_with "call ref" => (k_here; (with_reducible show wpAny _ _ (call (Value.ref 823) _) _ _ _); k_dflt (refine' put_S ?k1W90 ?k2W90 ?k3W90 ?kPW90 ?kDW90 ?kNW90 ?k5W90 ?k6W90 ?kfW90 ?khW90 ?kAW90 ?kdW90 ?kuW90 ?q0W90 ?q1W90 ?q2W90 ?q3W90 ?_; (case kAW90 => exact rfl); (case khW90 => exact rfl); (case k1W90 => k_asm); (case k2W90 => k_asm); (case k3W90 => k_asm); (case k5W90 => k_asm); (case k6W90 => first | exact rfl | assumption); (case kfW90 => first | exact rfl | assumption); (case kNW90 => k_asm); (case kPW90 => k_extra "pick"); (case kDW90 => k_extra "nd"); (case q0W90 => k_extra "hyp"); (case q1W90 => k_extra "hyp"); (case q2W90 => first | with_reducible assumption | exact KBw.ints_list _); (case q3W90 => first | with_reducible assumption | exact Nat.le_of_ble_eq_true rfl); (case kdW90 => ktr_room); (case kuW90 => ktr_units)); intro oqd' rv' h' tk' o0' F' N' D'; (try dsimp only [List.cons_append, List.nil_append] at N' D'); (try k_sweep); (try dsimp only))
  k_with "call ref" => (k_here; (with_reducible show wpAny _ _ (call (Value.ref 584) _) _ _ _); k_dflt (refine' sent_U ?k1W91 ?k2W91 ?k3W91 ?kPW91 ?kDW91 ?kNW91 ?k5W91 ?k6W91 ?kfW91 ?khW91 ?kAW91 ?kdW91 ?kuW91 ?q0W91 ?_; (case kAW91 => exact rfl); (case khW91 => exact rfl); (case k1W91 => k_asm); (case k2W91 => k_asm); (case k3W91 => k_asm); (case k5W91 => k_asm); (case k6W91 => first | exact rfl | assumption); (case kfW91 => first | exact rfl | assumption); (case kNW91 => k_asm); (case kPW91 => k_extra "pick"); (case kDW91 => k_extra "nd"); (case q0W91 => k_extra "hyp"); (case kdW91 => ktr_room); (case kuW91 => ktr_units)); intro ocd' h' tk' o0' F' N' D'; (try dsimp only [List.cons_append, List.nil_append] at N' D'); (try k_sweep); (try dsimp only))
  k_with "call ref" => (k_here; (with_reducible show wpAny _ _ (call (Value.ref 1156) _) _ _ _); k_dflt (refine' answers_N ?k1W92 ?k2W92 ?k3W92 ?kPW92 ?kDW92 ?kNW92 ?k5W92 ?k6W92 ?kfW92 ?khW92 ?kAW92 ?kdW92 ?kuW92 ?q0W92 ?q1W92 ?q2W92 ?q3W92 ?q4W92 ?q5W92 ?q6W92 ?q7W92 ?q8W92 ?q9W92 ?q10W92 ?q11W92 ?q12W92 ?q13W92 ?q14W92 ?_; (case kAW92 => exact rfl); (case khW92 => exact rfl); (case k1W92 => k_asm); (case k2W92 => k_asm); (case k3W92 => k_asm); (case k5W92 => k_asm); (case k6W92 => first | exact rfl | assumption); (case kfW92 => first | exact rfl | assumption); (case kNW92 => k_asm); (case q0W92 => k_extra "hyp"); (case q11W92 => k_extra "hyp"); (case kPW92 => k_extra "pick"); (case kDW92 => k_extra "nd"); (case q1W92 => k_extra "hyp"); (case q2W92 => k_extra "hyp"); (case q3W92 => k_extra "hyp"); (case q4W92 => k_extra "hyp"); (case q5W92 => k_extra "hyp"); (case q6W92 => k_extra "hyp"); (case q7W92 => k_extra "hyp"); (case q8W92 => k_extra "hyp"); (case q9W92 => k_extra "hyp"); (case q10W92 => k_extra "hyp"); (case q12W92 => k_extra "hyp"); (case q13W92 => k_extra "hyp"); (case q14W92 => k_extra "hyp"); (case kdW92 => ktr_room); (case kuW92 => ktr_units)); intro osd' h' tk' o0' F' N' D'; (try dsimp only [List.cons_append, List.nil_append] at N' D'); (try k_sweep); (try dsimp only))
  k_with "call ref" => (k_here; (with_reducible show wpAny _ _ (call (Value.ref 1156) _) _ _ _); k_dflt (refine' answers_S ?k1W93 ?k2W93 ?k3W93 ?kPW93 ?kDW93 ?kNW93 ?k5W93 ?k6W93 ?kfW93 ?khW93 ?kAW93 ?kdW93 ?kuW93 ?q0W93 ?q1W93 ?q2W93 ?q3W93 ?q4W93 ?q5W93 ?q6W93 ?q7W93 ?q8W93 ?q9W93 ?q10W93 ?q11W93 ?q12W93 ?q13W93 ?q14W93 ?q15W93 ?q16W93 ?q17W93 ?_; (case kAW93 => exact rfl); (case khW93 => exact rfl); (case k1W93 => k_asm); (case k2W93 => k_asm); (case k3W93 => k_asm); (case k5W93 => k_asm); (case k6W93 => first | exact rfl | assumption); (case kfW93 => first | exact rfl | assumption); (case kNW93 => k_asm); (case q0W93 => k_extra "hyp"); (case q7W93 => k_extra "hyp"); (case kPW93 => k_extra "pick"); (case kDW93 => k_extra "nd"); (case q1W93 => k_extra "hyp"); (case q2W93 => k_extra "hyp"); (case q3W93 => k_extra "hyp"); (case q4W93 => k_extra "hyp"); (case q5W93 => k_extra "hyp"); (case q6W93 => k_extra "hyp"); (case q8W93 => k_extra "hyp"); (case q9W93 => k_extra "hyp"); (case q10W93 => k_extra "hyp"); (case q11W93 => k_extra "hyp"); (case q12W93 => k_extra "hyp"); (case q13W93 => k_extra "hyp"); (case q14W93 => k_extra "hyp"); (case q15W93 => k_extra "hyp"); (case q16W93 => k_extra "hyp"); (case q17W93 => k_extra "hyp"); (case kdW93 => ktr_room); (case kuW93 => ktr_units)); intro osd' h' tk' o0' F' N' D'; (try dsimp only [List.cons_append, List.nil_append] at N' D'); (try k_sweep); (try dsimp only))
  k_with "C none" => (k_dflt (refine' end_none ?k1W94 ?k2W94 ?k3W94 ?kPW94 ?kDW94 ?kNW94 ?k5W94 ?k6W94 ?kfW94 ?khW94 ?kAW94 ?kdW94 ?kuW94 ?q0W94 ?q1W94 ?q2W94 ?q3W94 ?q4W94 ?q5W94 ?_; (case kAW94 => exact rfl); (case khW94 => exact rfl); (case k1W94 => k_asm); (case k2W94 => k_asm); (case k3W94 => k_asm); (case k5W94 => k_asm); (case k6W94 => first | exact rfl | assumption); (case kfW94 => first | exact rfl | assumption); (case kNW94 => k_asm); (case kPW94 => k_extra "pick"); (case kDW94 => k_extra "nd"); (case q0W94 => k_extra "hyp"); (case q1W94 => k_extra "hyp"); (case q2W94 => k_extra "hyp"); (case q3W94 => k_extra "hyp"); (case q4W94 => k_extra "hyp"); (case q5W94 => k_extra "hyp"); (case kdW94 => ktr_room); (case kuW94 => ktr_units)); intro x dx lim limd lo re s9 sd q qd c cd a ad w9 wd en lt l4 sl tp odx olim oad owd oen osd ocd oqd wt hg ys p0 p1 p2 p3 u9 ta tb td h' tk' o0' o1' o2' o3' o4' o5' o6' o7' o8' o9' o10' F' N' D'; (try dsimp only [List.cons_append, List.nil_append] at N' D'); (try k_sweep); (try dsimp only))
  k_with "C come" => (k_dflt (refine' end_come ?k1W95 ?k2W95 ?k3W95 ?kPW95 ?kDW95 ?kNW95 ?k5W95 ?k6W95 ?kfW95 ?khW95 ?kAW95 ?kdW95 ?kuW95 ?q0W95 ?q1W95 ?q2W95 ?q3W95 ?q4W95 ?q5W95 ?_; (case kAW95 => exact rfl); (case khW95 => exact rfl); (case k1W95 => k_asm); (case k2W95 => k_asm); (case k3W95 => k_asm); (case k5W95 => k_asm); (case k6W95 => first | exact rfl | assumption); (case kfW95 => first | exact rfl | assumption); (case kNW95 => k_asm); (case kPW95 => k_extra "pick"); (case kDW95 => k_extra "nd"); (case q0W95 => k_extra "hyp"); (case q1W95 => k_extra "hyp"); (case q2W95 => k_extra "hyp"); (case q3W95 => k_extra "hyp"); (case q4W95 => k_extra "hyp"); (case q5W95 => k_extra "hyp"); (case kdW95 => ktr_room); (case kuW95 => ktr_units)); intro x dx lim limd lo re s9 sd q qd c cd r rd ra a ad w9 wd en lt l4 sl tp odx olim ord oad owd oen osd ocd oqd wt hg ys p0 p1 p2 p3 u9 ta tb td h' tk' o0' o1' o2' o3' o4' o5' o6' o7' o8' o9' o10' o11' F' N' D'; (try dsimp only [List.cons_append, List.nil_append] at N' D'); (try k_sweep); (try dsimp only))
  trivial
section
variable {all rest : List (Addr × Obj)} {w : World} {mean : ExcName → Option Value} {mg mb : Str → Option Value} {A : Around} {env : Env} {outer : List Env} {A₀ : Around} {base h₀ : Heap} {L : Addr} {m : Str → Option Value} {s : Shared} {Q E : Value → Shared → Prop}
theorem syn_N {ring first mss : Int} {tr tf tm : Tok} {bk : Bool}
    (B : Below A₀ base outer h₀) (F : Fr h₀ L s.heap m) (X : (hd.heap_1 w.params).In h₀) (P9 : Pick [] all rest) (D9 : ND all) (N9 : News h₀ L s.heap all) (T : Top vu LOOSE mean mg mb h₀) (hk : env.scope.kind = .function) (hf : env.frame = some L) (hh : A.handled = none) (hA : A.frames = some (env :: outer)) (hd9 : A.depth + 60 < recursionLimit) (hu9 : A.units + 700 < cLine)
    (r0 : 64 ≤ ring) (r1 : ring ≤ 4294967296) (b0 : 0 ≤ first) (b1 : first < ring) (m1 : 1 ≤ mss) (m2 : mss ≤ 6)
    (hret : ∀  (h' : Heap) (tk' : Nat), Fr h₀ L h' m → News h₀ L h' ([] ++ rest) → ND ([] ++ rest) → Q (.bool true) { s with heap := h', toks := tk' }) :
    wpC (model PySem.Challenge.rw_xw0345_01.prog w) A (call (.ref 1163) [.int ring tr, .int first tf, .int mss tm, .bool false, .bool bk]) Q E s := by
  obtain ⟨hd0, dp, fr0, gd, un⟩ := A
  dsimp only at hh hA hd9 hu9
  subst hh hA
  revert X; k_fill; intro X
  have a0 : Int.fmod ((Int.fmod (first - 1) ring) + 1) ring = first := syn_a0 r0 b0 b1
  have a1 : Int.fmod (first - (Int.fmod (first - 1) ring)) ring = 1 := syn_a1 r0 b0 b1
  have z0 : Int.fmod ((Int.fmod (first - 1) ring) - (Int.fmod (first - 1) ring)) ring = 0 := fm_self r0
  have g1 : (if (1 : Int) < 1 then Int.fmod ((Int.fmod (first - 1) ring) + 1) ring else first) = first := if_neg (by decide)
  have g0 : (if (0 : Int) < 1 then Int.fmod ((Int.fmod (first - 1) ring) + 1) ring else (Int.fmod (first - 1) ring)) = first := (if_pos (by decide)).trans a0
  have N := P9.news N9
  have D := P9.nd D9
  refine wpC_call ?_
  walk_at "P enter"
  rename (∀ (b : Addr) (o : Obj), _ → ¬ _ → _) => kp
  refine execsC ?_
  refine assignNameC ?_
  refine evalCallC ?_
  k_steps
  walk_at "C call"
  k_steps
  walk_at "C none"
  k_steps
  iterate 3 (refine execsC_any ?_; k_steps)
  refine execsC_any ?_
  rename Fr _ _ _ _ => F5
  refine' back_any (iss := (Int.fmod (first - 1) ring)) (fo := first) F5 ?bN ?bP ?bS ?bh ?bk
  case bN => k_asm
  case bP => walk_at "pick"
  case bS => assumption
  case bh =>
    k_steps
    all_goals (refine' BkP.mk ?zF ?zN ?zP ?zD ?zS ?z0 ?z1; (case zF => k_asm); (case zN => k_asm); (case zP => walk_at "pick"); (case zD => walk_at "nd"); (case zS => assumption); (case z0 => assumption); (case z1 => assumption))
  clear F5
  intro nx9 k9 osd9 h9 tk9 S9 k09 f09 F9 N9' D9'
  dsimp only
  refine wpC_any ?_
  k_steps
  show LeaveP _ _ _ _ _ _ _
  refine leaveP_ (by k_asm) (by k_asm) ?_
  intro F0 N0 fr0 kp0
  refine' P9.leave2 (S' := []) D9 N9 F0 N0 fr0 kp kp0 ?lP ?lD (hret _ _ )
  case lP => walk_at "pick"
  case lD => walk_at "nd"
end
-- N21s

section
variable {all rest : List (Addr × Obj)} {w : World} {mean : ExcName → Option Value} {mg mb : Str → Option Value} {A : Around} {env : Env} {outer : List Env} {A₀ : Around} {base h₀ : Heap} {L : Addr} {m : Str → Option Value} {s : Shared} {Q E : Value → Shared → Prop}
theorem syn_S {ring first mss : Int} {tr tf tm : Tok} {bk : Bool}
    (B : Below A₀ base outer h₀) (F : Fr h₀ L s.heap m) (X : (hd.heap_1 w.params).In h₀) (P9 : Pick [] all rest) (D9 : ND all) (N9 : News h₀ L s.heap all) (T : Top vu LOOSE mean mg mb h₀) (hk : env.scope.kind = .function) (hf : env.frame = some L) (hh : A.handled = none) (hA : A.frames = some (env :: outer)) (hd9 : A.depth + 60 < recursionLimit) (hu9 : A.units + 700 < cLine)
    (r0 : 64 ≤ ring) (r1 : ring ≤ 4294967296) (b0 : 0 ≤ first) (b1 : first < ring) (m1 : 1 ≤ mss) (m2 : mss ≤ 6)
    (hret : ∀  (h' : Heap) (tk' : Nat), Fr h₀ L h' m → News h₀ L h' ([] ++ rest) → ND ([] ++ rest) → Q (.bool true) { s with heap := h', toks := tk' }) :
    wpC (model PySem.Challenge.rw_xw0345_01.prog w) A (call (.ref 1163) [.int ring tr, .int first tf, .int mss tm, .bool true, .bool bk]) Q E s := by
  obtain ⟨hd0, dp, fr0, gd, un⟩ := A
  dsimp only at hh hA hd9 hu9
  subst hh hA
  revert X; k_fill; intro X
  have a0 : Int.fmod ((Int.fmod (first - 1) ring) + 1) ring = first := syn_a0 r0 b0 b1
  have a1 : Int.fmod (first - (Int.fmod (first - 1) ring)) ring = 1 := syn_a1 r0 b0 b1
  have z0 : Int.fmod ((Int.fmod (first - 1) ring) - (Int.fmod (first - 1) ring)) ring = 0 := fm_self r0
  have g1 : (if (1 : Int) < 1 then Int.fmod ((Int.fmod (first - 1) ring) + 1) ring else first) = first := if_neg (by decide)
  have g0 : (if (0 : Int) < 1 then Int.fmod ((Int.fmod (first - 1) ring) + 1) ring else (Int.fmod (first - 1) ring)) = first := (if_pos (by decide)).trans a0
  have N := P9.news N9
  have D := P9.nd D9
  refine wpC_call ?_
  walk_at "P enter"
  rename (∀ (b : Addr) (o : Obj), _ → ¬ _ → _) => kp
  refine execsC ?_
  refine assignNameC ?_
  refine evalCallC ?_
  k_steps
  walk_at "C call"
  k_steps
  walk_at "C come"
  k_steps
  iterate 3 (refine execsC_any ?_; k_steps)
  refine execsC_any ?_
  rename Fr _ _ _ _ => F5
  refine' back_any (iss := (Int.fmod (first - 1) ring)) (fo := first) F5 ?bN ?bP ?bS ?bh ?bk
  case bN => k_asm
  case bP => walk_at "pick"
  case bS => assumption
  case bh =>
    k_steps
    all_goals (refine' BkP.mk ?zF ?zN ?zP ?zD ?zS ?z0 ?z1; (case zF => k_asm); (case zN => k_asm); (case zP => walk_at "pick"); (case zD => walk_at "nd"); (case zS => assumption); (case z0 => assumption); (case z1 => assumption))
  clear F5
  intro nx9 k9 osd9 h9 tk9 S9 k09 f09 F9 N9' D9'
  dsimp only
  refine wpC_any ?_
  k_steps
  show LeaveP _ _ _ _ _ _ _
  refine leaveP_ (by k_asm) (by k_asm) ?_
  intro F0 N0 fr0 kp0
  refine' P9.leave2 (S' := []) D9 N9 F0 N0 fr0 kp kp0 ?lP ?lD (hret _ _ )
  case lP => walk_at "pick"
  case lD => walk_at "nd"
end
-- N23
theorem words22 : True := by
  k_with "cell enter" => (k_dflt (refine' PySem.W.code_defC ?k1W96 ?k2W96 ?k3W96 ?k4W96 ?k5W96 ?kAW96 ?kFW96 ?kKW96 ?k6W96 ?k7W96 ?k8W96 ?k9W96 ?kBW96 ?kDW96 ?_ ?c2W96 ?c3W96 ?c4W96; (case kAW96 => exact rfl); (case kFW96 => first | exact rfl | assumption); (case kKW96 => first | exact rfl | assumption); (case k1W96 => k_asm); (case k2W96 => k_asm); (case k3W96 => k_asm); (case k4W96 => k_asm); (case k5W96 => k_asm); (case k6W96 => k_is); (case k7W96 => k_is); (case k8W96 => ktr_room); (case k9W96 => first | exact BindsTo.of_eq rfl | exact binds_K (by k_in) rfl (by k_is) rfl rfl rfl); (case kBW96 => exact rfl); (case kDW96 => decide +kernel); (case c2W96 => exact rfl); (case c3W96 => exact rfl); (case c4W96 => exact rfl); k_whole; intro g' L' h' tk' cells' FG' F' N' Y' B' X' T' l1; (try k_lt l1); k_cells Y'; (try simp only [List.cons_append, List.nil_append] at N'); (try dsimp only); (try k_lift B'); (try k_fold)))
  trivial
section
variable {all rest : List (Addr × Obj)} {w : World} {mean : ExcName → Option Value} {mg mb : Str → Option Value} {A : Around} {env : Env} {outer : List Env} {A₀ : Around} {base h₀ : Heap} {L : Addr} {m : Str → Option Value} {s : Shared} {Q E : Value → Shared → Prop}
theorem marks_U {xs : Array UInt8} {ks : List Int} {gone fin : Int} {tb tg tf : Tok}
    (B : Below A₀ base outer h₀) (F : Fr h₀ L s.heap m) (X : (hd.heap_1 w.params).In h₀) (P9 : Pick [] all rest) (D9 : ND all) (N9 : News h₀ L s.heap all) (T : Top vu LOOSE mean mg mb h₀) (hk : env.scope.kind = .function) (hf : env.frame = some L) (hh : A.handled = none) (hA : A.frames = some (env :: outer)) (hd9 : A.depth + 14 < recursionLimit) (hu9 : A.units + 200 < cLine)
    (hx : KBw.bInts xs = ks) (h4 : ks.length ≤ 20) (h5 : 0 ≤ gone) (h6 : gone ≤ ks.length) (h7 : fin = 0 ∨ fin = 1)
    (hret : ∀ (ml : Addr) (vs : List Value) (n : Nat) (h' : Heap) (tk' : Nat), IntsAre vs (ks.take gone.toNat ++ List.replicate fin.toNat 256) → Fr h₀ L h' m → News h₀ L h' ([(ml, W.listOf (List.toArray vs) n)] ++ rest) → ND ([(ml, W.listOf (List.toArray vs) n)] ++ rest) → Q (.ref ml) { s with heap := h', toks := tk' }) :
    wpAny (model PySem.Challenge.rw_xw0345_01.prog w) A (call (.ref 1142) [.bytes xs tb, .int gone tg, .int fin tf]) Q E s := by
  obtain ⟨hd0, dp, fr0, gd, un⟩ := A
  dsimp only at hh hA hd9 hu9
  subst hh hA
  revert X; k_fill; intro X
  have N := P9.newsAll N9
  have D := P9.ndAll D9
  clear N9 D9 P9
  dsimp only [List.cons_append, List.nil_append] at N D
  refine wpAny_call ?_
  walk_at "cell enter"
  k_steps
  refine hret _ _ _ _ _ ?p0 (by k_asm) (by first | k_asm | (refine' cb_drop ?cbN ?cbS; (case cbN => assumption); (case cbS => lcg_sub))) ?pD
  case pD => exact ND.cons_lt (‹_ ∧ _ ∧ _ ∧ _ ∧ AllLt _ rest›).2.2.2.2 D
  case p0 => exact marks_eq (fun v hv => KBw.ints_in (hx ▸ hv)) h5 h6 (by assumption)
end
-- N22a

section
variable {all rest : List (Addr × Obj)} {w : World} {mean : ExcName → Option Value} {mg mb : Str → Option Value} {A : Around} {env : Env} {outer : List Env} {A₀ : Around} {base h₀ : Heap} {L : Addr} {m : Str → Option Value} {s : Shared} {Q E : Value → Shared → Prop}
theorem piece_law {ks : List Int} {gone fin mss hf : Int} {k : Nat} (h5 : 0 ≤ gone) (h6 : gone ≤ ks.length) (h7 : fin = 0 ∨ fin = 1) (h8 : fin = 1 → gone = ks.length) (hk : ∀ v ∈ ks, 0 ≤ v ∧ v < 256) (m1 : 1 ≤ mss)
    (R : PieceRes (ks.take gone.toNat ++ List.replicate fin.toNat 256) mss k hf) :
    ∃ sz : Int, 0 ≤ sz ∧ sz ≤ mss ∧ sz ≤ ks.length ∧ sz ≤ gone + fin ∧ (sz = mss ∨ sz = ks.length ∨ sz = gone + fin) ∧ (ks.take gone.toNat ++ List.replicate fin.toNat 256).take k = ks.take sz.toNat ∧ ((ks.take sz.toNat).length : Int) = sz ∧
      ((hf = 0 ∧ false = ((fin == 1) && decide (sz = ks.length) && decide (sz < gone + fin))) ∨ (hf = 1 ∧ true = ((fin == 1) && decide (sz = ks.length) && decide (sz < gone + fin)))) := by
  have hb : (fin == 1) = decide (fin = 1) := by by_cases h : fin = 1 <;> simp [h]
  rw [hb]
  obtain ⟨r1, r2, r3, r4⟩ := R
  have lt : (ks.take gone.toNat).length = gone.toNat := by rw [List.length_take]; omega
  have ll : (ks.take gone.toNat ++ List.replicate fin.toNat 256).length = gone.toNat + fin.toNat := by rw [List.length_append, lt, List.length_replicate]
  have at256 : ∀ j, gone.toNat ≤ j → j < gone.toNat + fin.toNat → (ks.take gone.toNat ++ List.replicate fin.toNat 256)[j]? = some 256 := fun j a b => by
    rw [List.getElem?_append_right (by omega), lt, List.getElem?_replicate, if_pos (by omega)]
  have below : ∀ j v, j < gone.toNat → (ks.take gone.toNat ++ List.replicate fin.toNat 256)[j]? = some v → v < 256 := fun j v a e => by
    rw [List.getElem?_append_left (by omega)] at e
    exact (hk v (List.mem_of_mem_take (List.mem_of_getElem? e))).2
  have kg : k ≤ gone.toNat := by
    rcases Nat.lt_or_ge gone.toNat k with h | h
    · exfalso
      have e := at256 gone.toNat (Nat.le_refl _) (by omega)
      refine r1 256 (List.mem_of_getElem? (i := gone.toNat) ?_) rfl
      rw [List.getElem?_take, if_pos h]; exact e
    · exact h
  have tk : (ks.take gone.toNat ++ List.replicate fin.toNat 256).take k = ks.take k := by
    rw [List.take_append_of_le_length (by omega), List.take_take, Nat.min_eq_left kg]
  refine ⟨(k : Int), by omega, r2, by omega, by omega, ?_, by rw [tk, Int.toNat_natCast], by rw [Int.toNat_natCast, List.length_take]; omega, ?_⟩
  · rcases r4 with ⟨-, e⟩ | ⟨-, e, -, -⟩ | ⟨-, e⟩
    · right; left
      have : ¬ k < gone.toNat := fun h => absurd (below k _ h e) (by omega)
      have hl := (List.getElem?_eq_some_iff.mp e).1
      have : fin = 1 := by omega
      have := h8 this
      omega
    · exact .inl e
    · right; right; omega
  · rcases r4 with ⟨hf1, e⟩ | ⟨hf0, e, hl, hne⟩ | ⟨hf0, e⟩
    · right
      refine ⟨hf1, ?_⟩
      have : ¬ k < gone.toNat := fun h => absurd (below k _ h e) (by omega)
      have hl := (List.getElem?_eq_some_iff.mp e).1
      have f1 : fin = 1 := by omega
      have g1 := h8 f1
      rw [decide_eq_true f1, decide_eq_true (show (k : Int) = ks.length by omega), decide_eq_true (show (k : Int) < gone + fin by omega)]; rfl
    · left
      refine ⟨hf0, ?_⟩
      have : k < gone.toNat := by
        rcases Nat.lt_or_ge k gone.toNat with h | h
        · exact h
        · exact absurd (at256 k h (by omega)) hne
      rcases h7 with f0 | f1
      · rw [decide_eq_false (show ¬ fin = 1 by omega)]; rfl
      · have g1 := h8 f1
        rw [decide_eq_false (show ¬ (k : Int) = ks.length by omega), Bool.and_false]; rfl
    · left
      refine ⟨hf0, ?_⟩
      have f0 : fin = 0 := by omega
      rw [decide_eq_false (show ¬ fin = 1 by omega)]; rfl
theorem fo_law {first W back b ring : Int} : (if W - back < b then Int.fmod (first + b) ring else Int.fmod (first + W - back) ring) = Int.fmod (first + (if b > W - back then b else W - back)) ring := by
  by_cases h : W - back < b
  · rw [if_pos h, if_pos h]
  · rw [if_neg h, if_neg h]; congr 1; omega
theorem hn_law {hf sz first W back ring : Int} {q : Bool} (h : (hf = 0 ∧ false = q) ∨ (hf = 1 ∧ true = q)) : ∃ hn : Bool, ((24 + hf = 24 ∧ hn = false) ∨ (24 + hf = 25 ∧ hn = true)) ∧ hn = q ∧ sz + hf = sz + (if hn = true then 1 else 0) ∧
    (if W - back < sz + hf then Int.fmod (first + (sz + hf)) ring else Int.fmod (first + W - back) ring) = Int.fmod (first + (if sz + hf > W - back then sz + hf else W - back)) ring := by
  rcases h with ⟨rfl, h⟩ | ⟨rfl, h⟩
  · exact ⟨false, .inl ⟨rfl, rfl⟩, h, rfl, fo_law⟩
  · exact ⟨true, .inr ⟨rfl, rfl⟩, h, rfl, fo_law⟩
theorem fm_cases {x ring : Int} (r0 : 64 ≤ ring) (h0 : 0 ≤ x) (h1 : x < 2 * ring) : (x < ring ∧ Int.fmod x ring = x) ∨ (ring ≤ x ∧ Int.fmod x ring = x - ring) := by
  by_cases h : x < ring
  · exact .inl ⟨h, fm_of h0 h 0 (by omega)⟩
  · exact .inr ⟨by omega, fm_of (by omega) (by omega) 1 (by omega)⟩
theorem oct_e0 {first W ring : Int} (r0 : 64 ≤ ring) (b0 : 0 ≤ first) (b1 : first < ring) (h0 : 0 ≤ W) (h1 : W ≤ 21) : Int.fmod (Int.fmod (first + W) ring - first) ring = W := by
  rcases fm_cases (x := first + W) r0 (by omega) (by omega) with ⟨h, e⟩ | ⟨h, e⟩ <;> rw [e]
  · exact fm_of (by omega) (by omega) 0 (by omega)
  · exact fm_of (by omega) (by omega) (-1) (by omega)
theorem oct_k0 {first W back ring : Int} (r0 : 64 ≤ ring) (b0 : 0 ≤ first) (b1 : first < ring) (h0 : 0 ≤ back) (h1 : back ≤ W) (h2 : W ≤ 21) : Int.fmod (Int.fmod (first + W - back) ring - first) ring = W - back := by
  rcases fm_cases (x := first + W - back) r0 (by omega) (by omega) with ⟨h, e⟩ | ⟨h, e⟩ <;> rw [e]
  · exact fm_of (by omega) (by omega) 0 (by omega)
  · exact fm_of (by omega) (by omega) (-1) (by omega)
theorem marks_bound {ks : List Int} {g f : Nat} (hk : ∀ v ∈ ks, 0 ≤ v ∧ v < 256) : ∀ v ∈ ks.take g ++ List.replicate f 256, 0 ≤ v ∧ v ≤ 256 := by
  intro v hv
  rcases List.mem_append.mp hv with h | h
  · have := hk v (List.mem_of_mem_take h); omega
  · have := List.eq_of_mem_replicate h; omega
theorem marks_len {ks : List Int} {gone fin : Int} (h4 : ks.length ≤ 20) (h5 : 0 ≤ gone) (h6 : gone ≤ ks.length) (h7 : fin = 0 ∨ fin = 1) : (ks.take gone.toNat ++ List.replicate fin.toNat 256).length ≤ 21 := by
  rw [List.length_append, List.length_take, List.length_replicate]; omega
theorem len_bS {prog : Program} {w : World} {A : Around} {E : Value → Shared → Prop} {s : Shared} {b : Array UInt8} {t : Tok} {l : List Int} {z : Int} {Q : Value → Shared → Prop} (hb : KBw.bInts b = l) (hl : (l.length : Int) = z) (hf : z ≤ 1000) (h : ∀ t tk, Q (.int z t) { s with toks := tk }) :
    wpAny (model prog w) A (call (.builtin "len") [.bytes b t]) Q E s := by
  refine KBw.len_K hb (by omega) ?_
  have := h (s.toks + 1) (s.toks + 1 + 1)
  rwa [← hl] at this
end
-- N22
theorem words23 : True := by
  k_with "call builtin:len" => (k_here; (with_reducible show wpAny _ _ (call (Value.builtin "len") [Value.bytes _ _]) _ _ _); k_dflt (refine' len_bS ?k1W97 ?k2W97 ?k3W97 ?_; (case k1W97 => with_reducible assumption); (case k2W97 => with_reducible assumption); (case k3W97 => omega)); intro t' tk')
  k_with "call ref" => (k_here; (with_reducible show wpAny _ _ (call (Value.ref 823) _) _ _ _); k_dflt (refine' put_S ?k1W98 ?k2W98 ?k3W98 ?kPW98 ?kDW98 ?kNW98 ?k5W98 ?k6W98 ?kfW98 ?khW98 ?kAW98 ?kdW98 ?kuW98 ?q0W98 ?q1W98 ?q2W98 ?q3W98 ?_; (case kAW98 => exact rfl); (case khW98 => exact rfl); (case k1W98 => k_asm); (case k2W98 => k_asm); (case k3W98 => k_asm); (case k5W98 => k_asm); (case k6W98 => first | exact rfl | assumption); (case kfW98 => first | exact rfl | assumption); (case kNW98 => k_asm); (case kPW98 => k_extra "pick"); (case kDW98 => k_extra "nd"); (case q0W98 => k_extra "hyp"); (case q1W98 => k_extra "hyp"); (case q2W98 => k_extra "hyp"); (case q3W98 => k_extra "hyp"); (case kdW98 => ktr_room); (case kuW98 => ktr_units)); intro oqd' rv' h' tk' o0' F' N' D'; (try dsimp only [List.cons_append, List.nil_append] at N' D'); (try k_sweep); (try dsimp only))
  k_with "call ref" => (k_here; (with_reducible show wpAny _ _ (call (Value.ref 1156) _) _ _ _); k_dflt (refine' answers_O ?k1W99 ?k2W99 ?k3W99 ?kPW99 ?kDW99 ?kNW99 ?k5W99 ?k6W99 ?kfW99 ?khW99 ?kAW99 ?kdW99 ?kuW99 ?q0W99 ?q1W99 ?q2W99 ?q3W99 ?q4W99 ?q5W99 ?q6W99 ?q7W99 ?q8W99 ?q9W99 ?q10W99 ?q11W99 ?q12W99 ?q13W99 ?q14W99 ?q15W99 ?q16W99 ?q17W99 ?q18W99 ?q19W99 ?q20W99 ?q21W99 ?q22W99 ?q23W99 ?q24W99 ?q25W99 ?q26W99 ?q27W99 ?q28W99 ?q29W99 ?_; (case kAW99 => exact rfl); (case khW99 => exact rfl); (case k1W99 => k_asm); (case k2W99 => k_asm); (case k3W99 => k_asm); (case k5W99 => k_asm); (case k6W99 => first | exact rfl | assumption); (case kfW99 => first | exact rfl | assumption); (case kNW99 => k_asm); (case q0W99 => k_extra "hyp"); (case q7W99 => k_extra "hyp"); (case q23W99 => k_extra "hyp"); (case kPW99 => k_extra "pick"); (case kDW99 => k_extra "nd"); (case q1W99 => k_extra "hyp"); (case q2W99 => k_extra "hyp"); (case q3W99 => k_extra "hyp"); (case q4W99 => k_extra "hyp"); (case q5W99 => k_extra "hyp"); (case q6W99 => k_extra "hyp"); (case q8W99 => k_extra "hyp"); (case q9W99 => k_extra "hyp"); (case q10W99 => k_extra "hyp"); (case q11W99 => k_extra "hyp"); (case q12W99 => k_extra "hyp"); (case q13W99 => k_extra "hyp"); (case q14W99 => k_extra "hyp"); (case q15W99 => k_extra "hyp"); (case q16W99 => k_extra "hyp"); (case q17W99 => k_extra "hyp"); (case q18W99 => k_extra "hyp"); (case q19W99 => k_extra "hyp"); (case q20W99 => k_extra "hyp"); (case q21W99 => k_extra "hyp"); (case q22W99 => k_extra "hyp"); (case q24W99 => k_extra "hyp"); (case q25W99 => k_extra "hyp"); (case q26W99 => k_extra "hyp"); (case q27W99 => k_extra "hyp"); (case q28W99 => k_extra "hyp"); (case q29W99 => k_extra "hyp"); (case kdW99 => ktr_room); (case kuW99 => ktr_units)); intro osd' h' tk' o0' F' N' D'; (try dsimp only [List.cons_append, List.nil_append] at N' D'); (try k_sweep); (try dsimp only))
  k_with "call ref" => (k_here; (with_reducible show wpAny _ _ (call (Value.ref 1142) _) _ _ _); k_dflt (refine' marks_U ?k1W100 ?k2W100 ?k3W100 ?kPW100 ?kDW100 ?kNW100 ?k5W100 ?k6W100 ?kfW100 ?khW100 ?kAW100 ?kdW100 ?kuW100 ?q0W100 ?q1W100 ?q2W100 ?q3W100 ?q4W100 ?_; (case kAW100 => exact rfl); (case khW100 => exact rfl); (case k1W100 => k_asm); (case k2W100 => k_asm); (case k3W100 => k_asm); (case k5W100 => k_asm); (case k6W100 => first | exact rfl | assumption); (case kfW100 => first | exact rfl | assumption); (case kNW100 => k_asm); (case kPW100 => k_extra "pick"); (case kDW100 => k_extra "nd"); (case q0W100 => k_extra "hyp"); (case q1W100 => k_extra "hyp"); (case q2W100 => k_extra "hyp"); (case q3W100 => k_extra "hyp"); (case q4W100 => k_extra "hyp"); (case kdW100 => ktr_room); (case kuW100 => ktr_units)); intro ml' vs' n' h' tk' o0' F' N' D'; (try dsimp only [List.cons_append, List.nil_append] at N' D'); (try k_sweep); (try dsimp only))
  k_with "call ref" => (k_here; (with_reducible show wpAny _ _ (call (Value.ref 1149) _) _ _ _); k_dflt (refine' pieceof_U ?k1W101 ?k2W101 ?k3W101 ?kPW101 ?kDW101 ?kNW101 ?k5W101 ?k6W101 ?kfW101 ?khW101 ?kAW101 ?kdW101 ?kuW101 ?q0W101 ?q1W101 ?q2W101 ?q3W101 ?q4W101 ?_; (case kAW101 => exact rfl); (case khW101 => exact rfl); (case k1W101 => k_asm); (case k2W101 => k_asm); (case k3W101 => k_asm); (case k5W101 => k_asm); (case k6W101 => first | exact rfl | assumption); (case kfW101 => first | exact rfl | assumption); (case kNW101 => k_asm); (case kPW101 => k_extra "pick"); (case kDW101 => k_extra "nd"); (case q0W101 => k_extra "hyp"); (case q1W101 => k_extra "hyp"); (case q2W101 => k_extra "hyp"); (case q3W101 => k_extra "hyp"); (case q4W101 => k_extra "hyp"); (case kdW101 => ktr_room); (case kuW101 => ktr_units)); intro tp' k' hf' b' tb' th' h' tk' o0' o1' F' N' D'; (try dsimp only [List.cons_append, List.nil_append] at N' D'); (try k_sweep); (try dsimp only))
  trivial
section
variable {all rest : List (Addr × Obj)} {w : World} {mean : ExcName → Option Value} {mg mb : Str → Option Value} {A : Around} {env : Env} {outer : List Env} {A₀ : Around} {base h₀ : Heap} {L : Addr} {m : Str → Option Value} {s : Shared} {Q E : Value → Shared → Prop}
theorem octets_U {ring first mss gone fin back : Int} {st : Addr} {xs : Array UInt8} {ks : List Int} {tr tf tm tb tg tf9 tk : Tok}
    (B : Below A₀ base outer h₀) (F : Fr h₀ L s.heap m) (X : (hd.heap_1 w.params).In h₀) (P9 : Pick [(st, ({ cls := .type "tuple", data := .seq #[.bytes xs tb, .int gone tg, .int fin tf9] } : Obj))] all rest) (D9 : ND all) (N9 : News h₀ L s.heap all) (T : Top vu LOOSE mean mg mb h₀) (hk : env.scope.kind = .function) (hf : env.frame = some L) (hh : A.handled = none) (hA : A.frames = some (env :: outer)) (hd9 : A.depth + 60 < recursionLimit) (hu9 : A.units + 700 < cLine)
    (r0 : 64 ≤ ring) (r1 : ring ≤ 4294967296) (b0 : 0 ≤ first) (b1 : first < ring) (m1 : 1 ≤ mss) (m2 : mss ≤ 6) (hx : KBw.bInts xs = ks) (h4 : ks.length ≤ 20) (h5 : 0 ≤ gone) (h6 : gone ≤ ks.length) (h7 : fin = 0 ∨ fin = 1) (h8 : fin = 1 → gone = ks.length) (w1 : 1 ≤ gone + fin) (k1 : 0 ≤ back) (k2 : back ≤ gone + fin)
    (hret : ∀  (h' : Heap) (tk' : Nat), Fr h₀ L h' m → News h₀ L h' ([] ++ rest) → ND ([] ++ rest) → Q (.bool true) { s with heap := h', toks := tk' }) :
    wpC (model PySem.Challenge.rw_xw0345_01.prog w) A (call (.ref 1170) [.int ring tr, .int first tf, .int mss tm, .ref st, .int back tk]) Q E s := by
  obtain ⟨hd0, dp, fr0, gd, un⟩ := A
  dsimp only at hh hA hd9 hu9
  subst hh hA
  revert X; k_fill; intro X
  have h40 : ks.length ≤ 40 := by omega
  have hk9 : ∀ v ∈ ks, 0 ≤ v ∧ v < 256 := fun v hv => KBw.ints_in (hx ▸ hv)
  have e0 : Int.fmod (Int.fmod (first + (gone + fin)) ring - first) ring = gone + fin := oct_e0 r0 b0 b1 (by omega) (by omega)
  have k0 : Int.fmod (Int.fmod (first + (gone + fin) - back) ring - first) ring = gone + fin - back := oct_k0 r0 b0 b1 (by omega) (by omega) (by omega)
  have mb := marks_bound (g := gone.toNat) (f := fin.toNat) hk9
  have mll := marks_len h4 h5 h6 h7
  have N := P9.news N9
  have D := P9.nd D9
  refine wpC_call ?_
  walk_at "P enter"
  rename (∀ (b : Addr) (o : Obj), _ → ¬ _ → _) => kp
  refine execsC_any ?_
  k_steps
  refine execsC ?_
  refine assignNameC ?_
  refine evalCallC ?_
  k_steps
  walk_at "C call"
  k_steps
  walk_at "C come"
  k_steps
  refine execsC_any ?_
  k_steps
  refine execsC_any ?_
  k_steps
  refine execsC_any ?_
  k_steps
  refine execsC_any ?_
  k_steps
  refine execsC_any ?_
  k_steps
  refine execsC_any ?_
  k_steps
  rename PieceRes _ _ _ _ => pr9
  rename Same _ _ => sm9
  obtain ⟨sz, s0, s1, s2, s3, s4, tk9, ls9, hh9⟩ := piece_law h5 h6 h7 h8 hk9 m1 pr9
  rw [tk9] at sm9
  have sb9 : KBw.bInts _ = _ := sm9
  obtain ⟨hn, e9, b9, pp9, ff9⟩ := hn_law (sz := sz) (first := first) (W := gone + fin) (back := back) (ring := ring) hh9
  refine wpC_any ?_
  k_steps
  show LeaveP _ _ _ _ _ _ _
  refine leaveP_ (by k_asm) (by k_asm) ?_
  intro F0 N0 fr0 kp0
  refine' P9.leave2 (S' := []) D9 N9 F0 N0 fr0 kp kp0 ?lP ?lD (hret _ _ )
  case lP => walk_at "pick"
  case lD => walk_at "nd"
end
-- L2

section
variable {all rest : List (Addr × Obj)} {w : World} {mean : ExcName → Option Value} {mg mb : Str → Option Value} {A : Around} {env : Env} {outer : List Env} {A₀ : Around} {base h₀ : Heap} {L : Addr} {m : Str → Option Value} {s : Shared} {Q E : Value → Shared → Prop}
theorem pool_ok (c : Int) : SrcOk ((if -1 - c > c then -1 - c else c) * (if decide (10 ^ Int.toNat 18 ≤ if -1 - c > c then -1 - c else c) = true then 1 else 0)) (Int.fmod ((Int.fmod (if -1 - c > c then -1 - c else c) 2147483629 + 17) * 48271) 2147483647) := by
  have g0 : 0 ≤ (if -1 - c > c then -1 - c else c) := by split <;> omega
  refine ⟨?_, fm0 _ (by decide), fm1 _ (by decide)⟩
  refine Int.mul_nonneg g0 ?_
  have z : ∀ p : Bool, (0 : Int) ≤ if p = true then 1 else 0 := by intro p; cases p <;> decide
  exact z _
theorem pool_U {sc : Addr} {vs : List Value} {ns : List Int}
    (B : Below A₀ base outer h₀) (F : Fr h₀ L s.heap m) (X : (hd.heap_1 w.params).In h₀) (P9 : Pick [] all rest) (D9 : ND all) (N9 : News h₀ L s.heap all) (T : Top vu LOOSE mean mg mb h₀) (hk : env.scope.kind = .function) (hf : env.frame = some L) (hh : A.handled = none) (hA : A.frames = some (env :: outer)) (hd9 : A.depth + 10 < recursionLimit) (hu9 : A.units + 100 < cLine)
    (hl : base.IsList sc vs.toArray) (hi : IntsAre vs ns) (hn : ns.length ≤ 63)
    (hret : ∀ (src : Addr) (a b : Int) (ta tb : Tok) (n : Nat) (h' : Heap) (tk' : Nat), SrcOk a b → Fr h₀ L h' m → News h₀ L h' ([(src, srcObj a b ta tb n)] ++ rest) → ND ([(src, srcObj a b ta tb n)] ++ rest) → Q (.ref src) { s with heap := h', toks := tk' }) :
    wpAny (model PySem.Challenge.rw_xw0345_01.prog w) A (call (.ref 1116) [.ref sc]) Q E s := by
  obtain ⟨hd0, dp, fr0, gd, un⟩ := A
  dsimp only at hh hA hd9 hu9
  subst hh hA
  revert X; k_fill; intro X
  have N := P9.newsAll N9
  have D := P9.ndAll D9
  clear N9 D9 P9
  dsimp only [List.cons_append, List.nil_append] at N D
  k_steps
  · skip
    refine' Pick.finish (S := [(_, W.listOf (List.toArray [.int _ _, .int _ _]) _)]) (rest := rest) ?fN ?fP ?fU ?fD (fun N0 D0 => hret _ _ _ _ _ _ _ _ ?p0 (by k_asm) N0 D0)
    case fN => k_asm
    case fP => walk_at "pick"
    case fU => walk_at "suff"
    case fD => walk_at "nd"
    case p0 => exact pool_ok _
  · cases hi with
    | nil =>
      exfalso
      rename decide _ = false => a9
      simp at a9
    | cons c t hi' =>
      k_dflt (refine item_listL (Fr.lst (by k_asm) (by assumption)) (by decide) (by decide) rfl ?_)
      k_steps
      refine' Pick.finish (S := [(_, W.listOf (List.toArray [.int _ _, .int _ _]) _)]) (rest := rest) ?fN ?fP ?fU ?fD (fun N0 D0 => hret _ _ _ _ _ _ _ _ ?p0 (by k_asm) N0 D0)
      case fN => k_asm
      case fP => walk_at "pick"
      case fU => walk_at "suff"
      case fD => walk_at "nd"
      case p0 => exact pool_ok _
end
-- L3
local macro_rules | `(tactic| mul_fits) => `(tactic| exact sq_fits rfl)
section
variable {all rest : List (Addr × Obj)} {w : World} {mean : ExcName → Option Value} {mg mb : Str → Option Value} {A : Around} {env : Env} {outer : List Env} {A₀ : Around} {base h₀ : Heap} {L : Addr} {m : Str → Option Value} {s : Shared} {Q E : Value → Shared → Prop}
theorem take_P {src : Addr} {a b top : Int} {ta tb tt : Tok} {n : Nat}
    (B : Below A₀ base outer h₀) (F : Fr h₀ L s.heap m) (X : (hd.heap_1 w.params).In h₀) (P9 : Pick [(src, srcObj a b ta tb n)] all rest) (D9 : ND all) (N9 : News h₀ L s.heap all) (T : Top vu LOOSE mean mg mb h₀) (hk : env.scope.kind = .function) (hf : env.frame = some L) (hh : A.handled = none) (hA : A.frames = some (env :: outer)) (hd9 : A.depth + 8 < recursionLimit) (hu9 : A.units + 60 < cLine)
    (s0 : SrcOk a b) (t0 : 1 ≤ top) (t1 : top ≤ 1000)
    (hret : ∀ (v a' b' : Int) (tv ta' tb' : Tok) (h' : Heap) (tk' : Nat), 0 ≤ v → v < top → SrcOk a' b' → Fr h₀ L h' m → News h₀ L h' ([(src, srcObj a' b' ta' tb' n)] ++ rest) → ND ([(src, srcObj a' b' ta' tb' n)] ++ rest) → Q (.int v tv) { s with heap := h', toks := tk' }) :
    wpAny (model PySem.Challenge.rw_xw0345_01.prog w) A (call (.ref 1123) [.ref src, .int top tt]) Q E s := by
  obtain ⟨hd0, dp, fr0, gd, un⟩ := A
  dsimp only at hh hA hd9 hu9
  subst hh hA
  revert X; k_fill; intro X
  obtain ⟨h0, hb0, hb1⟩ := s0
  have N := P9.news N9
  have D := P9.nd D9
  refine wpAny_call ?_
  walk_at "A enter"
  rename (∀ (b : Addr) (o : Obj), _ → ¬ _ → _) => kp
  k_steps
  all_goals
    show LeaveP _ _ _ _ _ _ _
    refine leaveP_ (by k_asm) (by k_asm) ?_
    intro F0 N0 fr0 kp0
    refine' P9.leave2 (S' := [(src, srcObj _ _ _ _ n)]) D9 N9 F0 N0 fr0 kp kp0 ?lP ?lD (hret _ _ _ _ _ _ _ _ ?p0 ?p1 ?p2)
    case lP => walk_at "pick"
    case lD => walk_at "nd"
    case p0 => exact fm0 _ (by omega)
    case p1 => exact fm1 _ (by omega)
    case p2 => first | exact ⟨fd0 (x := a) h0 (by omega), hb0, hb1⟩ | exact ⟨h0, fm0 _ (by decide), fm1 _ (by decide)⟩
end
-- L3o
theorem words24 : True := by
  k_with "call ref" => (k_here; (with_reducible show wpAny _ _ (call (Value.ref 1123) _) _ _ _); k_dflt (refine' take_P ?k1W102 ?k2W102 ?k3W102 ?kPW102 ?kDW102 ?kNW102 ?k5W102 ?k6W102 ?kfW102 ?khW102 ?kAW102 ?kdW102 ?kuW102 ?q0W102 ?q1W102 ?q2W102 ?_; (case kAW102 => exact rfl); (case khW102 => exact rfl); (case k1W102 => k_asm); (case k2W102 => k_asm); (case k3W102 => k_asm); (case k5W102 => k_asm); (case k6W102 => first | exact rfl | assumption); (case kfW102 => first | exact rfl | assumption); (case kNW102 => k_asm); (case kPW102 => k_extra "pick"); (case kDW102 => k_extra "nd"); (case q0W102 => k_extra "hyp"); (case q1W102 => k_extra "hyp"); (case q2W102 => k_extra "hyp"); (case kdW102 => ktr_room); (case kuW102 => ktr_units)); intro v' a' b' tv' ta' tb' h' tk' o0' o1' o2' F' N' D'; (try dsimp only [List.cons_append, List.nil_append] at N' D'); (try k_sweep); (try dsimp only))
  trivial
section
variable {all rest : List (Addr × Obj)} {w : World} {mean : ExcName → Option Value} {mg mb : Str → Option Value} {A : Around} {env : Env} {outer : List Env} {A₀ : Around} {base h₀ : Heap} {L : Addr} {m : Str → Option Value} {s : Shared} {Q E : Value → Shared → Prop}
theorem one_P {src th : Addr} {a b : Int} {ta tb : Tok} {n n2 : Nat} {vs : List Value} {ns : List Int}
    (B : Below A₀ base outer h₀) (F : Fr h₀ L s.heap m) (X : (hd.heap_1 w.params).In h₀) (P9 : Pick [(src, srcObj a b ta tb n), (th, W.listOf (List.toArray vs) n2)] all rest) (D9 : ND all) (N9 : News h₀ L s.heap all) (T : Top vu LOOSE mean mg mb h₀) (hk : env.scope.kind = .function) (hf : env.frame = some L) (hh : A.handled = none) (hA : A.frames = some (env :: outer)) (hd9 : A.depth + 14 < recursionLimit) (hu9 : A.units + 120 < cLine)
    (s0 : SrcOk a b) (i0 : IntsAre vs ns) (l0 : 1 ≤ ns.length) (l1 : ns.length ≤ 10)
    (hret : ∀ (v a' b' : Int) (tv ta' tb' : Tok) (h' : Heap) (tk' : Nat), v ∈ ns → SrcOk a' b' → Fr h₀ L h' m → News h₀ L h' ([(src, srcObj a' b' ta' tb' n), (th, W.listOf (List.toArray vs) n2)] ++ rest) → ND ([(src, srcObj a' b' ta' tb' n), (th, W.listOf (List.toArray vs) n2)] ++ rest) → Q (.int v tv) { s with heap := h', toks := tk' }) :
    wpAny (model PySem.Challenge.rw_xw0345_01.prog w) A (call (.ref 1130) [.ref src, .ref th]) Q E s := by
  obtain ⟨hd0, dp, fr0, gd, un⟩ := A
  dsimp only at hh hA hd9 hu9
  subst hh hA
  revert X; k_fill; intro X
  have N := P9.news N9
  have D := P9.nd D9
  refine wpAny_call ?_
  walk_at "A enter"
  rename (∀ (b : Addr) (o : Obj), _ → ¬ _ → _) => kp
  k_steps
  show LeaveP _ _ _ _ _ _ _
  refine leaveP_ (by k_asm) (by k_asm) ?_
  intro F0 N0 fr0 kp0
  refine' P9.leave2 (S' := [(src, srcObj _ _ _ _ n), (th, W.listOf (List.toArray vs) n2)]) D9 N9 F0 N0 fr0 kp kp0 ?lP ?lD (hret _ _ _ _ _ _ _ _ ?p0 ?p1)
  case lP => walk_at "pick"
  case lD => walk_at "nd"
  case p0 => exact getD_mem (by assumption) (by assumption)
  case p1 => walk_at "post"
end
-- L4
section
open LCg in
theorem nd_off3 {I C D : Addr} {oI oC oD : Obj} {news : List (Addr × Obj)} (N : ND news) (o : Off3 I C D news) (h : (@Ne Nat I C) ∧ (@Ne Nat I D) ∧ (@Ne Nat C D)) : ND ((I, oI) :: (C, oC) :: (D, oD) :: news) := by
  have off : ∀ {l : List (Addr × Obj)}, Off3 I C D l → ∀ p ∈ l, p.1 ≠ I ∧ p.1 ≠ C ∧ p.1 ≠ D := by
    intro l
    induction l with
    | nil => intro _ p hp; cases hp
    | cons q l ih =>
      intro x p hp
      rcases List.mem_cons.mp hp with rfl | hp
      · exact x.1
      · exact ih x.2 p hp
  have off := off o
  have n3 : ∀ {X : Addr} {P : Addr → Prop}, (∀ p ∈ news, p.1 ≠ X) → X ∉ news.map (·.1) := fun h hm => by
    obtain ⟨p, hp, e⟩ := List.mem_map.mp hm
    exact h p hp e
  refine List.nodup_cons.mpr ⟨?_, List.nodup_cons.mpr ⟨?_, List.nodup_cons.mpr ⟨?_, N⟩⟩⟩
  · intro hm
    rcases List.mem_cons.mp hm with e | hm
    · exact h.1 e
    rcases List.mem_cons.mp hm with e | hm
    · exact h.2.1 e
    · exact n3 (P := fun _ => True) (fun p hp => (off p hp).1) hm
  · intro hm
    rcases List.mem_cons.mp hm with e | hm
    · exact h.2.2 e
    · exact n3 (P := fun _ => True) (fun p hp => (off p hp).2.1) hm
  · exact n3 (P := fun _ => True) fun p hp => (off p hp).2.2
open LCg in
theorem off3_keys {I C D : Addr} : ∀ {l l' : List (Addr × Obj)}, l'.map (·.1) = l.map (·.1) → Off3 I C D l → Off3 I C D l'
  | [], [], _, _ => trivial
  | [], _ :: _, e, _ => by simp at e
  | _ :: _, [], e, _ => by simp at e
  | p :: l, q :: l', e, x => by
    simp only [List.map_cons, List.cons.injEq] at e
    exact ⟨by rw [e.1]; exact x.1, off3_keys e.2 x.2⟩
open LCg in
/-- the octets drawn, one by one -/
theorem draws_rest {prog : Program} {w : World} {A : Around} {h₀ : Heap} {L : Addr} {m : Str → Option Value} {env : Env} {elt : PySem.Expr} {x : Str} {scope : Scope} {cl : List (Str × Addr)} {s : Shared} {P : Nat → Value → Prop} {Fin : List Value → List (Addr × Obj) → Prop} {src : Addr} {n : Nat} {base : List (Addr × Obj)}
    (He : ∀ (I C D : Addr) (oI oC : Obj) (m₂ : Str → Option Value) (ys : List Value) (s₁ : Shared) (a b : Int) (ta tb : Tok) (Q E : Value → Shared → Prop), NsObj oC m₂ → SrcOk a b → Fr h₀ L s₁.heap m → News h₀ L s₁.heap ((I, oI) :: (C, oC) :: (D, lst ys) :: (src, srcObj a b ta tb n) :: base) → ND ((I, oI) :: (C, oC) :: (D, lst ys) :: (src, srcObj a b ta tb n) :: base) →
      (∀ v a' b' tv ta' tb' h' tk', 0 ≤ v → v < 256 → SrcOk a' b' → Fr h₀ L h' m → News h₀ L h' ((src, srcObj a' b' ta' tb' n) :: (I, oI) :: (C, oC) :: (D, lst ys) :: base) → Q (.int v tv) { s₁ with heap := h', toks := tk' }) → wpAny (model prog w) A (eval elt (compEnvC scope cl C env)) Q E s₁) :
    ∀ (k i : Nat) (ys : List Value) (a b : Int) (ta tb : Tok), ys.length = i → (∃ ns, IntsAre ys ns ∧ ∀ v ∈ ns, 0 ≤ v ∧ v < 256) → SrcOk a b → ND ((src, srcObj a b ta tb n) :: base) →
      (∀ (ys : List Value) (a b : Int) (ta tb : Tok), ys.length = i + k → (∃ ns, IntsAre ys ns ∧ ∀ v ∈ ns, 0 ≤ v ∧ v < 256) → SrcOk a b → ND ((src, srcObj a b ta tb n) :: base) → Fin ys ((src, srcObj a b ta tb n) :: base)) →
      CompRest prog w A h₀ L m env elt x scope cl s (fun _ => True) P Fin k i ys ((src, srcObj a b ta tb n) :: base) := by
  intro k
  induction k with
  | zero => intro i ys a b ta tb h1 h2 h3 h4 h5; exact CompRest.zero (h5 ys a b ta tb h1 h2 h3 h4)
  | succ k ih =>
    intro i ys a b ta tb h1 h2 h3 h4 h5
    refine CompRest.succ fun v I oI C oC D m₂ h tk E' _ nC _ F N off ne => ?_
    have D9 := nd_off3 (oI := oI) (oC := oC) (oD := lst ys) h4 off ne
    refine He I C D oI oC m₂ ys { s with heap := h, toks := tk } a b ta tb _ _ nC h3 F N D9 ?_
    intro v a' b' tv ta' tb' h' tk' v0 v1 s' F' N'
    refine CompEnd.intro F' N' ((src, srcObj a' b' ta' tb' n) :: base) ?_ (off3_keys rfl off) trivial ?_
    · intro p hp
      simp only [List.mem_cons] at hp ⊢
      rcases hp with h | h | h | h | h
      · exact .inr (.inl h)
      · exact .inr (.inr (.inl h))
      · exact .inr (.inr (.inr (.inl h)))
      · exact .inl h
      · exact .inr (.inr (.inr (.inr h)))
    · obtain ⟨ns, hn, hb⟩ := h2
      refine ih (i + 1) (ys ++ [.int v tv]) a' b' ta' tb' (by rw [List.length_append, h1]; rfl) ⟨ns ++ [v], IntsAre.append hn (.cons _ _ .nil), fun u hu => ?_⟩ s' h4 fun ys a b ta tb e1 e2 e3 e4 => h5 ys a b ta tb (by omega) e2 e3 e4
      rcases List.mem_append.mp hu with hu | hu
      · exact hb u hu
      · have : u = v := by simpa using hu
        rw [this]; exact ⟨v0, v1⟩
theorem nd_one {D : Addr} {o : Obj} {news : List (Addr × Obj)} (N : ND news) (h : LCg.Off1 D news) : ND ((D, o) :: news) := by
  have off : ∀ {l : List (Addr × Obj)}, LCg.Off1 D l → ∀ p ∈ l, p.1 ≠ D := by
    intro l
    induction l with
    | nil => intro _ p hp; cases hp
    | cons q l ih =>
      intro x p hp
      rcases List.mem_cons.mp hp with rfl | hp
      · exact x.1
      · exact ih x.2 p hp
  exact List.nodup_cons.mpr ⟨fun hm => by
    obtain ⟨p, hp, e⟩ := List.mem_map.mp hm
    exact off h p hp e, N⟩
theorem range_small {k : Int} (h0 : 0 ≤ k) (h1 : k ≤ 20) : Builtin.Range.small 0 k 1 = true ∧ Builtin.Range.rangeSize 0 k 1 = ((k.toNat : Nat) : Int) := by
  have all : ∀ j : Nat, j < 21 → Builtin.Range.small 0 (j : Int) 1 = true ∧ Builtin.Range.rangeSize 0 (j : Int) 1 = (j : Int) := by decide +kernel
  have := all k.toNat (by omega)
  rw [Int.toNat_of_nonneg h0] at this
  rw [Int.toNat_of_nonneg h0]
  exact this
open LCg in
theorem comp_draws {prog : Program} {w : World} {A : Around} {h₀ : Heap} {L : Addr} {m : Str → Option Value} {env : Env} {elt : PySem.Expr} {x : Str} {scope : Scope} {cl : List (Str × Addr)} {s₁ : Shared} {Fin : Shared → List Value → List (Addr × Obj) → Prop} {src r : Addr} {n : Nat} {base all : List (Addr × Obj)} {a b many : Int} {ta tb t u v : Tok}
    (hh : A.handled = none) (F : Fr h₀ L s₁.heap m) (N : News h₀ L s₁.heap all) (P : Pick [(src, srcObj a b ta tb n)] all base) (D : ND all) (so : SrcOk a b) (hr : IsRange s₁.heap r 0 many 1 t u v) (h0 : 0 ≤ many) (h1 : many ≤ 20)
    (He : ∀ (I C D : Addr) (oI oC : Obj) (m₂ : Str → Option Value) (ys : List Value) (s₁ : Shared) (a b : Int) (ta tb : Tok) (Q E : Value → Shared → Prop), NsObj oC m₂ → SrcOk a b → Fr h₀ L s₁.heap m → News h₀ L s₁.heap ((I, oI) :: (C, oC) :: (D, lst ys) :: (src, srcObj a b ta tb n) :: base) → ND ((I, oI) :: (C, oC) :: (D, lst ys) :: (src, srcObj a b ta tb n) :: base) →
      (∀ v a' b' tv ta' tb' h' tk', 0 ≤ v → v < 256 → SrcOk a' b' → Fr h₀ L h' m → News h₀ L h' ((src, srcObj a' b' ta' tb' n) :: (I, oI) :: (C, oC) :: (D, lst ys) :: base) → Q (.int v tv) { s₁ with heap := h', toks := tk' }) → wpAny (model prog w) A (eval elt (compEnvC scope cl C env)) Q E s₁)
    (fin : ∀ (g : Heap) (ys : List Value) (ns : List Int) (a b : Int) (ta tb : Tok), IntsAre ys ns → KBa.In ns → (ns.length : Int) = many → SrcOk a b → ND ((src, srcObj a b ta tb n) :: base) → Fin { s₁ with heap := g } ys ((src, srcObj a b ta tb n) :: base)) :
    CompSrc prog w A h₀ L m env elt x scope cl Fin (.ref r) s₁ := by
  obtain ⟨e1, e2⟩ := range_small h0 h1
  refine CompSrc.range hh F (P.newsAll N : News h₀ L s₁.heap ((src, srcObj a b ta tb n) :: base)) hr e1 e2 (by rw [sizeLine_eq]; omega) fun g => ?_
  refine draws_rest He many.toNat 0 [] a b ta tb rfl ⟨[], .nil, by simp⟩ so (P.ndAll D) fun ys a b ta tb hl hn s' D' => ?_
  obtain ⟨ns, hi, hb⟩ := hn
  refine fin g ys ns a b ta tb hi hb ?_ s' D'
  have := hi.length
  omega
end
-- L5a

section
variable {all rest : List (Addr × Obj)} {w : World} {mean : ExcName → Option Value} {mg mb : Str → Option Value} {A : Around} {env : Env} {outer : List Env} {A₀ : Around} {base h₀ : Heap} {L : Addr} {m : Str → Option Value} {s : Shared} {Q E : Value → Shared → Prop}
def LJ (src c : Addr) (oc : Obj) (nx : List (Addr × Obj)) : Prop := ∃ a b ta tb n, nx = [(src, srcObj a b ta tb n), (c, oc)] ∧ SrcOk a b
theorem LJ.keys {src c : Addr} {oc : Obj} : ∀ nx, LJ src c oc nx → nx.map (·.1) = [src, c] := by
  rintro nx ⟨a, b, ta, tb, n, rfl, -⟩; rfl
def PK (h₀ : Heap) (L : Addr) (h : Heap) (c : Addr) : Prop := ∃ src oc a b ta tb n, News h₀ L h [(src, srcObj a b ta tb n), (c, oc)] ∧ ND [(src, srcObj a b ta tb n), (c, oc)] ∧ SrcOk a b ∧ oc.data = .cell (some (.ref src))
theorem pk_of {h₀ h : Heap} {L c src : Addr} {all R : List (Addr × Obj)} {oc : Obj} {a b : Int} {ta tb : Tok} {n : Nat} (d : oc.data = .cell (some (.ref src))) (N : News h₀ L h all) (P : Pick [(src, srcObj a b ta tb n), (c, oc)] all R) (D : ND all) (s : SrcOk a b) : PK h₀ L h c :=
  ⟨src, oc, a, b, ta, tb, n, P.news N, P.nd D, s, d⟩
theorem pk_elim {C : Prop} {h₀ h : Heap} {L c src : Addr} {all R : List (Addr × Obj)} {oc : Obj} {a b : Int} {ta tb : Tok} {n : Nat} (d : oc.data = .cell (some (.ref src))) (N : News h₀ L h all) (P : Pick [(src, srcObj a b ta tb n), (c, oc)] all R) (D : ND all) (s : SrcOk a b)
    (k : ∀ src oc a b ta tb n, News h₀ L h [(src, srcObj a b ta tb n), (c, oc)] → ND [(src, srcObj a b ta tb n), (c, oc)] → SrcOk a b → oc.data = .cell (some (.ref src)) → C) : C :=
  k src oc a b ta tb n (P.news N) (P.nd D) s d
def StP (h₀ : Heap) (L : Addr) (J : List (Addr × Obj) → Prop) (own : Addr × Obj) (s₁ : Shared) (f : Flow) (s' : Shared) : Prop := f = .next ∧ ∃ m₂ nx' h' tk', s' = { s₁ with heap := h', toks := tk' } ∧ Fr h₀ L h' m₂ ∧ News h₀ L h' (own :: nx') ∧ J nx'
theorem StP.mk {h₀ h : Heap} {L src c : Addr} {oc : Obj} {own : Addr × Obj} {s₁ : Shared} {tk : Nat} {m : Str → Option Value} {a b : Int} {ta tb : Tok} {n : Nat} {al R : List (Addr × Obj)} (F : Fr h₀ L h m) (N : News h₀ L h al) (P : Pick [own, (src, srcObj a b ta tb n), (c, oc)] al R) (j : SrcOk a b) : StP h₀ L (LJ src c oc) own s₁ .next { s₁ with heap := h, toks := tk } :=
  ⟨rfl, m, [(src, srcObj a b ta tb n), (c, oc)], h, tk, rfl, F, P.news N, a, b, ta, tb, n, rfl, j⟩
def ItP (h₀ : Heap) (L : Addr) (s : Shared) (J : List (Addr × Obj) → Prop) (n : Nat) (xv : Value) (s₁ : Shared) : Prop := ∃ r t u v m nx, xv = .ref r ∧ (∃ h tk, s₁ = { s with heap := h, toks := tk }) ∧ IsRange s₁.heap r 0 n 1 t u v ∧ Fr h₀ L s₁.heap m ∧ News h₀ L s₁.heap nx ∧ J nx
theorem ItP.mk {h₀ h : Heap} {L r : Addr} {s : Shared} {J : List (Addr × Obj) → Prop} {n tk : Nat} {t u v : Tok} {m : Str → Option Value} {nx : List (Addr × Obj)} (hr : IsRange h r 0 n 1 t u v) (F : Fr h₀ L h m) (N : News h₀ L h nx) (j : J nx) : ItP h₀ L s J n (.ref r) { s with heap := h, toks := tk } :=
  ⟨r, t, u, v, m, nx, rfl, ⟨h, tk, rfl⟩, hr, F, N, j⟩
theorem forC2 {prog : Program} {w : World} {A : Around} {s : Shared} {env : Env} (h₀ : Heap) {Q : Flow → Shared → Prop} {E : Value → Shared → Prop} {x : Str} {px pos : Pos} {iter : PySem.Expr} {body : List Stmt} {n : Nat} {adr : List Addr} (J : List (Addr × Obj) → Prop) (hh : A.handled = none) (hx : env.kindOf x = some .local)
    (hp : (env.scope.kind == .class || (env.scope.kind == .module && env.locals != env.globals)) = false) (had : adr.Nodup) (hJ : ∀ nx, J nx → nx.map (·.1) = adr) (hn : Builtin.Range.small 0 n 1 = true) (hz : Builtin.Range.rangeSize 0 n 1 = (n : Int))
    (h : wpAny (model prog w) A (eval iter env) (ItP h₀ env.locals s J n) E s)
    (step : ∀ I i nx m₁ (s₁ : Shared), (∃ h tk, s₁ = { s with heap := h, toks := tk }) → J nx → Fr h₀ env.locals s₁.heap m₁ → News h₀ env.locals s₁.heap ((I, rit (i + 1) n) :: nx) → ND ((I, rit (i + 1) n) :: nx) →
      wpC (model prog w) A (execs body env) (StP h₀ env.locals J (I, rit (i + 1) n) s₁) (fun _ _ => False) s₁)
    (done : ∀ m' nx h' tk', J nx → Fr h₀ env.locals h' m' → News h₀ env.locals h' nx → Q .next { s with heap := h', toks := tk' })
    (hs : ∀ x, foldedSetIterable iter env x = pure x := by intro _; rfl) : wpC (model prog w) A (exec (.For (.Name x px) iter body [] pos) env) Q E s :=
  forC (h₀ := h₀) J hh hx hp had hJ hn hz h step done hs
theorem cut_elim {C : Prop} {h₀ h : Heap} {L : Addr} {S all R : List (Addr × Obj)} (N : News h₀ L h all) (P : Pick S all R) (D : ND all) (k : News h₀ L h S → ND S → C) : C := k (P.news N) (P.nd D)
theorem back_b {v x y : Int} (h : v ∈ [0, x, y]) (h0 : 0 ≤ x) (h1 : 0 ≤ y) (h2 : y ≤ x) : 0 ≤ v ∧ v ≤ x := by
  simp only [List.mem_cons, List.not_mem_nil, or_false] at h
  omega
def GoneP (h₀ : Heap) (L : Addr) (m : Str → Option Value) (s : Shared) (own cel : Addr × Obj) (src : Addr) (n : Nat) (many fin : Int) (v : Value) (s' : Shared) : Prop :=
  ∃ g tg a b ta tb h tk, v = .int g tg ∧ s' = { s with heap := h, toks := tk } ∧ (0 ≤ g ∧ g ≤ many ∧ (fin = 1 → g = many) ∧ (1 ≤ many → 1 ≤ g)) ∧ SrcOk a b ∧ Fr h₀ L h m ∧ News h₀ L h [own, (src, srcObj a b ta tb n), cel] ∧ ND [own, (src, srcObj a b ta tb n), cel]
theorem GoneP.mk {h₀ h : Heap} {L : Addr} {m : Str → Option Value} {s : Shared} {own cel : Addr × Obj} {src : Addr} {n tk : Nat} {many fin g a b : Int} {tg ta tb : Tok} {all R : List (Addr × Obj)} (F : Fr h₀ L h m) (N : News h₀ L h all) (P : Pick [own, (src, srcObj a b ta tb n), cel] all R) (D : ND all) (so : SrcOk a b)
    (g0 : 0 ≤ g) (g1 : g ≤ many) (g2 : fin = 1 → g = many) (g3 : 1 ≤ many → 1 ≤ g) : GoneP h₀ L m s own cel src n many fin (.int g tg) { s with heap := h, toks := tk } :=
  ⟨g, tg, a, b, ta, tb, h, tk, rfl, rfl, ⟨g0, g1, g2, g3⟩, so, F, P.news N, P.nd D⟩
theorem gone_any {prog : Program} {w : World} {A : Around} {e : PySem.Expr} {env : Env} {s : Shared} {Q E : Value → Shared → Prop} {h₀ : Heap} {L : Addr} {m : Str → Option Value} {own cel : Addr × Obj} {src : Addr} {n : Nat} {many fin : Int} {tm tf : Tok} {h0 : Heap} (F0 : Fr h₀ L h0 m) (e1 : m (Str.ofString "many") = some (.int many tm)) (e2 : m (Str.ofString "fin") = some (.int fin tf))
    (h : wpAny (model prog w) A (eval e env) (GoneP h₀ L m s own cel src n many fin) E s)
    (k : ∀ g tg a b ta tb h tk, (0 ≤ g ∧ g ≤ many ∧ (fin = 1 → g = many) ∧ (1 ≤ many → 1 ≤ g)) → SrcOk a b → Fr h₀ L h m → News h₀ L h [own, (src, srcObj a b ta tb n), cel] → ND [own, (src, srcObj a b ta tb n), cel] → Q (.int g tg) { s with heap := h, toks := tk }) : wpAny (model prog w) A (eval e env) Q E s := by
  refine wpAny_mono h ?_ ?_
  · rintro v s' ⟨g, tg, a, b, ta, tb, h', tk, rfl, rfl, f, so, F, N, D⟩
    exact k g tg a b ta tb h' tk f so F N D
  · intro e s' x; exact x
theorem ring_b {v : Int} (h : v ∈ [64, 256, 2 ^ Int.toNat 32]) : 64 ≤ v ∧ v ≤ 4294967296 := by
  have e : (2 : Int) ^ Int.toNat 32 = 4294967296 := by decide +kernel
  rw [e] at h
  simp only [List.mem_cons, List.not_mem_nil, or_false] at h
  omega
theorem many_b {m x t : Int} (h : m ∈ [1, x, x + 1, t]) (h1 : 1 ≤ x ∧ x ≤ 6) (h2 : 0 ≤ t ∧ t < 21) : 0 ≤ m ∧ m ≤ 20 := by
  simp only [List.mem_cons, List.not_mem_nil, or_false] at h
  omega
theorem nd_of_news1 {h₀ h : Heap} {L a : Addr} {o : Obj} (N : News h₀ L h [(a, o)]) : ND [(a, o)] := by simp [ND]
end
-- L5b

section
variable {all rest : List (Addr × Obj)} {w : World} {mean : ExcName → Option Value} {mg mb : Str → Option Value} {A : Around} {env : Env} {outer : List Env} {A₀ : Around} {base h₀ : Heap} {L : Addr} {m : Str → Option Value} {s : Shared} {Q E : Value → Shared → Prop}
theorem syn_B {ring first mss : Int} {tr tf tm : Tok} {hc bk : Bool}
    (B : Below A₀ base outer h₀) (F : Fr h₀ L s.heap m) (X : (hd.heap_1 w.params).In h₀) (P9 : Pick [] all rest) (D9 : ND all) (N9 : News h₀ L s.heap all) (T : Top vu LOOSE mean mg mb h₀) (hk : env.scope.kind = .function) (hf : env.frame = some L) (hh : A.handled = none) (hA : A.frames = some (env :: outer)) (hd9 : A.depth + 60 < recursionLimit) (hu9 : A.units + 700 < cLine)
    (r0 : 64 ≤ ring) (r1 : ring ≤ 4294967296) (b0 : 0 ≤ first) (b1 : first < ring) (m1 : 1 ≤ mss) (m2 : mss ≤ 6)
    (hret : ∀  (h' : Heap) (tk' : Nat), Fr h₀ L h' m → News h₀ L h' ([] ++ rest) → ND ([] ++ rest) → Q (.bool true) { s with heap := h', toks := tk' }) :
    wpC (model PySem.Challenge.rw_xw0345_01.prog w) A (call (.ref 1163) [.int ring tr, .int first tf, .int mss tm, .bool hc, .bool bk]) Q E s := by
  cases hc
  · exact syn_N B F X P9 D9 N9 T hk hf hh hA hd9 hu9 r0 r1 b0 b1 m1 m2 hret
  · exact syn_S B F X P9 D9 N9 T hk hf hh hA hd9 hu9 r0 r1 b0 b1 m1 m2 hret
end
-- L5
local macro_rules | `(tactic| ktr_units) => `(tactic| ((simp only [units_make, units_in1, units_deeper, Around.mark_units, units_caller]); (try dsimp only); have hcL9 := cLine_is; omega))
theorem words25 : True := by
  k_with "C synB" => (k_dflt (refine' syn_B ?k1W103 ?k2W103 ?k3W103 ?kPW103 ?kDW103 ?kNW103 ?k5W103 ?k6W103 ?kfW103 ?khW103 ?kAW103 ?kdW103 ?kuW103 ?q0W103 ?q1W103 ?q2W103 ?q3W103 ?q4W103 ?q5W103 ?_; (case kAW103 => exact rfl); (case khW103 => exact rfl); (case k1W103 => k_asm); (case k2W103 => k_asm); (case k3W103 => k_asm); (case k5W103 => k_asm); (case k6W103 => first | exact rfl | assumption); (case kfW103 => first | exact rfl | assumption); (case kNW103 => k_asm); (case kPW103 => k_extra "pick"); (case kDW103 => k_extra "nd"); (case q0W103 => k_extra "hyp"); (case q1W103 => k_extra "hyp"); (case q2W103 => first | decide | exact fm0 _ (by omega)); (case q3W103 => first | decide | exact fm1 _ (by omega)); (case q4W103 => k_extra "hyp"); (case q5W103 => k_extra "hyp"); (case kdW103 => ktr_room); (case kuW103 => ktr_units)); intro  h' tk'  F' N' D'; (try dsimp only [List.cons_append, List.nil_append] at N' D'); (try k_sweep); (try dsimp only))
  k_with "C 1170" => (k_dflt (refine' octets_U ?k1W104 ?k2W104 ?k3W104 ?kPW104 ?kDW104 ?kNW104 ?k5W104 ?k6W104 ?kfW104 ?khW104 ?kAW104 ?kdW104 ?kuW104 ?q0W104 ?q1W104 ?q2W104 ?q3W104 ?q4W104 ?q5W104 ?q6W104 ?q7W104 ?q8W104 ?q9W104 ?q10W104 ?q11W104 ?q12W104 ?q13W104 ?q14W104 ?_; (case kAW104 => exact rfl); (case khW104 => exact rfl); (case k1W104 => k_asm); (case k2W104 => k_asm); (case k3W104 => k_asm); (case k5W104 => k_asm); (case k6W104 => first | exact rfl | assumption); (case kfW104 => first | exact rfl | assumption); (case kNW104 => k_asm); (case kPW104 => k_extra "pick"); (case kDW104 => k_extra "nd"); (case q0W104 => k_extra "hyp"); (case q1W104 => k_extra "hyp"); (case q2W104 => first | decide | exact fm0 _ (by omega)); (case q3W104 => first | decide | exact fm1 _ (by omega)); (case q4W104 => k_extra "hyp"); (case q5W104 => k_extra "hyp"); (case q6W104 => assumption); (case q7W104 => k_extra "hyp"); (case q8W104 => k_extra "hyp"); (case q9W104 => k_extra "hyp"); (case q10W104 => k_extra "hyp"); (case q11W104 => k_extra "hyp"); (case q12W104 => k_extra "hyp"); (case q13W104 => k_extra "hyp"); (case q14W104 => k_extra "hyp"); (case kdW104 => ktr_room); (case kuW104 => ktr_units)); intro  h' tk'  F' N' D'; (try dsimp only [List.cons_append, List.nil_append] at N' D'); (try k_sweep); (try dsimp only))
  k_with "call ref" => (k_here; (with_reducible show wpAny _ _ (call (Value.ref 1116) _) _ _ _); k_dflt (refine' pool_U ?k1W105 ?k2W105 ?k3W105 ?kPW105 ?kDW105 ?kNW105 ?k5W105 ?k6W105 ?kfW105 ?khW105 ?kAW105 ?kdW105 ?kuW105 ?q0W105 ?q1W105 ?q2W105 ?_; (case kAW105 => exact rfl); (case khW105 => exact rfl); (case k1W105 => k_asm); (case k2W105 => k_asm); (case k3W105 => k_asm); (case k5W105 => k_asm); (case k6W105 => first | exact rfl | assumption); (case kfW105 => first | exact rfl | assumption); (case kNW105 => k_asm); (case kPW105 => k_extra "pick"); (case kDW105 => k_extra "nd"); (case q0W105 => assumption); (case q1W105 => assumption); (case q2W105 => k_extra "hyp"); (case kdW105 => ktr_room); (case kuW105 => ktr_units)); intro src' a' b' ta' tb' n' h' tk' o0' F' N' D'; (try dsimp only [List.cons_append, List.nil_append] at N' D'); (try k_sweep); (try dsimp only))
  k_with "call ref" => (k_here; (with_reducible show wpAny _ _ (call (Value.ref 1130) _) _ _ _); k_dflt (refine' one_P ?k1W106 ?k2W106 ?k3W106 ?kPW106 ?kDW106 ?kNW106 ?k5W106 ?k6W106 ?kfW106 ?khW106 ?kAW106 ?kdW106 ?kuW106 ?q0W106 ?q1W106 ?q2W106 ?q3W106 ?_; (case kAW106 => exact rfl); (case khW106 => exact rfl); (case k1W106 => k_asm); (case k2W106 => k_asm); (case k3W106 => k_asm); (case k5W106 => k_asm); (case k6W106 => first | exact rfl | assumption); (case kfW106 => first | exact rfl | assumption); (case kNW106 => k_asm); (case kPW106 => k_extra "pick"); (case kDW106 => k_extra "nd"); (case q0W106 => k_extra "hyp"); (case q1W106 => k_extra "ints"); (case q2W106 => exact Nat.le_of_ble_eq_true rfl); (case q3W106 => exact Nat.le_of_ble_eq_true rfl); (case kdW106 => ktr_room); (case kuW106 => ktr_units)); intro v' a' b' tv' ta' tb' h' tk' o0' o1' F' N' D'; (try dsimp only [List.cons_append, List.nil_append] at N' D'); (try k_sweep); (try dsimp only))
  k_with "CompSrc" => (k_here; (with_reducible show LCg.CompSrc _ _ _ _ _ _ _ (PySem.Expr.Call _ _ _ _) _ _ _ _ _ _); k_dflt (refine' comp_draws ?hhW107 ?hFW107 ?hNW107 ?hPW107 ?hDW107 ?soW107 ?hrW107 ?h0W107 ?h1W107 ?HeW107 ?_; (case hhW107 => exact rfl); (case hFW107 => k_asm); (case hNW107 => k_asm); (case hPW107 => k_extra "pick"); (case hDW107 => k_extra "nd"); (case soW107 => assumption); (case hrW107 => assumption); (case h0W107 => omega); (case h1W107 => omega); (case HeW107 => skip; k_extra "draw"; skip); intro g ys ns a b ta tb hi hb hl so D; unfold LCg.FinE; intro D' h' tk' F' N' o1; (have DD9 := nd_one (o := W.listOf ys.toArray ys.length) D o1); (try k_sweep); (try dsimp only); skip))
  k_with "draw" => (intro I C D oI oC m₂ ys s₁ a b ta tb Q E nC so F N D9 hQ; k_steps; refine' hQ _ _ _ _ _ _ _ _ ?v0W108 ?v1W108 ?v2W108 ?v3W108 ?v4W108; (case v0W108 => assumption); (case v1W108 => assumption); (case v2W108 => assumption); (case v3W108 => k_asm); (case v4W108 => k_asm))
  trivial
section
variable {all rest : List (Addr × Obj)} {w : World} {mean : ExcName → Option Value} {mg mb : Str → Option Value} {A : Around} {env : Env} {outer : List Env} {A₀ : Around} {base h₀ : Heap} {L : Addr} {m : Str → Option Value} {s : Shared} {Q E : Value → Shared → Prop}
theorem walk : left hd := by
  delta left
  k_fill
  intro w s₀ s₁ mg mb G Y fa o pm cd doc dV kV ho hd' hcd hD hmg hg args vals as hpre hlay hrd hwl hlo
  have KX := kIn_of Y
  have X := (Ground.X G).1
  have V := (Ground.X G).2
  try w_nolog (first | (have GL := glob_more (Ground.glob G (by decide +kernel) (by decide +kernel)) V) | (have GL := glob_more (Ground.glob G (by decide +kernel)) V))
  refine Ground.open G ?_
  intro T B D TE TW
  try (refine guard_noD D (by decide +kernel) ?_; clear D)
  obtain ⟨_, _, M⟩ := bmod_of_top T
  have TA := at_of_top T
  clear hmg
  wrow_args hpre hlay hrd hwl hlo
  have he := Dflts.none hD rfl
  subst he
  have he := Dflts.noKw hD
  subst he
  refine wpC_call (call_cellsC (by decide) ho (fd_plain hd') (Top.nolimit T) hcd rfl (kinds_of (by kinds_ok)) (by decide) fun h₁ tk₁ cells F N0 X0 => ?_)
  cells_open X0
  have D0 := nd_of_news1 N0
  have K0 := below_caller s₁.heap
  clear hd' TA
  k_drop
  dsimp only
  refine execsC ?_
  refine ifC ?_
  refine notC ?_
  refine evalCallC ?_
  k_steps
  walk_at "C call"
  k_steps
  walk_at "C 1170"
  refine ⟨true, rfl, ?_⟩
  show wpC _ _ (execs [] _) _ _ _
  refine wpC_any ?_
  k_steps
  refine execsC ?_
  refine ifC ?_
  refine notC ?_
  refine evalCallC ?_
  k_steps
  walk_at "C call"
  k_steps
  walk_at "C 1170"
  refine ⟨true, rfl, ?_⟩
  show wpC _ _ (execs [] _) _ _ _
  refine wpC_any ?_
  k_steps
  refine execsC_any ?_
  k_steps
  rename Fr _ _ _ _ => F8
  refine' pk_elim (c := s₁.heap.objs.size + 1) ?zd ?zN ?zP ?zD ?zs ?zk
  case zd => assumption
  case zN => k_asm
  case zP => walk_at "pick"
  case zD => walk_at "nd"
  case zs => assumption
  clear D0
  intro src oc a8 b8 ta8 tb8 n8 N9 D9 s9 d9
  refine execsC ?_
  refine forC2 s₁.heap (n := 4) (adr := [src, s₁.heap.objs.size + 1]) (LJ src (s₁.heap.objs.size + 1) oc) rfl rfl rfl (by simpa [ND] using D9) LJ.keys (by decide) (by decide) ?it ?step ?done
  case it =>
    k_steps
    refine' ItP.mk ?zr ?zF ?zN ?zj
    case zr => assumption
    case zF => k_asm
    case zN => k_asm
    case zj => exact ⟨_, _, _, _, _, rfl, s9⟩
  case done =>
    intro m' nx h' tk' hj F' N'
    refine wpC_any ?_
    k_steps
    dsimp only
    refine GoodW.toG (goodW_bool (by assumption) (by assumption) (raisesW_false ?zn) ?zp)
    case zn => wrow_none_raised
    case zp => wrow_post
  case step =>
    clear F8 N9 D9 s9
    intro I i nx m₁ s₂ hs hJ F1 N1 D1
    obtain ⟨h2, tk2, rfl⟩ := hs
    obtain ⟨a, b, ta, tb, n, rfl, sok⟩ := hJ
    refine execsC_any ?_
    k_steps
    rename _ ∈ _ => rm
    have rb := ring_b rm
    clear rm
    refine execsC_any ?_
    k_steps
    refine execsC_any ?_
    k_steps
    rename _ ∈ _ => rm
    have mb := many_b rm (by omega) (by omega)
    refine execsC_any ?_
    k_steps
    refine' cut_elim (S := [(I, rit (i + 1) 4), (src, srcObj _ _ _ _ n), (s₁.heap.objs.size + 1, oc)]) ?cN ?cP ?cD ?_
    case cN => k_asm
    case cP => walk_at "pick"
    case cD => walk_at "nd"
    intro N5 D5
    refine execsC_any ?_
    walk1
    rename Fr _ _ _ _ => F5
    refine' gone_any (own := (I, rit (i + 1) 4)) (cel := (s₁.heap.objs.size + 1, oc)) (src := src) (n := n) F5 ?e1 ?e2 ?gh ?gk
    case e1 => exact rfl
    case e2 => exact rfl
    case gh =>
      k_steps
      all_goals skip
      all_goals (refine' GoneP.mk ?zF ?zN ?zP ?zD ?zs ?g0 ?g1 ?g2 ?g3; (case zF => k_asm); (case zN => k_asm); (case zP => walk_at "pick"); (case zD => walk_at "nd"); (case zs => assumption); (case g0 => omega); (case g1 => omega); (case g2 => omega); (case g3 => omega))
    case gk =>
      clear F5 N5 D5
      intro g tg a b ta tb h tk gb sok F6 N6 D6
      k_steps
      refine execsC ?_
      refine ifC_any ?_
      k_steps
      try dsimp only
      generalize hgf : decide ((0 : Int) < _) = bb
      cases bb
      case true =>
        have hgf' := of_decide_eq_true hgf
        clear hgf
        dsimp only
        refine execsC_any ?_
        k_steps
        refine execsC ?_
        refine ifC ?_
        refine notC ?_
        refine evalCallC ?_
        k_steps
        walk_at "C call"
        k_steps
        have kb := back_b (by assumption) (by omega) (by omega) (by omega)
        walk_at "C 1170"
        refine ⟨true, rfl, ?_⟩
        show wpC _ _ (execs [] _) _ _ _
        refine wpC_any ?_
        k_steps
        try dsimp only
        refine wpC_any ?_
        k_steps
        try dsimp only
        refine execsC ?_
        refine ifC ?_
        refine notC ?_
        refine evalCallC ?_
        k_steps
        walk_at "C call"
        k_steps
        walk_at "C synB"
        refine ⟨true, rfl, ?_⟩
        show wpC _ _ (execs [] _) _ _ _
        refine wpC_any ?_
        k_steps
        try dsimp only
        refine wpC_any ?_
        k_steps
        try dsimp only
        refine' StP.mk ?sF ?sN ?sP ?sj
        case sF => k_asm
        case sN => k_asm
        case sP => walk_at "pick"
        case sj => assumption
      case false =>
        have hgf' := of_decide_eq_false hgf
        clear hgf
        dsimp only
        refine wpC_any ?_
        k_steps
        try dsimp only
        refine execsC ?_
        refine ifC ?_
        refine notC ?_
        refine evalCallC ?_
        k_steps
        walk_at "C call"
        k_steps
        walk_at "C synB"
        refine ⟨true, rfl, ?_⟩
        show wpC _ _ (execs [] _) _ _ _
        refine wpC_any ?_
        k_steps
        try dsimp only
        refine wpC_any ?_
        k_steps
        try dsimp only
        refine' StP.mk ?sF ?sN ?sP ?sj
        case sF => k_asm
        case sN => k_asm
        case sP => walk_at "pick"
        case sj => assumption
end
end Mine
theorem PySem.Challenge.cw_xw0345_01_holds : PySem.Challenge.rw_xw0345_01.Holds := by
  exact Mine.top Mine.walk
