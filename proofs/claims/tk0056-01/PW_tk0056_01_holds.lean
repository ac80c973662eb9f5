import PyProof.Rows.All
import Wide.All
import OpenK.AllK
import Wide.FinOn
import PySem.Challenge.RW_tk0056_01
open PySem PySem.W PyProof.Rows PySem.Calls
set_option Elab.async false
set_option maxRecDepth 100000
set_option maxHeartbeats 8000000
namespace Mine

section
-- part C0
/-- codes that hold a bytearray while they run -/
def holderIds : List String := ["bytearray.__contains__", "bytearray.__mod__", "bytearray.__rmod__", "_struct.pack_into.held", "bytearray.find.held"] ++ Builtin.Bytes.decodersThatHold
def isHolder : Code → Bool
  | .builtin id _ => holderIds.contains id
  | _ => false
def CleanL (l : List (Code × Pos)) : Prop := ∀ x ∈ l, isHolder x.1 = false
def Clean (Γ : Ctx) : Prop := isHolder Γ.code = false ∧ CleanL Γ.below
def wpC {α : Type} (M : Model) (A : Around) (t : Sem α) (Q : α → Shared → Prop) (E : Value → Shared → Prop) (s : Shared) : Prop :=
  ∀ Γ p, Γ.In A → Clean Γ → Sem.wp M Γ t (fun a _ s' => Q a s') (fun e _ s' => E e s') p s
def codeC (M : Model) (A : Around) (c : Code) (R : Result → Shared → Prop) (s : Shared) : Prop :=
  ∀ Γ p, Γ.code = c → Γ.Below A → CleanL Γ.below → wpCode M Γ R p s
section
variable {α β : Type} {M : Model} {A : Around} {E : Value → Shared → Prop} {s : Shared}
theorem wpC_any {t : Sem α} {Q : α → Shared → Prop} (h : wpAny M A t Q E s) : wpC M A t Q E s := fun Γ p hi _ => h Γ p hi
theorem codeC_any {c : Code} {R : Result → Shared → Prop} (h : codeAny M A c R s) : codeC M A c R s := fun Γ p hc hb _ => h Γ p hc hb
theorem wpC_mono {t : Sem α} {Q Q' : α → Shared → Prop} {E' : Value → Shared → Prop} (h : wpC M A t Q E s)
    (hQ : ∀ a s, Q a s → Q' a s) (hE : ∀ e s, E e s → E' e s) : wpC M A t Q' E' s :=
  fun Γ p hi hc => Sem.wp_mono M Γ t (fun a _ s => hQ a s) (fun e _ s => hE e s) p s (h Γ p hi hc)
theorem codeC_mono {c : Code} {R R' : Result → Shared → Prop} (h : codeC M A c R s) (hR : ∀ r s, R r s → R' r s) : codeC M A c R' s :=
  fun Γ p hc hb hl => wpCode_mono hR (h Γ p hc hb hl)
theorem wpC_pure {a : α} {Q : α → Shared → Prop} (h : Q a s) : wpC M A (pure a) Q E s := fun _ _ _ _ => h
theorem wpC_bind {m : Sem α} {f : α → Sem β} {Q : β → Shared → Prop} (h : wpC M A m (fun a s' => wpC M A (f a) Q E s') E s) :
    wpC M A (m >>= f) Q E s := fun Γ p hi hc => by
  rw [Sem.wp_bind']
  exact Sem.wp_mono M Γ m (fun a p' s' h' => h' Γ p' hi hc) (fun _ _ _ h' => h') p s (h Γ p hi hc)
/-- the first part by the library's own rules, what is behind it in a clean place -/
theorem wpC_first {m : Sem α} {f : α → Sem β} {Q : β → Shared → Prop} (h : wpAny M A m (fun a s' => wpC M A (f a) Q E s') E s) :
    wpC M A (m >>= f) Q E s := wpC_bind (wpC_any h)
theorem wpC_holding {vs : List Value} {m : Sem α} {Q : α → Shared → Prop} (h : wpC M A m Q E s) : wpC M A (holding vs m) Q E s :=
  fun Γ p hi hc => by rw [Sem.wp_holding]; exact h Γ p hi hc
theorem wpC_keep {vs : List Value} {m : Sem α} {Q : α → Shared → Prop} (h : wpC M A m Q E s) : wpC M A (m.keep vs) Q E s :=
  fun Γ p hi hc => by rw [Sem.wp_keep]; exact h Γ p hi hc
theorem wpC_standAt {pos : Pos} {f : Unit → Sem β} {Q : β → Shared → Prop} (h : wpC M A (f ()) Q E s) : wpC M A (standAt pos >>= f) Q E s :=
  wpC_first (wpAny_standAt h)
theorem wpC_onRaise {m : Sem α} {k : Value → Sem Unit} {Q : α → Shared → Prop}
    (h : wpC M A m Q (fun e s' => wpAny M A (k e) (fun _ s'' => E e s'') E s') s) : wpC M A (m.onRaise k) Q E s := fun Γ p hi hc => by
  rw [Sem.wp_onRaise]
  exact Sem.wp_mono M Γ m (fun _ _ _ h' => h') (fun e p' s' h' => h' Γ p' hi) p s (h Γ p hi hc)
theorem wpC_operate {vs : List Value} {m : Sem Value} {Q : Value → Shared → Prop} (h : wpC M A m Q E s) : wpC M A (operate vs m) Q E s :=
  fun Γ p hi hc => by rw [Sem.wp_operate]; exact h Γ p hi hc
theorem codeC_tree {c : Code} {R : Result → Shared → Prop} (hh : isHolder c = false)
    (h : wpC M (A.under c) (M.den c) (fun fin s' => match fin with | .done f => R (.ok f) s' | .again c' => c'.quiet = true ∧ codeC M A c' R s')
      (fun e s' => R (.error e) s') s) : codeC M A c R s := fun Γ p hc hb hl => by
  rw [wpCode_iff_wp, hc]
  refine Sem.wp_mono M Γ _ (fun fin p' s' h' => ?_) (fun _ _ _ h' => h') p s (h Γ p (hc ▸ hb.in) ⟨by rw [hc]; exact hh, hl⟩)
  cases fin with
  | done f => exact h'
  | again c' => exact ⟨h'.1, h'.2 (Γ.goto c') p' rfl (hb.goto c') hl⟩
theorem codeC_loop {c : Code} {R : Result → Shared → Prop} (hh : isHolder c = false) (hq : c.quiet = true) (I : Nat → Shared → Prop)
    (turn : ∀ n s, I n s → wpC M (A.under c) (M.den c)
      (fun fin s' => match fin with | .done f => R (.ok f) s' | .again c' => (c' = c ∧ ∃ m, m < n ∧ I m s') ∨ (c'.quiet = true ∧ codeC M A c' R s')) (fun e s' => R (.error e) s') s)
    (n : Nat) (h : I n s) : codeC M A c R s := by
  induction n using Nat.strongRecOn generalizing s with
  | ind n ih =>
    refine codeC_tree hh (wpC_mono (turn n s h) (fun fin s' hf => ?_) fun _ _ h' => h')
    cases fin with
    | done f => exact hf
    | again c' =>
      rcases hf with ⟨rfl, m, hm, hI⟩ | hf
      · exact ⟨hq, ih m hm hI⟩
      · exact hf
theorem clean_enter {Γ : Ctx} (hc : Clean Γ) (c : Code) (h : Option Value) (p : Pos) : CleanL (Γ.enter c h p).below := by
  intro x hx
  have hx' : x ∈ (Γ.code, p) :: Γ.below := hx
  rcases List.mem_cons.mp hx' with rfl | hx'
  · exact hc.1
  · exact hc.2 x hx'
theorem wpC_run {c : Code} {h : Option Value} {Q : Flow → Shared → Prop}
    (hc : codeC M (A.mark h) c (fun r s' => match r with | .ok f => Q f s' | .error e => E e s') s) (hnb : h ≠ some byPass := by intro x; cases x) :
    wpC M A (run c h) Q E s :=
  fun Γ p hi hl => by rw [Sem.wp_run]; exact hc _ p rfl (hi.enter c h p hnb) (clean_enter hl c h p)
theorem wpC_call {f : Value} {pos : List Value} {kw : List (PySem.Str × Value)} {Q : Value → Shared → Prop}
    (hc : codeC M A (.call f ⟨pos, kw⟩) (fun r s' => match r with | .ok (.ret v) => Q v s' | .ok _ => False | .error e => E e s') s) :
    wpC M A (call f pos kw) Q E s :=
  fun Γ p hi hl => by
    show Sem.wp M Γ (runValue (.call f ⟨pos, kw⟩)) _ _ p s
    rw [Sem.wp_runValue]
    exact hc _ p rfl (hi.enter _ none p (by intro x; cases x)) (clean_enter hl _ none p)
end
section
variable {prog : Program} {w : World} {A : Around} {E : Value → Shared → Prop} {R : Result → Shared → Prop} {s : Shared}
theorem codeC_func {body : List Stmt} {env : Env}
    (h : wpC (model prog w) (A.deeper env) (execs body env) (fun f s' => R (.ok (.ret (match f with | .ret v => v | _ => .none))) s')
      (fun e s' => wpAny (model prog w) (A.deeper env) (leaving env e) (fun _ s'' => R (.error e) s'') (fun e' s'' => R (.error e') s'') s') s) :
    codeC (model prog w) A (.func body env) R s := by
  refine codeC_tree rfl ?_
  show wpC _ (A.deeper env) (do point; match ← (execs body env).onRaise (leaving env) with | .ret v => ret v | _ => ret .none) _ _ s
  refine wpC_first (wpAny_point (wpC_bind (wpC_onRaise (wpC_mono h (fun f s' h' => ?_) fun _ _ h' => h'))))
  cases f <;> exact wpC_pure h'
theorem codeC_function {a : Addr} {args : Args} {o : Obj} {fd : FuncData} {body : List Stmt} (hroom : A.depth < recursionLimit) (ho : s.heap.get? a = some o)
    (hd' : o.data = .func fd) (hco : fd.scope.isCoroutine = false) (hgen : fd.scope.isGenerator = false) (hbody : fd.body = .stmts body) (hcd : s.heap.CodeRec fd.code fd.qualname)
    (h : wpAny (model prog w) A.in1 (bindArgs fd args) (fun binds s₁ =>
      wpAny (model prog w) A.in1 (newFunctionEnv fd.scope fd.globals fd.closure binds (fd.qualname ++ ".<locals>.") (some a) fd.code none fd.builtins)
        (fun env s₂ => s₂.heap.NoLimit ∧ codeC (model prog w) A (.func body env) R s₂) (fun e s' => R (.error e) s') s₁) (fun e s' => R (.error e) s') s) :
    codeC (model prog w) A (.call (.ref a) args) R s := by
  refine codeC_tree rfl (wpC_any ?_)
  show wpAny _ A.in1 (callAny (.ref a) args) _ _ s
  simp only [callAny]
  refine wpAny_bind (wpAny_load ho ?_)
  obtain ⟨c, oc, vs, tq, hc, hoc, hdc, hq⟩ := hcd
  simp only [hd', callFunction, hco, hgen, hbody, hc]
  rw [hc] at h
  refine wpAny_bind (m := field (.ref c) 1) (wpAny_field hoc hdc hq (wpAny_bind (wpAny_pure ?_)))
  refine wpAny_bind (wpAny_mono h (fun binds s₁ h₁ => ?_) fun _ _ x => x)
  refine wpAny_bind (wpAny_mono h₁ (fun env s₂ h₂ => ?_) fun _ _ x => x)
  exact wpAny_bind (wpAny_enterFrame h₂.1 hroom (wpAny_pure (And.intro rfl h₂.2)))
theorem callC_plain {A₀ : Around} {base h₀ : Heap} {outer : List Env} {L : Addr} {m : PySem.Str → Option Value} {env : Env} {news : List (Addr × Obj)}
    {name qual : PySem.Str} {params : Arguments} {body : List Stmt} {scope : Scope} {cl : List (PySem.Str × Addr)} {dV kV doc pm cdv ct : Value} {an : Option Addr} {fo : Obj} {f : Addr} {args : Args} {binds : List (PySem.Str × Value)}
    (B : Below A₀ base outer h₀) (F : Fr h₀ L s.heap m) (N : News h₀ L s.heap news) (hlim : h₀.NoLimit) (hA : A.frames = some (env :: outer)) (hf : env.frame = some L) (hke : env.scope.kind = .function)
    (ho : s.heap.get? f = some fo) (hd : fo.data = .func (fnX name qual params body scope cl dV kV doc pm an cdv ct)) (hcd : s.heap.CodeRec cdv qual) (hroom : A.depth < recursionLimit)
    (hbind : BindsTo s (fnX name qual params body scope cl dV kV doc pm an cdv ct) args binds) (hloc : ∀ y ∈ binds, scope.names.lookup y.1 = some .local)
    (h : ∀ g L' h₁, Fr h₀ L g m → Fr g L' h₁ (fun y => binds.reverse.lookup y) → News g L' h₁ news → Below A base (env :: outer) g → h₀.StaysIn g → (∀ p ∈ news, p.1 < L') →
      wpC (model prog w) (A.deeper (envX qual scope L' f cdv cl)) (execs body (envX qual scope L' f cdv cl))
        (fun fl s' => LeaveK h₀ L m g R (match fl with | .ret v => v | _ => .none) s')
        (fun e s' => wpAny (model prog w) (A.deeper (envX qual scope L' f cdv cl)) (leaving (envX qual scope L' f cdv cl) e) (fun _ s'' => R (.error e) s'') (fun e' s'' => R (.error e') s'') s')
        { s with heap := h₁, toks := s.toks + binds.length })
    (hcell : ∀ x ∈ scope.names, x.2 ≠ .cell) (hco : scope.isCoroutine = false := by rfl) (hgen : scope.isGenerator = false := by rfl) (hk : scope.kind = .function := by rfl) :
    codeC (model prog w) A (.call (.ref f) args) R s := by
  obtain ⟨FG, BG, st, lv⟩ := groundX (R := R) B F N hA hf hke
  refine codeC_function hroom ho hd hco hgen rfl hcd (hbind _ _ _ _ ?_)
  refine wpAny_newFunctionEnv hcell hloc (fun h₁ hns hsb => ⟨(hlim.keeps F.keep).fresh _ hsb, codeC_func ?_⟩) hk
  have hk₁ : ∀ b o, s.heap.get? b = some o → h₁.get? b = some o := fun b o e => hsb.extBut b o (Nat.ne_of_lt (Heap.lt_size e)) (Heap.get?_push_of_some _ e)
  refine wpC_mono (h _ s.heap.objs.size h₁ FG ⟨hns, fun b o e => hk₁ b o (of_hideAll _ e), Nat.le_of_eq (hideAll_size _ _)⟩
    (fun p hp => ⟨hk₁ _ _ (N p hp).1, Nat.ne_of_lt (Heap.lt_size (N p hp).1), hideAll_none _ (List.mem_map_of_mem hp)⟩) BG st (fun p hp => Heap.lt_size (N p hp).1)) (fun fl s' hl => lv _ _ hl) fun _ _ y => y
end
section
variable {M : Model} {A : Around} {E : Value → Shared → Prop} {s : Shared} {env : Env} {Q : Flow → Shared → Prop}
theorem execs_C {st : Stmt} {rest : List Stmt} (h : wpC M A (exec st env) (fun f s' => match f with | .next => wpC M A (execs rest env) Q E s' | f => Q f s') E s) :
    wpC M A (execs (st :: rest) env) Q E s := by
  rw [execs_cons]
  refine wpC_bind (wpC_mono h (fun f s' h' => ?_) fun _ _ x => x)
  cases f <;> first | exact h' | exact wpC_pure h'
theorem execs_A {st : Stmt} {rest : List Stmt} (h : wpAny M A (exec st env) (fun f s' => match f with | .next => wpC M A (execs rest env) Q E s' | f => Q f s') E s) :
    wpC M A (execs (st :: rest) env) Q E s := execs_C (wpC_any h)
theorem if_C {test : Expr} {body orelse : List Stmt} {pos : Pos}
    (h : wpC M A (isTrue test env (eval test env)) (fun b s₂ => if b then wpC M A (execs body env) Q E s₂ else wpC M A (execs orelse env) Q E s₂) E s) :
    wpC M A (exec (.If test body orelse pos) env) Q E s := by
  rw [exec_If]
  refine wpC_standAt (wpC_bind (wpC_mono h (fun b s₂ h₂ => ?_) fun _ _ x => x))
  cases b <;> exact h₂
theorem assign_C {x : PySem.Str} {pos' pos : Pos} {value : Expr} (h : wpC M A (eval value env) (fun v s₁ => wpAny M A (storeName env x v) (fun _ => Q .next) E s₁) E s)
    (hs : swapsWith value (some (.Name x pos')) pos.line env = pure false := by rfl) : wpC M A (exec (.Assign [.Name x pos'] value pos) env) Q E s := by
  rw [exec_Assign_Name env x pos' value pos hs]
  refine wpC_standAt (wpC_bind (wpC_mono h (fun v s₁ h₁ => ?_) fun _ _ x => x))
  exact wpC_standAt (wpC_first (wpAny_mono (wpAny_bindName h₁) (fun _ _ q => wpC_pure q) fun _ _ x => x))
theorem return_C {e : Expr} {pos : Pos} (h : wpC M A (eval e env) (fun v => Q (.ret v)) E s) : wpC M A (exec (.Return (some e) pos) env) Q E s := by
  rw [exec_Return_some]
  exact wpC_standAt (wpC_bind (wpC_mono h (fun _ _ q => wpC_pure q) fun _ _ x => x))
theorem expr_C {e : Expr} {pos : Pos} (h : wpC M A (eval e env) (fun v s' => match v with | .ref _ => False | _ => Q .next s') E s)
    (hi : interactive env = false := by rfl) (hs : swapsWith e none pos.line env = pure false := by rfl) : wpC M A (exec (.Expr e pos) env) Q E s := by
  rw [exec_Expr env e pos hi hs]
  refine wpC_standAt (wpC_bind (wpC_mono h (fun v s' h' => ?_) fun _ _ x => x))
  have hv : ∀ a, v ≠ .ref a := fun a q => by subst q; exact h'
  rw [dropValue_plain hv]
  cases v <;> first | exact wpC_pure h' | exact (hv _ rfl).elim
theorem isTrue_compare_C {l r : Expr} {op : CmpOp} {pos : Pos} {whole : Sem Value} {Q : Bool → Shared → Prop}
    (h : wpC M A (eval l env) (fun a s₁ => wpC M A (eval r env) (fun b s₂ => wpAny M A (compareOp op a b) (fun c s₃ => wpAny M A (truthy c) Q E s₃) E s₂) E s₁) E s)
    (hm : behindInMarks op r = false := by with_unfolding_all rfl) : wpC M A (isTrue (.Compare l [op] [r] pos) env whole) Q E s := by
  rw [isTrue_Compare1, markedBehindIn_of_false hm]
  refine wpC_bind (wpC_mono h (fun a s₁ h₁ => ?_) fun _ _ x => x)
  refine wpC_bind (wpC_holding (wpC_mono h₁ (fun b s₂ h₂ => ?_) fun _ _ x => x))
  refine wpC_standAt (wpC_bind (wpC_operate (wpC_any (wpAny_mono h₂ (fun c s₃ h₃ => ?_) fun _ _ x => x))))
  exact wpC_holding (wpC_any h₃)
end
section
variable {prog : Program} {w : World} {A : Around} {E : Value → Shared → Prop} {s : Shared} {env : Env} {h₀ : Heap}
theorem or_C {M : Model} {x : Expr} {rest : List Expr} {pos : Pos} {whole : Sem Value} {Q : Bool → Shared → Prop}
    (h : wpC M A (isTrue x env (eval x env)) (fun c s' => if c then Q true s' else wpC M A (isTrue (.BoolOp .Or rest pos) env whole) Q E s') E s) :
    wpC M A (isTrue (.BoolOp .Or (x :: rest) pos) env whole) Q E s := by
  show wpC M A (do
    match BoolOp.Or, ← isTrue x env (eval x env) with
    | .And, false => pure false
    | .Or, true => pure true
    | _, _ => allTrue .Or rest env) Q E s
  refine wpC_bind (wpC_mono h (fun c s' h' => ?_) fun _ _ x => x)
  cases c with
  | false => exact h'
  | true => exact wpC_pure h'
theorem orNil_C {M : Model} {pos : Pos} {whole : Sem Value} {Q : Bool → Shared → Prop} (h : Q false s) : wpC M A (isTrue (.BoolOp .Or [] pos) env whole) Q E s :=
  wpC_pure (a := false) h
theorem runOwn_C {M : Model} {c : Code} {Q : Flow → Shared → Prop} (hc : codeC M A c (fun r s' => match r with | .ok f => Q f s' | .error _ => False) s) : wpC M A (runOwn c env) Q E s := by
  unfold runOwn
  have e : A.mark none = A := rfl
  refine wpC_onRaise (wpC_run (codeC_mono (by rw [e]; exact hc) fun r s' q => ?_))
  cases r with
  | ok f => exact q
  | error e => exact q.elim
theorem noted_C {α : Type} {M : Model} {m : Sem α} {Q : α → Shared → Prop} (h : wpC M A m Q (fun _ _ => False) s) : wpC M A (m.onRaise fun x => do noteFrame x env; theTreesLotGoes x) Q E s :=
  wpC_onRaise (wpC_mono h (fun _ _ q => q) fun _ _ q => q.elim)
theorem while_C {L : Addr} {Q : Flow → Shared → Prop} {test : Expr} {body : List Stmt} {pos : Pos} {m : PySem.Str → Option Value} {news : List (Addr × Obj)} (J : Nat → (PySem.Str → Option Value) → List (Addr × Obj) → Prop) {n₀ : Nat}
    (F : Fr h₀ L s.heap m) (N : News h₀ L s.heap news) (hJ : J n₀ m news)
    (turn : ∀ n m₁ news₁ h₁ tk₁, Fr h₀ L h₁ m₁ → News h₀ L h₁ news₁ → J n m₁ news₁ →
      wpC (model prog w) A (isTrue test env (eval test env)) (fun b s₂ =>
        if b = true then wpC (model prog w) A (execs body env) (WhileStep2 h₀ L s J Q n) (fun _ _ => False) s₂ else Q .next s₂) (fun _ _ => False) { s with heap := h₁, toks := tk₁ }) :
    wpC (model prog w) A (exec (.While test body [] pos) env) Q E s := by
  rw [exec_While]
  refine wpC_standAt (runOwn_C ?_)
  refine codeC_loop rfl rfl (fun n s' => ∃ h₁ tk₁ m₁ news₁, s' = { s with heap := h₁, toks := tk₁ } ∧ Fr h₀ L h₁ m₁ ∧ News h₀ L h₁ news₁ ∧ J n m₁ news₁) ?_ n₀ ⟨s.heap, s.toks, m, news, rfl, F, N, hJ⟩
  rintro n s' ⟨h₁, tk₁, m₁, news₁, rfl, F₁, N₁, J₁⟩
  show wpC _ A ((whileTurn test body [] env).onRaise (fun x => do noteFrame x env; theTreesLotGoes x)) _ _ _
  refine noted_C ?_
  simp only [whileTurn]
  refine wpC_bind (wpC_mono (turn n m₁ news₁ h₁ tk₁ F₁ N₁ J₁) (fun b s₂ h₂ => ?_) fun _ _ x => x)
  cases b with
  | false =>
    simp only [Bool.false_eq_true, if_false] at h₂ ⊢
    exact wpC_first (wpAny_execs_nil (wpC_pure h₂))
  | true =>
    simp only [if_true] at h₂ ⊢
    refine wpC_bind (wpC_mono h₂ (fun f s₃ h₃ => ?_) fun _ _ x => x)
    cases f with
    | next =>
      obtain ⟨h', tk, m₂, news₂, n', rfl, F₂, N₂, hn, J₂⟩ := h₃
      exact wpC_pure (.inl ⟨rfl, n', hn, h', tk, m₂, news₂, rfl, F₂, N₂, J₂⟩)
    | cont =>
      obtain ⟨h', tk, m₂, news₂, n', rfl, F₂, N₂, hn, J₂⟩ := h₃
      exact wpC_pure (.inl ⟨rfl, n', hn, h', tk, m₂, news₂, rfl, F₂, N₂, J₂⟩)
    | brk => exact wpC_pure h₃
    | ret v => exact wpC_pure h₃
def ForEnd (h₀ : Heap) (L : Addr) (s : Shared) (J : (PySem.Str → Option Value) → Prop) (news own : List (Addr × Obj)) (Q : Flow → Shared → Prop) (f : Flow) (s₃ : Shared) : Prop :=
  match f with
  | .ret v => Q (.ret v) s₃
  | .brk => Q .next s₃
  | _ => ∃ h' tk m₂, s₃ = { s with heap := h', toks := tk } ∧ Fr h₀ L h' m₂ ∧ News h₀ L h' (news ++ own) ∧ J m₂
theorem forRange_C {Q : Flow → Shared → Prop} {x : PySem.Str} {px : Pos} {body : List Stmt} {r : Addr} {a₀ b₀ : Int} {t₀ u₀ v₀ : Tok} {n : Nat} {m₀ : PySem.Str → Option Value} {news : List (Addr × Obj)} (J : Nat → (PySem.Str → Option Value) → Prop)
    (hx : env.kindOf x = some .local) (hp : (env.scope.kind == .class || (env.scope.kind == .module && env.locals != env.globals)) = false)
    (hh : A.handled = none) (hr : IsRange s.heap r a₀ b₀ 1 t₀ u₀ v₀) (hsmall : Builtin.Range.small a₀ b₀ 1 = true) (hn : Builtin.Range.rangeSize a₀ b₀ 1 = (n : Int)) (F : Fr h₀ env.locals s.heap m₀) (N : News h₀ env.locals s.heap news) (hj : J 0 m₀)
    (turn : ∀ i t m₁ h tk own, i < n → OwnOff own (news.map (·.1)) → J i m₁ → Fr h₀ env.locals h (fun y => if y = x then some (.int (a₀ + (i : Int)) t) else m₁ y) → News h₀ env.locals h (news ++ own) →
      wpC (model prog w) A (execs body env) (ForEnd h₀ env.locals s (J (i + 1)) news own Q) (fun _ _ => False) { s with heap := h, toks := tk })
    (done : ∀ m₁ h tk, J n m₁ → Fr h₀ env.locals h m₁ → News h₀ env.locals h news → Q .next { s with heap := h, toks := tk }) :
    wpAny (model prog w) A (pyIter (.ref r)) (fun it s₂ => codeC (model prog w) A (.forLoop (.Name x px) it body [] env) (fun r s' => match r with | .ok f => Q f s' | .error _ => False) s₂) E s := by
  refine wpAny_pyIter_range hr hsmall ?_
  have W : Walks prog w A s.heap.objs.size [s.heap.objs.size] [s.heap.objs.size] n (fun i v => i < n ∧ ∃ t, v = .int (a₀ + i * 1) t)
      (fun i h => IsRangeIter h s.heap.objs.size (a₀ + (i : Nat) * 1) ((n : Int) - (i : Nat)) 1) := (Walks.range hh _ a₀ 1 n).bound
  have hLI : env.locals ≠ s.heap.objs.size := Nat.ne_of_lt F.ns.lt
  have hnone : h₀.get? s.heap.objs.size = none := next_is_new F
  have hoffI : ∀ p ∈ news, p.1 ≠ s.heap.objs.size := fun p hp => Nat.ne_of_lt (Heap.lt_size (N p hp).1)
  refine codeC_loop rfl rfl
    (fun k s' => ∃ h' tk m' i, s' = { s with heap := h', toks := tk } ∧ IsRangeIter h' s.heap.objs.size (a₀ + (i : Nat) * 1) ((n : Int) - (i : Nat)) 1 ∧ Fr h₀ env.locals h' m' ∧ News h₀ env.locals h' news ∧ J i m' ∧ i ≤ n ∧ k = n + 1 - i) ?_ (n + 1)
    ⟨_, s.toks, m₀, 0, rfl, (by show IsRangeIter _ _ _ _ _; rw [hn]; simpa using Heap.get?_push_size _ rfl), F.push _, (fun p hp => ⟨Heap.get?_push_of_some _ (N p hp).1, (N p hp).2⟩), hj, Nat.zero_le _, rfl⟩
  rintro k s' ⟨h', tk, m', i, rfl, hst', F', N', hJ, hi, rfl⟩
  show wpC _ A ((forTurn (.Name x px) (.ref s.heap.objs.size) body [] env).onRaise (fun x => do noteFrame x env; theTreesLotGoes x)) _ _ _
  refine noted_C ?_
  simp only [forTurn]
  refine wpC_standAt (wpC_bind (wpC_onRaise (wpC_any ?_)))
  have old : ∀ b o, h₀.get? b = some o → b ∉ [s.heap.objs.size] := fun b o e hb => by rw [List.mem_singleton.mp hb, hnone] at e; cases e
  have next : ∀ h₁ : Heap, (∀ b o, b ∉ [s.heap.objs.size] → h'.get? b = some o → h₁.get? b = some o) → Fr h₀ env.locals h₁ m' ∧ News h₀ env.locals h₁ news := fun h₁ hk₁ =>
    ⟨⟨F'.ns.at' fun o e => hk₁ _ o (by simpa using hLI) e, fun b o e => hk₁ b o (old b o e) (F'.keep b o e), F'.above⟩, fun p hp => ⟨hk₁ _ _ (by simpa using hoffI p hp) (N' p hp).1, (N' p hp).2⟩⟩
  by_cases hlt : i < n
  · refine W.item i _ _ _ hlt hst' fun v h₁ tk₁ hP hst₁ hk₁ => ?_
    obtain ⟨F₁, N₁⟩ := next h₁ hk₁
    obtain ⟨_, t, rfl⟩ := hP
    refine wpC_first (wpAny_pure ?_)
    refine wpC_first (wpAny_assign_Name (wpAny_storeName_local hx F₁.ns (fun h₂ hn₂ hs₂ => ?_) hp))
    have F₂ := F₁.set hn₂ hs₂
    have N₂ := N₁.set hs₂
    have hst₂ : IsRangeIter h₂ s.heap.objs.size (a₀ + ((i + 1 : Nat) : Int) * 1) ((n : Int) - ((i + 1 : Nat) : Int)) 1 := (hs₂.2 _ (Ne.symm hLI)).trans hst₁
    have NI : News h₀ env.locals h₂ (news ++ [(s.heap.objs.size, ({ cls := .type "range_iterator", data := .fields #[rawInt (a₀ + ((i + 1 : Nat) : Int) * 1), rawInt ((n : Int) - ((i + 1 : Nat) : Int)), rawInt 1] } : Obj))]) := fun p hp => by
      rcases List.mem_append.mp hp with hp | hp
      · exact N₂ p hp
      · rw [List.mem_singleton.mp hp]; exact ⟨hst₂, Ne.symm hLI, hnone⟩
    have off : OwnOff [(s.heap.objs.size, ({ cls := .type "range_iterator", data := .fields #[rawInt (a₀ + ((i + 1 : Nat) : Int) * 1), rawInt ((n : Int) - ((i + 1 : Nat) : Int)), rawInt 1] } : Obj))] (news.map (·.1)) := fun p hp b hb e => by
      obtain ⟨q, hq, rfl⟩ := List.mem_map.mp hb
      rw [List.mem_singleton.mp hp] at e
      exact hoffI q hq e.symm
    have e1 : a₀ + (i : Int) * 1 = a₀ + (i : Int) := by rw [Int.mul_one]
    rw [e1] at F₂
    refine wpC_bind (wpC_mono (turn i t m' h₂ _ _ hlt off hJ F₂ NI) (fun f s₃ h₃ => ?_) fun _ _ x => x)
    have step : ForEnd h₀ env.locals s (J (i + 1)) news [(s.heap.objs.size, ({ cls := .type "range_iterator", data := .fields #[rawInt (a₀ + ((i + 1 : Nat) : Int) * 1), rawInt ((n : Int) - ((i + 1 : Nat) : Int)), rawInt 1] } : Obj))] Q .next s₃ → ∃ m_1, m_1 < n + 1 - i ∧ ∃ h' tk m' i, s₃ = { s with heap := h', toks := tk } ∧ IsRangeIter h' s.heap.objs.size (a₀ + (i : Nat) * 1) ((n : Int) - (i : Nat)) 1 ∧ Fr h₀ env.locals h' m' ∧ News h₀ env.locals h' news ∧ J i m' ∧ i ≤ n ∧ m_1 = n + 1 - i := by
      rintro ⟨h₄, tk₄, m₄, rfl, F₄, N₄, J₄⟩
      exact ⟨n + 1 - (i + 1), by omega, h₄, tk₄, m₄, i + 1, rfl, (N₄ _ (List.mem_append_right _ (List.mem_singleton.mpr rfl))).1, F₄, fun p hp => N₄ p (List.mem_append_left _ hp), J₄, hlt, rfl⟩
    cases f with
    | ret v => exact wpC_pure h₃
    | brk => exact wpC_pure h₃
    | next => exact wpC_pure (.inl ⟨rfl, step h₃⟩)
    | cont => exact wpC_pure (.inl ⟨rfl, step h₃⟩)
  · have hin : i = n := by omega
    subst hin
    refine W.done _ _ _ hst' fun h₁ tk₁ hk₁ => ?_
    obtain ⟨F₁, N₁⟩ := next h₁ hk₁
    exact wpC_pure (.inr ⟨rfl, codeC_any (codeAny_block (wpAny_execs_nil (done m' h₁ tk₁ hJ F₁ N₁)))⟩)
theorem for_C {M : Model} {Q : Flow → Shared → Prop} {target iter : Expr} {body : List Stmt} {pos : Pos}
    (h : wpAny M A (eval iter env) (fun xv s₁ => wpAny M A (pyIter xv) (fun it s₂ => codeC M A (.forLoop target it body [] env) (fun r s' => match r with | .ok f => Q f s' | .error _ => False) s₂) E s₁) E s)
    (hs : ∀ x, foldedSetIterable iter env x = pure x := by intro _; rfl) : wpC M A (exec (.For target iter body [] pos) env) Q E s := by
  rw [exec_For]
  refine wpC_standAt (wpC_first (wpAny_mono h (fun xv s₁ h₁ => ?_) fun _ _ x => x))
  refine wpC_first (wpAny_of_eq (hs xv) ?_)
  exact wpC_standAt (wpC_first (wpAny_holding (wpAny_mono h₁ (fun it s₂ h₂ => runOwn_C h₂) fun _ _ x => x)))
end
end

section
-- part H0
theorem caller_clean : Clean ⟨.builtin "claim.caller" {}, none, none, [], none⟩ := ⟨by show holderIds.contains "claim.caller" = false; decide +kernel, fun _ h => nomatch h⟩
theorem wp_of_wpC_done {M : Model} {A : Around} {Γ : Ctx} {t : Sem Fin} {R : Result → Shared → Prop} {s : Shared} (hin : Γ.In A) (hc : Clean Γ)
    (h : wpC M A t (fun fin s' => ∃ f, fin = .done f ∧ R (.ok f) s') (fun e s' => R (.error e) s') s) (p : Pos) :
    Sem.wp M Γ t (Sem.finPost M Γ R) (fun e _ s' => R (.error e) s') p s := by
  refine Sem.wp_mono M Γ t (fun fin p' s' h' => ?_) (fun _ _ _ h' => h') p s (h Γ p hin hc)
  obtain ⟨f, rfl, hf⟩ := h'
  exact hf
theorem thread_ends_C {prog : Program} {w : World} {t : Sem Fin} {s : Shared} {R : Result → Shared → Prop} (hreg : s.asleep)
    (h : wpC (model prog w) callerA t (fun fin s' => ∃ f, fin = .done f ∧ (R (.ok f) s' ∧ leftWithCleanup s'.gens = false)) (fun e s' => R (.error e) s' ∧ leftWithCleanup s'.gens = false) s) :
    ∃ n r s' s'', runN (denote table) prog w n s ⟨t, .builtin "claim.caller" {}, default, []⟩ = .halted (outcomeOf r) s' ∧
      schedN (denote table) prog w n (.single s ⟨t, .builtin "claim.caller" {}, default, []⟩) = .halted (outcomeOf r) s' ∧ s'.forget = s''.forget ∧ R r s'' := by
  obtain ⟨n, r, s₁, s₂, hs, hn, hfo, hR⟩ := wp_halts_full (M := model prog w) (R := R) hreg (wp_of_wpC_done (R := fun r s' => R r s' ∧ leftWithCleanup s'.gens = false) caller_in caller_clean h default)
  exact ⟨n, r, s₂, s₁, hn, hs, hfo, hR⟩
theorem callFrom_C {c : ClaimW} {tree : List Value → Sem Fin} {w : World} {s : Shared} {free : Addr → Prop} {gens : Prop} {kept : Heap → Prop} (hz : s.asleep) (hgens : s.gens = #[])
    (hspec : ∀ args, c.pre args = true → WData.layableAll args = true →
      ∀ ord : List DictEntry → List DictEntry, (∀ l, (ord l).Perm l) →
      ∃ vs s₁, layAllW c.records (classAt s.heap) w.params ord args s = some (vs, s₁) ∧
        wpC (model c.prog w) callerA (tree vs) (fun fin s' => ∃ f, fin = .done f ∧ (c.Ends s args vs s₁ (.ok f) s' ∧ s'.os = s.os ∧ AllBare s'.gens ∧ kept s'.heap))
          (fun e s' => c.Ends s args vs s₁ (.error e) s' ∧ s'.os = s.os ∧ AllBare s'.gens ∧ kept s'.heap) s₁) :
    c.CallFrom (fun vs => ⟨tree vs, .builtin "claim.caller" {}, default, []⟩) w free gens kept s := by
  intro args hpre hlay ord hord
  obtain ⟨vs, s₁, hlaid, hcode⟩ := hspec args hpre hlay ord hord
  have hal := layAllW_rest _ _ _ hlaid
  obtain ⟨k, r, s', s'', hrun, hsched, hfo, hcase, hos, hkp⟩ := thread_ends_C (prog := c.prog) (w := w) (t := tree vs) (s := s₁)
    (R := fun r s' => c.Ends s args vs s₁ r s' ∧ s'.os = s.os ∧ kept s'.heap)
    (Shared.asleep_of_life hal.2.2.2 hz)
    (wpC_mono hcode (by
      rintro fin s' ⟨f, e, h1, h2, h3, h4⟩
      exact ⟨f, e, ⟨h1, h2, h4⟩, leftWithCleanup_false_of_bare h3⟩) (by
      rintro e s' ⟨h1, h2, h3, h4⟩
      exact ⟨⟨h1, h2, h4⟩, leftWithCleanup_false_of_bare h3⟩))
  obtain ⟨eh, _, _, eo, _⟩ := Shared.forget_eq hfo
  have hcase := hcase.congr eh
  have hkp : kept s'.heap := by first | exact eh ▸ hkp | (rw [eh] at hkp; exact hkp) | (rw [← eh] at hkp; exact hkp)
  rw [← eo] at hos
  have hlife : s'.heap.life = s.heap.life := (runN_life _ _ _ hrun).trans hal.2.2.2
  refine ⟨vs, s₁, hlaid, k, _, s', hsched, ?_, (fun _ i x hx => by rw [hgens] at hx; simp at hx), hkp, by rw [hlife], Shared.rest_eq hos⟩
  rcases hcase with ⟨v, rfl, d1, d2, d3, d4, d5⟩ | ⟨e, ob, cls, rfl, d1, d2, d3, d4, d5⟩
  · exact .inl ⟨v, rfl, d1, d2, d3, fun b o y _ => d4 b o y, d5⟩
  · exact .inr ⟨e, ob, cls, rfl, d1, d2, d3, d4, fun b o y _ => d5 b o y⟩
theorem open_C {r : RowW} {run : Value → List Value → Sem Value} {tree : List Value → Sem Fin} {q : Program} {loose defs kps : List Str} {writes : Bool} {Xt : Shared → Bool} {XP : (Str → Option Value) → Heap → Prop} {α : Type} {Yf : Shared → α} {Ya : World → α} {YP : World → Heap → Prop} {N : Nat}
    (left : LeftO r.prog q loose Xt Yf Ya N) (hY : ∀ w s, Yf s = Ya w → YP w s.heap) (hYk : ∀ w h h', YP w h → (∀ b o, h.get? b = some o → h'.get? b = some o) → YP w h') (hX : ∀ s, Xt s = true → XP (s.heap.nsMap mainGlobals) s.heap) (hXk : ∀ mg h h', XP mg h → (∀ b o, h.get? b = some o → h'.get? b = some o) → XP mg h')
    (hRf : ∀ s, Xt s = true → RecFacts r.records s.heap) (hwr : (!writes || r.records.isEmpty) = true) (ok : (chainsOk q && opensWell r.prog && (frees r && r.within.isEmpty)) = true) (hb : r.prog.bare) (hw : r.promised)
    (ht : ∀ vs (w : World) (s : Shared) mg f (Q : Fin → Shared → Prop) (E : Value → Shared → Prop), s.heap.Ns mainGlobals mg → mg r.name = some f → wpC (model r.prog w) callerA (run f vs) (fun v s' => Q (.done (.ret v)) s') E s → wpC (model r.prog w) callerA (tree vs) Q E s)
    (pin : ∀ w s, s.heap.isNs mainGlobals = true → Ground q loose [] XP w s (s.heap.nsMap mainGlobals) (s.heap.nsMap builtinsNs) s.heap → ∀ n ∈ defs, isTheDefsW r.prog s.heap n)
    (call : ∀ (w : World) (s₀ s₁ : Shared) (mg mb : Str → Option Value), Ground q loose r.records XP w s₀ mg mb s₁.heap → YP w s₁.heap → ∀ (args : List WData) (vs : List Value) (as : List Addr),
      r.claim.pre args = true → WData.layableAll args = true → Laid r.records w s₀ s₁ args vs as → sysModules < s₀.heap.objs.size → ∃ f, mg r.name = some f ∧
        wpC (model r.prog w) callerA (run f vs) (fun v s' => GoodWG r.claim (classAt s₀.heap) (ExcName.means s₀.heap) args s₁ (.ok (.ret v)) s')
          (fun e s' => GoodWG r.claim (classAt s₀.heap) (ExcName.means s₀.heap) args s₁ (.error e) s') s₁) : r.claim.HoldsOpenBy (fun vs => ⟨tree vs, .builtin "claim.caller" {}, default, []⟩) defs kps writes := by
  obtain ⟨ok, k5⟩ := Bool.and_eq_true_iff.mp ok
  obtain ⟨hch, o1⟩ := Bool.and_eq_true_iff.mp ok
  obtain ⟨k5, k6⟩ := Bool.and_eq_true_iff.mp k5
  obtain ⟨hsame, hu, ha, hap, hm⟩ := frees_parts k5
  refine ⟨⟨hb, o1, by show r.makers.map _ = []; rw [hm]; rfl⟩, hw.witness, fun w => ⟨(left.behind hX hch w).1, fun s' hs' => ?_⟩⟩
  obtain ⟨s₀, hf, hg0, s, hT, hz, hgens, hg, G00, y⟩ := (left.behind (XP := fun mg h => XP mg h ∧ RecFacts r.records h) (fun s hs => ⟨hX s hs, hRf s hs⟩) hch w).2 s' hs'
  have G0 : Ground q loose [] XP w s (s.heap.nsMap mainGlobals) (s.heap.nsMap builtinsNs) s.heap := ⟨G00.T, G00.B, G00.D, G00.TE, G00.TD, G00.W, G00.X.1, G00.cls, G00.has, G00.apart, G00.once, G00.K⟩
  have RF := G00.X.2
  have hT' := hT
  refine ⟨s₀, hf, hg0, s, hT, pin w s hg G0, RF.1, RF.2.1, ?_⟩
  have hgens : s.gens = #[] := Array.eq_empty_of_size_eq_zero (beq_iff_eq.mp hgens)
  have G : Ground q loose r.records XP w s _ _ s.heap := RF.ground G0
  refine callFrom_C (c := r.claim) hz hgens fun args hpre hlay ord hord => ?_
  obtain ⟨⟨vs, s₁⟩, hlaid⟩ := Option.isSome_iff_exists.mp (layAllW_isSome (P := w.params) (ord := ord) G.has args r.args s (pre_splitW hpre).1)
  have keeps := layAllW_keeps _ _ _ hlaid
  have hal := layAllW_rest _ _ _ hlaid
  obtain ⟨as, hrd, hin, hold⟩ := reads_layAllW hord _ _ _ hlaid hlay s₁.heap (fun _ _ e => e)
  have L : Laid r.records w s s₁ args vs as := ⟨⟨ord, hord, hlaid⟩, hrd, hin, hold, keeps, hal.1.trans hgens, hal.2.2.1⟩
  have G₁ := G.keeps hXk keeps
  obtain ⟨f, hf, h⟩ := call w s s₁ _ _ G₁ (hYk _ _ _ (hY w s y) keeps) args vs as hpre hlay L G.low
  have hi := ident_freeW hu ha hap
  have hwi : r.claim.within = [] := List.isEmpty_iff.mp k6
  exact ⟨vs, s₁, hlaid, ht vs w s₁ _ f _ _ G₁.T.g hf (wpC_mono h (fun v s' g => ⟨_, rfl, have z := g.laid (c := r.claim) hsame hwi hi L; ⟨z.1, z.2.1, z.2.2, fun q => ⟨namesKept_of hT' hg kps keeps g.2.1.old, noTable hwr q⟩⟩⟩) fun e s' g => have z := g.laid (c := r.claim) hsame hwi hi L; ⟨z.1, z.2.1, z.2.2, fun q => ⟨namesKept_of hT' hg kps keeps g.2.1.old, noTable hwr q⟩⟩)⟩
/-- the library's WalkO, asked in clean places alone -/
abbrev WalkC (q : Program) (loose : List Str) (XP : (Str → Option Value) → Heap → Prop) (YP : World → Heap → Prop) (r : RowW) (d : DefRec) (kwd : List (Str × Expr)) (run : Value → List Value → Sem Value) : Prop :=
  ∀ (w : World) (s₀ s₁ : Shared) (mg mb : Str → Option Value), Ground q loose r.records XP w s₀ mg mb s₁.heap → YP w s₁.heap → ∀ (a : Addr) (o : Obj) (pm cd doc dV kV : Value), s₁.heap.get? a = some o →
    o.data = .func { docDef d.name d.params d.body d.scope pm cd doc with defaults := dV, kwdefaults := kV } → s₁.heap.CodeRec cd d.name → Dflts mg s₁.heap d.params kwd dV kV → mg d.name = some (.ref a) → s₁.gens = #[] →
    ∀ (args : List WData) (vals : List Value) (as : List Addr), r.claim.pre args = true → WData.layableAll args = true → ReadsAllW r.records (classAt s₀.heap) s₁.heap vals args as → WellAll w.params s₁.heap vals args → (∀ a ∈ as, (a == sysModules) = false) →
      wpC (model r.prog w) callerA (run (.ref a) vals) (fun v s' => GoodWG r.claim (classAt s₀.heap) (ExcName.means s₀.heap) args s₁ (.ok (.ret v)) s')
        (fun e s' => GoodWG r.claim (classAt s₀.heap) (ExcName.means s₀.heap) args s₁ (.error e) s') s₁
theorem holds_row {r : OpenRow} {q : Program} {loose : List Str} {Xt : Shared → Bool} {XP : (Str → Option Value) → Heap → Prop} {α : Type} {Yf : Shared → α} {Ya : World → α} {YP : World → Heap → Prop} {d : DefRec} {kwd : List (Str × Expr)} {N : Nat}
    (hY : ∀ w s, Yf s = Ya w → YP w s.heap) (hYk : ∀ w h h', YP w h → (∀ b o, h.get? b = some o → h'.get? b = some o) → YP w h')
    (hX : ∀ s, Xt s = true → XP (s.heap.nsMap mainGlobals) s.heap) (hXk : ∀ mg h h', XP mg h → (∀ b o, h.get? b = some o → h'.get? b = some o) → XP mg h')
    (hdef : defOf q r.name = some (d, kwd)) (hp : r.prog.theDef r.name = some (d.params, d.body, d.scope)) (hk : kwWritten? d.params.kwonlyargs d.params.kw_defaults = some kwd) (hRf : ∀ s, Xt s = true → RecFacts r.records s.heap) (hwr : (!r.writes || r.records.isEmpty) = true)
    (k1 : r.wellSaid = true) (ok : (chainsOk q && opensWell r.prog && (frees r.toRowW && r.within.isEmpty)) = true) (hb : r.prog.bare) (hw : r.toRowW.promised)
    (both : LeftO r.prog q loose Xt Yf Ya N ∧ WalkC q loose XP YP r.toRowW d kwd fun f vs => PySem.call f vs) : r.Holds := by
  refine ⟨k1, hw, open_C (r := r.toRowW) (run := fun f vs => PySem.call f vs) (tree := fun vs => do match ← nsGet mainNs r.name with
      | some f => do ret (← PySem.call f vs)
      | none => unsupported "claim.caller:no-such-global") both.1 hY hYk hX hXk hRf hwr ok hb hw
    (fun vs w s mg f Q E hg hf h => wpC_first (wpAny_nsGet hg (by rw [hf]; exact wpC_bind (wpC_mono h (fun _ _ x => wpC_pure x) fun _ _ x => x))))
    (fun w s hg G n hn => ?_) fun w s₀ s₁ mg mb G Y args vs as hpre hlay L low => ?_⟩
  · obtain rfl : n = r.name := by split at hn <;> simp_all
    exact pinned_of_view hg G hdef hp hk
  · obtain ⟨a, o, pm, cd, doc, dV, kV, h1, h2, h3, h4, h5⟩ := G.fn hdef
    exact ⟨.ref a, h1, both.2 w s₀ s₁ mg mb G Y a o pm cd doc dV kV h2 h3 h4 h5 (defOf_name hdef ▸ h1) L.gens args vs as hpre hlay L.reads L.well (L.low low)⟩
end

section
-- part Hv
/-- the text's body without its four rows that bind __name__ -/
def keep {α : Type} (l : List α) : List α := l.take 1 ++ ((l.drop 2).take 1 ++ ((l.drop 4).take 1 ++ ((l.drop 6).take 25 ++ l.drop 32)))
noncomputable def viewE : Program := { PySem.Challenge.pw_tk0056_01 with main := { PySem.Challenge.pw_tk0056_01.main with body := keep PySem.Challenge.pw_tk0056_01.main.body } }
noncomputable def viewW : { q : Program // viewE = q } := by
  refine' ⟨_, ?h⟩
  case h =>
    unfold viewE
    dsimp only [PySem.Challenge.pw_tk0056_01, keep, List.take, List.drop, List.append, HAppend.hAppend, Append.append]
    exact rfl
noncomputable def view : Program := viewW.1
end

section
-- part H1
/-- the top's run over a heap that is a tree: the same steps, each place found by its digits -/
noncomputable def runT (ok : Thread → Bool) (st : SharedT → Thread → Option (SharedT × Thread)) : Nat → SharedT → Thread → Option SharedT
  | 0, _, _ => none
  | n + 1, s, t => match through t with
    | true => some s
    | false => match ok t with
      | false => none
      | true => match st s t with
        | some (s', t') => runT ok st n s' t'
        | none => none
theorem runT_top {tb : String → Option Builtin} {p : Program} {w : World} {n₀ : Nat} {ann : Option Value} : ∀ (n : Nat) (s : SharedT) (t : Thread) (r : SharedT), runT (stepOk n₀ ann) (stepT (denote tb) p w) n s t = some r → topRun tb p w n₀ ann n s.abs t = some r.abs
  | 0, _, _, _, h => by cases h
  | n + 1, s, t, r, h => by
    unfold runT at h
    unfold topRun
    cases he : through t with
    | true => rw [he] at h; cases h; rfl
    | false =>
      rw [he] at h
      cases hk : stepOk n₀ ann t with
      | false => rw [hk] at h; cases h
      | true =>
        rw [hk] at h
        cases hs : stepT (denote tb) p w s t with
        | none => rw [hs] at h; cases h
        | some x =>
          obtain ⟨s₂, t₂⟩ := x
          rw [hs] at h
          dsimp only at h ⊢
          rw [stepT_spec hs]
          exact runT_top n s₂ t₂ r h
noncomputable def grow : List Obj → Nat → BT → BT
  | [], _, t => t
  | o :: r, n, t => grow r (n + 1) (t.ins n o)
/-- the state behind the boot, its heap a tree -/
noncomputable def bootT (w : World) (os : OsState) : SharedT := ⟨grow (boot_heap w.params).objs.toList 0 .nil, (boot_heap w.params).objs.size, (boot_heap w.params).life, Array.mk [], boot_drawn, boot_toks, os⟩
theorem bootT_abs (w : World) (os : OsState) : (bootT w os).abs = ⟨boot_heap w.params, Array.mk [], boot_drawn, boot_toks, os⟩ := by kernel_rfl
noncomputable def topT (p : Program) (w : World) (N : Nat) (os : OsState) : Option SharedT :=
  runT (stepOk (boot_heap w.params).objs.size ((boot_heap w.params).nsMap mainGlobals "__annotations__")) (stepT (denote treeTable) p w) N (bootT w os) (topStub p)
noncomputable def keptT (p : Program) (w : World) (s : Shared) : Bool := staticsOk (importedModules p.main.body) (boot_heap w.params) s.heap && namesBound p s.heap && gensDone s && laidKept (boot_heap w.params) s.heap
theorem boot_isNs (w : World) : ((boot_heap w.params).isNs mainGlobals && (Array.mk [] : Array GenState).size == 0) = true := by kernel_rfl
theorem map_parts {α A B C D : Type} {o : Option α} {f : α → A × B × C × D} {b : A × B × C × D} (h1 : o.map (fun s => ((f s).1, (f s).2.1, (f s).2.2.1)) = some (b.1, b.2.1, b.2.2.1)) (h2 : o.map (fun s => (f s).2.2.2) = some b.2.2.2) : o.map f = some b := by
  cases o with
  | none => cases h1
  | some s =>
    simp only [Option.map_some, Option.some.injEq, Prod.mk.injEq] at h1 h2 ⊢
    exact Prod.ext h1.1 (Prod.ext h1.2.1 (Prod.ext h1.2.2 h2))
theorem left_T {p q : Program} {loose : List Str} {Xt : Shared → Bool} {α : Type} {Yf : Shared → α} {Ya : World → α} {N : Nat} (e : opening p = plainProg p.main.scope.names) (hN : Nat.ble 600 N = true) (f : ∀ s, fenceModules? p s = some s)
    (kept : ∀ w os, (topT p w N os).map (fun s => (keptT p w s.abs, Yf s.abs)) = some (true, Ya w))
    (seen : ∀ w os, (topT p w N os).map (fun s => openSeen q loose (importedModules p.main.body) Xt true s.abs) = some (openGood q loose)) : LeftO p q loose Xt Yf Ya N := fun w => by
  obtain ⟨⟨h, gs, d, k, os⟩, e1, e2⟩ := Option.map_eq_some_iff.mp (boot_open e hN f w)
  obtain ⟨rfl, rfl, rfl, rfl⟩ : h = boot_heap w.params ∧ gs = Array.mk [] ∧ d = boot_drawn ∧ k = boot_toks := by simpa using e2
  obtain ⟨s, hs, k4⟩ := Option.map_eq_some_iff.mp (kept w os)
  obtain ⟨k1, k3⟩ := Prod.mk.inj k4
  have k2 := seen w os
  rw [hs] at k2
  simp only [Option.map_some, Option.some.injEq] at k2
  have r := runT_top _ _ _ _ hs
  rw [bootT_abs] at r
  have t : topFrom treeTable p w N ⟨boot_heap w.params, Array.mk [], boot_drawn, boot_toks, os⟩ = some s.abs := by
    unfold topFrom
    dsimp only
    rw [boot_isNs, r]
    show (match keptT p w s.abs with | true => some s.abs | false => none) = _
    rw [k1]
  unfold openEnds
  rw [e1]
  show (topFrom treeTable p w N _).map _ = _
  rw [t, Option.map_some, k2, k3]
end

section
-- part Hd
theorem said_row : OpenRow.wellSaid PySem.Challenge.rw_tk0056_01.row = true := by
  rw [PySem.W.Fast.te17960256430627541270]
  kernel_rfl
theorem said : OpenLaw.wellSaid PySem.Challenge.rw_tk0056_01 = true := by
  unfold OpenLaw.wellSaid
  rw [said_row, Bool.true_and]
  simp only [PySem.W.Fast.te10501279942588096481, PySem.W.Fast.te8179353310426384613, PySem.W.Fast.te8326940854005059898, PySem.W.Fast.te9558739934217749035, PySem.W.Fast.te16286561074155671207, PySem.W.Fast.te6984425678791042302, PySem.W.Fast.te17119622794617984870, PySem.W.Fast.te10792542408131684335, PySem.W.Fast.named_eq]
  kernel_rfl
local macro_rules | `(tactic| o_head $H) => `(tactic| refine holds_row (q := view) (loose := []) (Xt := fun s => xlAt view [] s && recOk (RowW.records (OpenRow.toRowW PySem.Challenge.rw_tk0056_01.row)) s) (XP := XL view []) (Yf := Hook.obs $H) (Ya := Hook.val $H) (YP := Hook.says $H) (N := 3896) (Hook.of $H) (Hook.keeps $H)
  (fun s e => xl_of s (Bool.and_eq_true_iff.mp e).1) XL.keeps (by rfl) (by rfl) (by rfl) (fun s e => recFacts_of (Bool.and_eq_true_iff.mp e).2) (by rfl) (row_said said) (by decide +kernel) ⟨rfl, rfl, rfl, rfl, rfl, by decide +kernel⟩ ?hw ?hc)
open_top hd for PySem.Challenge.rw_tk0056_01.row
abbrev firstOf {A B C : Prop} (_ : A ∧ B → C) : Prop := A
noncomputable abbrev XtL (s : Shared) : Bool := xlAt view [] s && recOk (RowW.records (OpenRow.toRowW PySem.Challenge.rw_tk0056_01.row)) s
/-- the top's run and the looks at its end, through the kernel, by the library's quick twins of the model's own functions -/
theorem top_seen1 : ∀ (w : World) (os : OsState), (topT PySem.Challenge.pw_tk0056_01 w 3896 os).map (fun s => ((openSeen view [] (importedModules PySem.Challenge.pw_tk0056_01.main.body) XtL true s.abs).1, (openSeen view [] (importedModules PySem.Challenge.pw_tk0056_01.main.body) XtL true s.abs).2.1, (openSeen view [] (importedModules PySem.Challenge.pw_tk0056_01.main.body) XtL true s.abs).2.2.1)) = some ((openGood view []).1, (openGood view []).2.1, (openGood view []).2.2.1) := fun w os => by
  unfold topT topStub openSeen openGood expectedOf XtL xlAt
  dsimp only
  simp only [PySem.W.Fast.te14082659384304107361, PySem.W.Fast.te14364793385576792824, PySem.W.Fast.te8920871248978507458, PySem.W.Fast.te5923862056798008813, PySem.W.Fast.te10274390034422433532, PySem.W.Fast.te1435165496053646825, PySem.W.Fast.te14289696077712309145, PySem.W.Fast.te17154629097778926822, PySem.W.Fast.te12822647523644345616, PySem.W.Fast.te6905046200447255374, PySem.W.Fast.te821141287760084731, PySem.W.Fast.te3247288618530077131, PySem.W.Fast.te3399658132070893891, PySem.W.Fast.te210736558901404530, PySem.W.Fast.te4354255287344443571, PySem.W.Fast.te694669760492028198, PySem.W.Fast.te1571739515156823405, PySem.W.Fast.te5066977653060700880, PySem.W.Fast.te964301259703733418, PySem.W.Fast.te1584917186373303978, PySem.W.Fast.te14846217769314788766, PySem.W.Fast.te18344453789297297638, PySem.W.Fast.te12749700546528644094, PySem.W.Fast.te4857012375875476094, PySem.W.Fast.te12515865711710729776, PySem.W.Fast.te10156331382660048174, PySem.W.Fast.te6613529449190102663, PySem.W.Fast.te11892475500146522536]
  kernel_rfl
theorem top_seen2 : ∀ (w : World) (os : OsState), (topT PySem.Challenge.pw_tk0056_01 w 3896 os).map (fun s => (openSeen view [] (importedModules PySem.Challenge.pw_tk0056_01.main.body) XtL true s.abs).2.2.2) = some (openGood view []).2.2.2 := fun w os => by
  unfold topT topStub openSeen openGood plainGoodE plainGoodD wideGood clsGoodW wclsGood
  dsimp only
  simp only [PySem.W.Fast.te14082659384304107361, PySem.W.Fast.te14364793385576792824, PySem.W.Fast.te8920871248978507458, PySem.W.Fast.te5923862056798008813, PySem.W.Fast.te10274390034422433532, PySem.W.Fast.te1435165496053646825, PySem.W.Fast.te14289696077712309145, PySem.W.Fast.te17154629097778926822, PySem.W.Fast.te12822647523644345616, PySem.W.Fast.te6905046200447255374, PySem.W.Fast.te821141287760084731, PySem.W.Fast.te3247288618530077131, PySem.W.Fast.te3399658132070893891, PySem.W.Fast.te210736558901404530, PySem.W.Fast.te4354255287344443571, PySem.W.Fast.te694669760492028198, PySem.W.Fast.te1571739515156823405, PySem.W.Fast.te5066977653060700880, PySem.W.Fast.te964301259703733418, PySem.W.Fast.te1584917186373303978, PySem.W.Fast.te14846217769314788766, PySem.W.Fast.te18344453789297297638, PySem.W.Fast.te12749700546528644094, PySem.W.Fast.te4857012375875476094, PySem.W.Fast.te12515865711710729776, PySem.W.Fast.te10156331382660048174, PySem.W.Fast.te6613529449190102663, PySem.W.Fast.te11892475500146522536]
  kernel_rfl
theorem left0 : firstOf hd := left_T (by kernel_rfl) (by decide) (fun _ => by kernel_rfl) (fun w os => by
  unfold topT topStub keptT staticsOk namesBound laidKept
  simp only [PySem.W.Fast.te14082659384304107361, PySem.W.Fast.te14364793385576792824, PySem.W.Fast.te8920871248978507458, PySem.W.Fast.te5923862056798008813, PySem.W.Fast.te10274390034422433532, PySem.W.Fast.te1435165496053646825, PySem.W.Fast.te14289696077712309145, PySem.W.Fast.te17154629097778926822, PySem.W.Fast.te12822647523644345616, PySem.W.Fast.te6905046200447255374, PySem.W.Fast.te821141287760084731, PySem.W.Fast.te3247288618530077131, PySem.W.Fast.te3399658132070893891, PySem.W.Fast.te210736558901404530, PySem.W.Fast.te4354255287344443571, PySem.W.Fast.te694669760492028198, PySem.W.Fast.te1571739515156823405, PySem.W.Fast.te5066977653060700880, PySem.W.Fast.te964301259703733418, PySem.W.Fast.te1584917186373303978, PySem.W.Fast.te14846217769314788766, PySem.W.Fast.te18344453789297297638, PySem.W.Fast.te12749700546528644094, PySem.W.Fast.te4857012375875476094, PySem.W.Fast.te12515865711710729776, PySem.W.Fast.te10156331382660048174, PySem.W.Fast.te6613529449190102663, PySem.W.Fast.te11892475500146522536]
  kernel_rfl) fun w os => map_parts (top_seen1 w os) (top_seen2 w os)
end

section
-- part L0
noncomputable def recOf {q : Program} {loose : List Str} {XP : (Str → Option Value) → Heap → Prop} {YP : World → Heap → Prop} {r : RowW} {d : DefRec} {kwd : List (Str × Expr)} {run : Value → List Value → Sem Value} {P L : Prop} (_ : L ∧ WalkC q loose XP YP r d kwd run → P) : DefRec := d
noncomputable def lawRec : DefRec := recOf hd
/-- bytes of one sign each -/
inductive SignsAre : List Value → List Int → Prop
  | nil : SignsAre [] []
  | cons {b : Array UInt8} {t : Tok} {k : Int} {vs : List Value} {ks : List Int} (h : KBw.bInts b = [k]) (r : SignsAre vs ks) : SignsAre (Value.bytes b t :: vs) (k :: ks)
theorem SignsAre.append {vs ws : List Value} {ks ls : List Int} (a : SignsAre vs ks) (b : SignsAre ws ls) : SignsAre (vs ++ ws) (ks ++ ls) := by
  induction a with
  | nil => exact b
  | cons h _ ih => exact .cons h ih
theorem SignsAre.length {vs : List Value} {ks : List Int} (a : SignsAre vs ks) : vs.length = ks.length := by
  induction a with
  | nil => rfl
  | cons h _ ih => simp [ih]
theorem SignsAre.rep {b : Array UInt8} {t : Tok} {k : Int} (h : KBw.bInts b = [k]) : ∀ n : Nat, SignsAre (List.replicate n [Value.bytes b t]).flatten (List.replicate n k)
  | 0 => .nil
  | n + 1 => by
    rw [List.replicate_succ, List.replicate_succ, List.flatten_cons]
    exact .cons h (SignsAre.rep h n)
theorem SignsAre.take {vs : List Value} {ks : List Int} (a : SignsAre vs ks) : ∀ n, SignsAre (vs.take n) (ks.take n) := by
  induction a with
  | nil => intro n; simp only [List.take_nil]; exact .nil
  | cons h _ ih =>
    intro n
    cases n with
    | zero => exact .nil
    | succ n => exact .cons h (ih n)
theorem SignsAre.cut {vs : List Value} {ks : List Int} (a : SignsAre vs ks) : ∀ i, i < vs.length → ∃ p q b t k, kl_cut vs i = some (p, .bytes b t, q) ∧ KBw.bInts b = [k] ∧ SignsAre (p ++ q) (ks.eraseIdx i) ∧ ks[i]? = some k := by
  induction a with
  | nil => intro i h; exact absurd h (Nat.not_lt_zero _)
  | @cons b t k vs ks h r ih =>
    intro i hi
    cases i with
    | zero => exact ⟨[], vs, b, t, k, rfl, h, r, rfl⟩
    | succ i =>
      obtain ⟨p, q, b', t', k', e, h', r', e'⟩ := ih i (by simpa using hi)
      refine ⟨.bytes b t :: p, q, b', t', k', ?_, h', .cons h r', e'⟩
      rw [kl_cut, e]
end

section
-- part R1
theorem holder_dec {id : String} {args : Args} (h : isHolder (.builtin id args) = false) : Builtin.Bytes.decodersThatHold.contains id = false := by
  have h' : holderIds.contains id = false := h
  unfold holderIds at h'
  rw [List.contains_eq_any_beq] at h' ⊢
  rw [List.any_append, Bool.or_eq_false_iff] at h'
  exact h'.2
theorem holder_abs {id : String} {args : Args} (h : isHolder (.builtin id args) = false) (e : holderIds.contains id = true) : False := by
  have h' : holderIds.contains id = false := h
  rw [e] at h'
  cases h'
theorem exported_none {self : Value} : ∀ {l : List (Code × Pos)}, CleanL l → (l.any fun
    | (.builtin "bytearray.__contains__" ⟨v :: _, _⟩, _) | (.builtin "bytearray.__mod__" ⟨v :: _, _⟩, _)
    | (.builtin "bytearray.__rmod__" ⟨_ :: v :: _, _⟩, _) | (.builtin "_struct.pack_into.held" ⟨v :: _, _⟩, _) => Builtin.Bytes.sameRef v self
    | (.builtin "bytearray.find.held" ⟨_ :: _ :: held, _⟩, _) => held.any (Builtin.Bytes.sameRef self)
    | (.builtin id ⟨v :: _, _⟩, _) => Builtin.Bytes.sameRef v self && Builtin.Bytes.decodersThatHold.contains id
    | _ => false) = false := by
  intro l hl
  rw [List.any_eq_false]
  rintro ⟨c, p⟩ hx
  have hc : isHolder c = false := hl _ hx
  split
  all_goals first
    | (rename_i heq; cases heq; exact (holder_abs hc (by decide +kernel)).elim)
    | (rename_i heq; cases heq; rw [holder_dec hc, Bool.and_false]; exact Bool.false_ne_true)
    | exact Bool.false_ne_true
    | skip
section
variable {M : Model} {A : Around} {E : Value → Shared → Prop} {s : Shared}
theorem exported_C {self : Value} {Q : Bool → Shared → Prop} (h : Q false s) : wpC M A (Builtin.Bytes.exported self) Q E s := fun Γ p _ hc => by
  have hcl : CleanL ((Γ.code, p) :: Γ.below) := fun x hx => by
    rcases List.mem_cons.mp hx with rfl | hx
    · exact hc.1
    · exact hc.2 x hx
  unfold Builtin.Bytes.exported
  show Sem.wp M Γ (Sem.bind stack _) _ _ p s
  unfold stack
  rw [Sem.wp_bind, Sem.wp_stack]
  have e := exported_none (self := self) hcl
  have hh : ∀ b, b = false → Q b s := fun b hb => hb ▸ h
  exact hh _ e
end
end

section
-- part R2
namespace Fc
theorem owner_bytes' : Manifest.owners.lookup (String.ofList ['s', 'e', 't', 'y', 'b'].reverse) = some Manifest.sig_bytes := by kernel_rfl
theorem plainAttrs_bytes' : PlainAttrs "bytes" :=
  ⟨⟨"bytes.__getattribute__", by rw [typeLookup_type, builtinLookup_eq_fast]; kernel_rfl, by decide +kernel⟩, by rw [typeLookup_type, builtinLookup_eq_fast]; kernel_rfl⟩
theorem slot_bytes_find : Slot "bytes" "find" "bytes.find" :=
  .of (owner := "bytes") (n := "find") (by rw [typeLookup_type, builtinLookup_eq_fast]; kernel_rfl) (by decide +kernel) (by decide +kernel) (by decide +kernel)
    (by first | exact .inl (by decide +kernel) | exact .inr (by decide +kernel)) (by rw [isSubtype_type]; kernel_rfl)
theorem type_bytes_find : typeOf (.builtin "bytes.find") = pure (.type "method_descriptor") := by show builtinType _ = _; rw [builtinType_eq_fast]; kernel_rfl
theorem entry_bytes_find : entryFor table "bytes.find" = some Builtin.«bytes.find» := entryFor_of_tree (by kernel_rfl)
theorem args_bytes_find (a b : Value) : argsOk "bytes.find" ⟨[a, b], []⟩ := by
  unfold argsOk; rw [signature?_of (id := "bytes.find") (n := ['d', 'n', 'i', 'f']) (o := ['s', 'e', 't', 'y', 'b']) (by kernel_rfl) owner_bytes']; kernel_rfl
theorem slot_bytes_rfind : Slot "bytes" "rfind" "bytes.rfind" :=
  .of (owner := "bytes") (n := "rfind") (by rw [typeLookup_type, builtinLookup_eq_fast]; kernel_rfl) (by decide +kernel) (by decide +kernel) (by decide +kernel)
    (by first | exact .inl (by decide +kernel) | exact .inr (by decide +kernel)) (by rw [isSubtype_type]; kernel_rfl)
theorem type_bytes_rfind : typeOf (.builtin "bytes.rfind") = pure (.type "method_descriptor") := by show builtinType _ = _; rw [builtinType_eq_fast]; kernel_rfl
theorem entry_bytes_rfind : entryFor table "bytes.rfind" = some Builtin.«bytes.rfind» := entryFor_of_tree (by kernel_rfl)
theorem args_bytes_rfind (a b : Value) : argsOk "bytes.rfind" ⟨[a, b], []⟩ := by
  unfold argsOk; rw [signature?_of (id := "bytes.rfind") (n := ['d', 'n', 'i', 'f', 'r']) (o := ['s', 'e', 't', 'y', 'b']) (by kernel_rfl) owner_bytes']; kernel_rfl
theorem slot_bytes_join : Slot "bytes" "join" "bytes.join" :=
  .of (owner := "bytes") (n := "join") (by rw [typeLookup_type, builtinLookup_eq_fast]; kernel_rfl) (by decide +kernel) (by decide +kernel) (by decide +kernel)
    (by first | exact .inl (by decide +kernel) | exact .inr (by decide +kernel)) (by rw [isSubtype_type]; kernel_rfl)
theorem type_bytes_join : typeOf (.builtin "bytes.join") = pure (.type "method_descriptor") := by show builtinType _ = _; rw [builtinType_eq_fast]; kernel_rfl
theorem entry_bytes_join : entryFor table "bytes.join" = some Builtin.«bytes.join» := entryFor_of_tree (by kernel_rfl)
theorem args_bytes_join (a b : Value) : argsOk "bytes.join" ⟨[a, b], []⟩ := by
  unfold argsOk; rw [signature?_of (id := "bytes.join") (n := ['n', 'i', 'o', 'j']) (o := ['s', 'e', 't', 'y', 'b']) (by kernel_rfl) owner_bytes']; kernel_rfl
theorem owner_bytearray' : Manifest.owners.lookup (String.ofList ['y', 'a', 'r', 'r', 'a', 'e', 't', 'y', 'b'].reverse) = some Manifest.sig_bytearray := by kernel_rfl
theorem plainAttrs_bytearray' : PlainAttrs "bytearray" :=
  ⟨⟨"bytearray.__getattribute__", by rw [typeLookup_type, builtinLookup_eq_fast]; kernel_rfl, by decide +kernel⟩, by rw [typeLookup_type, builtinLookup_eq_fast]; kernel_rfl⟩
theorem slot_bytearray_append : Slot "bytearray" "append" "bytearray.append" :=
  .of (owner := "bytearray") (n := "append") (by rw [typeLookup_type, builtinLookup_eq_fast]; kernel_rfl) (by decide +kernel) (by decide +kernel) (by decide +kernel)
    (by first | exact .inl (by decide +kernel) | exact .inr (by decide +kernel)) (by rw [isSubtype_type]; kernel_rfl)
theorem type_bytearray_append : typeOf (.builtin "bytearray.append") = pure (.type "method_descriptor") := by show builtinType _ = _; rw [builtinType_eq_fast]; kernel_rfl
theorem entry_bytearray_append : entryFor table "bytearray.append" = some Builtin.«bytearray.append» := entryFor_of_tree (by kernel_rfl)
theorem args_bytearray_append (a b : Value) : argsOk "bytearray.append" ⟨[a, b], []⟩ := by
  unfold argsOk; rw [signature?_of (id := "bytearray.append") (n := ['d', 'n', 'e', 'p', 'p', 'a']) (o := ['y', 'a', 'r', 'r', 'a', 'e', 't', 'y', 'b']) (by kernel_rfl) owner_bytearray']; kernel_rfl
theorem slot_bytearray_extend : Slot "bytearray" "extend" "bytearray.extend" :=
  .of (owner := "bytearray") (n := "extend") (by rw [typeLookup_type, builtinLookup_eq_fast]; kernel_rfl) (by decide +kernel) (by decide +kernel) (by decide +kernel)
    (by first | exact .inl (by decide +kernel) | exact .inr (by decide +kernel)) (by rw [isSubtype_type]; kernel_rfl)
theorem type_bytearray_extend : typeOf (.builtin "bytearray.extend") = pure (.type "method_descriptor") := by show builtinType _ = _; rw [builtinType_eq_fast]; kernel_rfl
theorem entry_bytearray_extend : entryFor table "bytearray.extend" = some Builtin.«bytearray.extend» := entryFor_of_tree (by kernel_rfl)
theorem args_bytearray_extend (a b : Value) : argsOk "bytearray.extend" ⟨[a, b], []⟩ := by
  unfold argsOk; rw [signature?_of (id := "bytearray.extend") (n := ['d', 'n', 'e', 't', 'x', 'e']) (o := ['y', 'a', 'r', 'r', 'a', 'e', 't', 'y', 'b']) (by kernel_rfl) owner_bytearray']; kernel_rfl
theorem slot_bytearray_uuinituu : Slot "bytearray" "__init__" "bytearray.__init__" :=
  .of (owner := "bytearray") (n := "__init__") (by rw [typeLookup_type, builtinLookup_eq_fast]; kernel_rfl) (by decide +kernel) (by decide +kernel) (by decide +kernel)
    (by first | exact .inl (by decide +kernel) | exact .inr (by decide +kernel)) (by rw [isSubtype_type]; kernel_rfl)
theorem entry_bytearray_uuinituu : entryFor table "bytearray.__init__" = some Builtin.«bytearray.__init__» := entryFor_of_tree (by kernel_rfl)
theorem args_bytearray_uuinituu (a : Value) : argsOk "bytearray.__init__" ⟨[a], []⟩ := by
  unfold argsOk; rw [signature?_of (id := "bytearray.__init__") (n := ['_', '_', 't', 'i', 'n', 'i', '_', '_']) (o := ['y', 'a', 'r', 'r', 'a', 'e', 't', 'y', 'b']) (by kernel_rfl) owner_bytearray']; kernel_rfl
end Fc
end

section
-- part R3
abbrev baOf (b : Array UInt8) : Obj := { cls := .type "bytearray", data := .bytearray b }
section
variable {prog : Program} {w : World} {A : Around} {E : Value → Shared → Prop} {R : Result → Shared → Prop} {s : Shared}
/-- a built-in called in a clean place -/
theorem builtin_C {T : String} {name : PySem.Str} {id : String} {B : Builtin} {self : Value} {rest : List Value} {Q : Value → Shared → Prop} (slot : Slot T name id) (hT : s.TypeIs self T)
    (entry : entryFor table id = some B) (args : argsOk id ⟨self :: rest, []⟩) (hh : isHolder (.builtin id ⟨self :: rest, []⟩) = false)
    (h : wpC (model prog w) A.in1 (B ⟨self :: rest, []⟩) (fun fin s' => ∃ v, fin = .done (.ret v) ∧ Q v s') E s) :
    wpC (model prog w) A (call (.builtin id) (self :: rest)) Q E s := by
  refine wpC_call (codeC_tree rfl ?_)
  show wpC _ A.in1 (do checkBuiltinCall id ⟨self :: rest, []⟩; again (.builtin id ⟨self :: rest, []⟩)) _ _ s
  refine wpC_first (slot.check _ _ _ _ _ _ _ _ hT args (wpC_pure ⟨plainId_quiet slot.plain _, codeC_tree hh ?_⟩))
  rw [Around.under_plainId slot.plain]
  show wpC _ _ (match entryFor table id with | some b => b ⟨self :: rest, []⟩ | none => unsupported ((withoutEnding? id "#data").getD id)) _ _ s
  rw [entry]
  refine wpC_mono h (fun fin s' hf => ?_) fun _ _ x => x
  obtain ⟨v, rfl, hv⟩ := hf
  exact hv
theorem baTypeIs {D : Addr} {b : Array UInt8} (h : s.heap.get? D = some (baOf b)) : s.TypeIs (.ref D) "bytearray" := ⟨_, h, rfl⟩
theorem wpAny_write {M : Model} {D : Addr} {b : Array UInt8} {f : Array UInt8 → Array UInt8} {Q : Unit → Shared → Prop} (ho : s.heap.get? D = some (baOf b)) (hz : (f b).size ≤ 16777216)
    (h : Q () { s with heap := s.heap.update D (Obj.mapBytearray f) }) : wpAny M A (Builtin.Bytes.write (.ref D) f) Q E s := by
  show wpAny _ _ (updateBytearray D f) _ _ _
  unfold updateBytearray
  refine wpAny_bind (wpAny_load ho ?_)
  show wpAny _ _ (update D (Obj.mapBytearray f) >>= fun _ => lookBehind D) _ _ _
  refine wpAny_bind (wpAny_update ho ?_)
  have h2 : (s.heap.update D (Obj.mapBytearray f)).get? D = some (baOf (f b)) := Heap.get?_update_self (Obj.mapBytearray f) ho rfl
  refine wpAny_lookBehind h2 ?_ h
  show (if (f b).size > sizeLine then some "bytearray:memory" else none) = none
  rw [if_neg]
  rw [sizeLine_eq]
  omega
theorem checkResize_C {M : Model} {D : Addr} {b : Array UInt8} {Q : Unit → Shared → Prop} (ho : s.heap.get? D = some (baOf b)) (h : Q () s) : wpC M A (Builtin.Bytes.checkResize (.ref D)) Q E s := by
  unfold Builtin.Bytes.checkResize
  refine wpC_bind ?_
  show wpC M A (Builtin.Bytes.exported (.ref D) >>= fun b => match toBool b with
    | true => pure b
    | false => (do let n ← Builtin.Bytes.exportsOf (.ref D); pure (decide (n > 0)) : Sem Bool)) _ E s
  refine wpC_bind (exported_C ?_)
  show wpC M A (do let n ← Builtin.Bytes.exportsOf (.ref D); pure (decide (n > 0)) : Sem Bool) _ E s
  refine wpC_first ?_
  unfold Builtin.Bytes.exportsOf
  exact wpAny_bind (wpAny_load ho (wpAny_pure (wpC_pure (wpC_pure h))))
theorem getMethod_append {M : Model} {D : Addr} {b : Array UInt8} {pl : Sem Bool} {Q : Value × List Value → Shared → Prop} (ho : s.heap.get? D = some (baOf b)) (h : Q (.builtin "bytearray.append", [.ref D]) s) :
    wpAny M A (getMethod (.ref D) "append" pl) Q E s :=
  getMethod_builtin (baTypeIs ho) Fc.plainAttrs_bytearray' Fc.slot_bytearray_append Fc.type_bytearray_append (fun a e => by cases e; exact ⟨_, ho, rfl⟩) h
theorem getMethod_extend {M : Model} {D : Addr} {b : Array UInt8} {pl : Sem Bool} {Q : Value × List Value → Shared → Prop} (ho : s.heap.get? D = some (baOf b)) (h : Q (.builtin "bytearray.extend", [.ref D]) s) :
    wpAny M A (getMethod (.ref D) "extend" pl) Q E s :=
  getMethod_builtin (baTypeIs ho) Fc.plainAttrs_bytearray' Fc.slot_bytearray_extend Fc.type_bytearray_extend (fun a e => by cases e; exact ⟨_, ho, rfl⟩) h
theorem append_C {D : Addr} {b : Array UInt8} {c : Int} {t : Tok} {h₀ : Heap} {L : Addr} {m : PySem.Str → Option Value} {news news' : List (Addr × Obj)} {Q : Value → Shared → Prop}
    (F : Fr h₀ L s.heap m) (N : News h₀ L s.heap news) (U : Upd D (baOf b) (baOf (b.push c.toNat.toUInt8)) news news') (h0 : 0 ≤ c) (h1 : c < 256) (hz : b.size ≤ 1000)
    (h : ∀ h', Fr h₀ L h' m → News h₀ L h' news' → Q .none { s with heap := h' }) : wpC (model prog w) A (call (.builtin "bytearray.append") [.ref D, .int c t]) Q E s := by
  obtain ⟨pre, post, rfl, rfl, a, b'⟩ := U.split
  have z := N (D, baOf b) (List.mem_append.mpr (.inr (.head _)))
  refine builtin_C Fc.slot_bytearray_append (baTypeIs z.1) Fc.entry_bytearray_append (Fc.args_bytearray_append _ _) (by show holderIds.contains "bytearray.append" = false; decide +kernel) ?_
  show wpC _ _ (do
    let c' ← Builtin.Bytes.byteValue (.int c t)
    Builtin.Bytes.checkResize (.ref D)
    Builtin.Bytes.write (.ref D) (·.push c')
    ret .none) _ _ s
  refine wpC_first (wpAny_bind (wpAny_of_eq (a := c) rfl ?_))
  rw [if_neg (by simp only [Bool.or_eq_true, decide_eq_true_eq]; omega)]
  refine wpAny_pure (wpC_bind (checkResize_C z.1 (wpC_first (wpAny_write z.1 (by rw [Array.size_push]; omega) ?_))))
  refine wpC_pure ⟨_, rfl, h _ (F.change (Heap.SameBut.update ..) z.2.1 z.2.2) (news_set N a b' (Heap.SameBut.update ..) (Heap.get?_update_self _ z.1 rfl))⟩
theorem take_eq {id : String} {b : Array UInt8} {t : Tok} : Builtin.Bytes.takeBuffer? id (.bytes b t) 0 = pure (some (b, none)) := by
  unfold Builtin.Bytes.takeBuffer?
  rw [KBy.special_eq KBy.look_buffer, KBy.own_buffer]
  show (Builtin.Bytes.buffer? id (.bytes b t) false >>= fun r => pure (r.map (·, none))) = _
  rw [KBy.buffer_eq]
  rfl
theorem takeQuiet_eq {id : String} {b : Array UInt8} {t : Tok} : Builtin.Bytes.takeBufferQuiet? id (.bytes b t) 0 = pure (some (b, none)) := by
  unfold Builtin.Bytes.takeBufferQuiet?
  rw [take_eq]
  rfl
/-- nothing is put behind it: no check -/
theorem extend_nil {D : Addr} {b x : Array UInt8} {t : Tok} {h₀ : Heap} {L : Addr} {m : PySem.Str → Option Value} {news : List (Addr × Obj)} {Q : Value → Shared → Prop}
    (F : Fr h₀ L s.heap m) (N : News h₀ L s.heap news) (hD : (D, baOf b) ∈ news) (hx : x = #[]) (hz : b.size ≤ 1000)
    (h : ∀ h', Fr h₀ L h' m → News h₀ L h' news → Q .none { s with heap := h' }) : wpAny (model prog w) A (call (.builtin "bytearray.extend") [.ref D, .bytes x t]) Q E s := by
  have z := N _ hD
  subst hx
  refine wpAny_call_entry Fc.slot_bytearray_extend (baTypeIs z.1) Fc.entry_bytearray_extend ?_ (Fc.args_bytearray_extend _ _)
  unfold Builtin.«bytearray.extend»
  refine wpAny_bind (wpAny_of_eq (a := (Value.ref D, Value.bytes #[] t)) rfl ?_)
  refine wpAny_bind (wpAny_of_eq (KBy.special_eq KBy.look_buffer) ?_)
  show wpAny _ _ (rule "bytearray.extend.bytes-like" >>= fun _ => _) _ _ _
  refine wpAny_bind (wpAny_rule ?_)
  refine wpAny_bind (wpAny_bind (wpAny_bind (wpAny_load z.1 (wpAny_pure (wpAny_pure ?_)))))
  refine wpAny_bind (wpAny_of_eq takeQuiet_eq ?_)
  show wpAny _ _ (do Builtin.Bytes.write (.ref D) (· ++ #[]); ret .none) _ _ _
  refine wpAny_bind (wpAny_write z.1 (by rw [Array.append_empty]; omega) (wpAny_pure ⟨_, rfl, ?_⟩))
  refine h _ (F.change (Heap.SameBut.update ..) z.2.1 z.2.2) fun p hp => ⟨?_, (N p hp).2⟩
  by_cases e : p.1 = D
  · have e2 := (N p hp).1
    rw [e, z.1] at e2
    rw [e, Heap.get?_update_self _ z.1 rfl, ← e2]
    show some (baOf (b ++ #[])) = _
    rw [Array.append_empty]
  · exact (Heap.get?_update_ne _ _ _ _ e).trans (N p hp).1
end
end

section
-- part R4
theorem ba_no_bytes : typeLookup (.type "bytearray") "__bytes__" = pure none := by rw [typeLookup_type, builtinLookup_eq_fast]; kernel_rfl
theorem ba_no_index : typeLookup (.type "bytearray") "__index__" = pure none := by rw [typeLookup_type, builtinLookup_eq_fast]; kernel_rfl
theorem ba_buffer : typeLookup (.type "bytearray") "__buffer__" = pure (some (.builtin "bytearray.__buffer__")) := by rw [typeLookup_type, builtinLookup_eq_fast]; kernel_rfl
theorem ba_release : typeLookup (.type "bytearray") "__release_buffer__" = pure (some (.builtin "bytearray.__release_buffer__")) := by rw [typeLookup_type, builtinLookup_eq_fast]; kernel_rfl
theorem ba_sub : isSubtype (.type "bytearray") (.type "bytearray") = pure true := by rw [isSubtype_type]; kernel_rfl
section
variable {M : Model} {prog : Program} {w : World} {A : Around} {E : Value → Shared → Prop} {R : Result → Shared → Prop} {s : Shared}
theorem ba_own {D : Addr} {b : Array UInt8} {name : String} {id : String} {Q : Bool → Shared → Prop} (ho : s.heap.get? D = some (baOf b)) (hl : typeLookup (.type "bytearray") (name : PySem.Str) = pure (some (.builtin id)))
    (he : (id.endsWith ("." ++ name)) = true) (hd : id.dropRight (name.length + 1) = "bytearray") (h : Q true s) : wpAny M A (Builtin.Bytes.slotIsOwn (.ref D) name) Q E s := by
  unfold Builtin.Bytes.slotIsOwn
  refine wpAny_bind (wpAny_specialOf (baTypeIs ho) hl ?_)
  show wpAny M A (if (!(id.endsWith ("." ++ name))) = true then _ else _) Q E s
  rw [he, hd]
  exact wpAny_isInstance (baTypeIs ho) ba_sub h
theorem ba_bufferFull {D : Addr} {b : Array UInt8} {id : String} {Q : Option (Array UInt8) → Shared → Prop} (ho : s.heap.get? D = some (baOf b)) (h : Q (some b) s) : wpAny M A (Builtin.Bytes.buffer? id (.ref D) true) Q E s := by
  unfold Builtin.Bytes.buffer?
  refine wpAny_bind (wpAny_specialOf (baTypeIs ho) ba_buffer ?_)
  refine wpAny_bind (ba_own ho ba_buffer (by decide +kernel) (by decide +kernel) ?_)
  show wpAny M A (specialOf (.ref D) "__buffer__" >>= _) Q E s
  refine wpAny_bind (wpAny_specialOf (baTypeIs ho) ba_buffer ?_)
  show wpAny M A (Builtin.Bytes.ownRelease (.ref D) >>= _) Q E s
  unfold Builtin.Bytes.ownRelease
  refine wpAny_bind (wpAny_bind (ba_own ho ba_release (by decide +kernel) (by decide +kernel) (wpAny_pure ?_)))
  show wpAny M A (Builtin.Bytes.payload (.ref D) >>= fun r => pure (some r)) Q E s
  refine wpAny_bind (wpAny_bind (wpAny_bind (wpAny_load ho (wpAny_pure (wpAny_pure ?_)))))
  exact wpAny_pure h
theorem bytes_new_ba {D : Addr} {b : Array UInt8} {Q : Value → Shared → Prop} (ho : s.heap.get? D = some (baOf b)) (hz : b.size ≤ 1000)
    (hQ : ∀ t k, Q (.bytes b t) { s with toks := k }) :
    codeAny (model prog w) A (.call (.builtin "bytes.__new__") ⟨[.type "bytes", .ref D], []⟩) (wants Q E) s := by
  refine codeAny_of_tree ?_
  show wpAny _ A.in1 (do checkBuiltinCall "bytes.__new__" ⟨[.type "bytes", .ref D], []⟩; again (.builtin "bytes.__new__" ⟨[.type "bytes", .ref D], []⟩)) _ _ s
  refine wpAny_bind (wpAny_of_eq (F.bm_newCall _) (wpAny_pure ⟨plainId_quiet F.bm_plain _, codeAny_builtin F.bm_entry ?_⟩))
  rw [Around.under_plainId F.bm_plain _]
  have hT : s.TypeIs (.ref D) "bytearray" := baTypeIs ho
  unfold Builtin.«bytes.__new__»
  refine wpAny_bind (wpAny_of_eq (a := true) rfl ?_)
  refine bm_if_false rfl ?_
  refine wpAny_bind (wpAny_of_eq F.bm_sub ?_)
  refine bm_if_false rfl ?_
  refine wpAny_bind (wpAny_of_eq (F.bm_bind _) ?_)
  refine wpAny_bind (wpAny_of_eq (a := ()) rfl ?_)
  refine wpAny_bind (wpAny_of_eq (a := ()) rfl ?_)
  refine bm_if_false rfl ?_
  refine wpAny_bind (wpAny_specialOf hT ba_no_bytes ?_)
  refine wpAny_bind (wpAny_bind ?_)
  show wpAny _ _ (load D >>= _) _ _ _
  refine wpAny_bind (wpAny_load ho ?_)
  refine wpAny_pure (wpAny_pure ?_)
  refine bm_if_false rfl ?_
  refine wpAny_bind (wpAny_specialOf hT ba_no_index ?_)
  refine bm_if_true rfl ?_
  first
    | show wpAny _ _ (Builtin.Bytes.buffer? "bytes.__new__" (.ref D) true >>= _) _ _ _
    | (refine wpAny_bind ?_; show wpAny _ _ (Builtin.Bytes.buffer? "bytes.__new__" (.ref D) true >>= _) _ _ _)
  refine wpAny_bind (ba_bufferFull ho ?_)
  show wpAny _ _ (rule "bytes.__new__.bytes-like" >>= fun _ => mkBytes b >>= fun v => if (Value.type "bytes" == Value.type "bytes") = true then ret v else _) _ _ _
  refine wpAny_bind (wpAny_rule (wpAny_bind (wpAny_mkBytes ?_ (by rw [sizeLine_eq]; omega))))
  exact bm_if_true rfl (wpAny_pure (hQ _ _))
/-- bytes(found) -/
theorem call_bytes_ba {D : Addr} {b : Array UInt8} {Q : Value → Shared → Prop} (ho : s.heap.get? D = some (baOf b)) (hz : b.size ≤ 1000)
    (hQ : ∀ t k, Q (.bytes b t) { s with toks := k }) : wpAny (model prog w) A (call (.type "bytes") [.ref D]) Q E s := by
  refine callType_codes (Q₁ := fun obj s₁ => s₁.TypeIs obj "bytes" ∧ Q obj s₁) F.bm_called (F.bm_typeCall _) F.entry_object_init
    (bytes_new_ba ho hz fun t k => ⟨PySem.W.typeIs_bytes _ _ _, hQ t k⟩) fun obj s₁ h₁ => ?_
  exact ⟨h₁.1, F.args_object_init_2 obj _, object_init_meets F.bm_called.init.lookup F.bm_called.made (by decide) prog w A.in1 _ s₁ ⟨h₁.1, rfl, h₁.2⟩⟩
end
theorem ba_mro : mroOf (.type "bytearray") = pure [.type "bytearray", .type "object"] := by rw [mroOf_type]; kernel_rfl
theorem ba_lookup_new : typeLookup (.type "bytearray") "__new__" = pure (some (.builtin "bytearray.__new__")) := by rw [typeLookup_type, builtinLookup_eq_fast]; kernel_rfl
theorem ba_made : Bind.madeBy (.type "bytearray") = pure (some "bytearray.__new__") := madeBy_type ba_mro ba_lookup_new (by decide +kernel)
theorem ba_typeCall : checkTypeCall "bytearray" ⟨[], []⟩ = pure () := by kernel_rfl
theorem ba_newCall : checkBuiltinCall "bytearray.__new__" ⟨[.type "bytearray"], []⟩ = pure () := by kernel_rfl
theorem ba_entry_new : entryFor table "bytearray.__new__" = some Builtin.«list.__new__» := entryFor_alias (id' := "list.__new__") (by kernel_rfl) rfl (by decide +kernel) (by kernel_rfl)
theorem ba_plain_new : plainId "bytearray.__new__" = true := by decide +kernel
set_option maxRecDepth 1000000 in
set_option maxHeartbeats 4000000 in
theorem owner_ba_new : ("bytearray.__new__".splitOn ".__new__").headD "" = "bytearray" := by simp +decide [String.splitOn, String.splitOnAux]
theorem ba_tree : Builtin.«type.__call__» ⟨[.type "bytearray"], []⟩ = (do
    let obj ← holding [.builtin "bytearray.__new__"] (call (.builtin "bytearray.__new__") [.type "bytearray"] [])
    if !(← isInstance obj (.type "bytearray")) then rule "type.call.new-gave-other-type"; return ← ret obj
    match ← holding [obj] (callSpecial? obj "__init__" [] []) with
    | none => ret obj
    | some r =>
      if r != .none then
        rule "type.call.init-returned-value"
        raiseError "TypeError" s!"__init__() should return None, not '{← typeNameOf r}'"
      ret obj) := by kernel_rfl
end

section
-- part R5
section
variable {M : Model} {prog : Program} {w : World} {A : Around} {E : Value → Shared → Prop} {R : Result → Shared → Prop} {s : Shared}
theorem code_ba_new {Q₁ : Value → Shared → Prop} (h : Q₁ (.ref s.heap.objs.size) { s with heap := s.heap.push (baOf #[]) }) :
    codeAny (model prog w) A (.call (.builtin "bytearray.__new__") ⟨[.type "bytearray"], []⟩) (wants Q₁ E) s := by
  refine codeAny_of_tree ?_
  show wpAny _ A.in1 (do checkBuiltinCall "bytearray.__new__" ⟨[.type "bytearray"], []⟩; again (.builtin "bytearray.__new__" ⟨[.type "bytearray"], []⟩)) _ _ s
  refine wpAny_bind (wpAny_of_eq ba_newCall (wpAny_pure ⟨plainId_quiet ba_plain_new _, codeAny_builtin_stack ba_entry_new rfl fun p st => ?_⟩))
  rw [Around.under_plainId ba_plain_new _]
  have hsub := ba_sub
  have hown := owner_ba_new
  obtain ⟨hp, g, d, tk, os⟩ := s
  simp only [hown]
  wp_walk
  exact h
theorem exportedOr_C {D : Addr} {b : Array UInt8} {Q : Bool → Shared → Prop} (ho : s.heap.get? D = some (baOf b)) (h : Q false s) :
    wpC M A (Builtin.Bytes.exported (.ref D) <||> (do return (← Builtin.Bytes.exportsOf (.ref D)) > 0)) Q E s := by
  show wpC M A (Builtin.Bytes.exported (.ref D) >>= fun b => match toBool b with
    | true => pure b
    | false => (do let n ← Builtin.Bytes.exportsOf (.ref D); pure (decide (n > 0)) : Sem Bool)) _ E s
  refine wpC_bind (exported_C ?_)
  show wpC M A (do let n ← Builtin.Bytes.exportsOf (.ref D); pure (decide (n > 0)) : Sem Bool) _ E s
  refine wpC_first ?_
  unfold Builtin.Bytes.exportsOf
  exact wpAny_bind (wpAny_load ho (wpAny_pure (wpC_pure h)))
theorem ba_bind : Builtin.Bytes.bindOptional "bytearray.__init__" "bytearray" ["source", "encoding", "errors"] [] [] = pure [none, none, none] := by kernel_rfl
theorem ba_init_C {D : Addr} {b : Array UInt8} {Q : Value → Shared → Prop} (ho : s.heap.get? D = some (baOf b)) (h : Q .none { s with heap := s.heap.update D (Obj.mapBytearray fun _ => #[]) }) :
    wpC (model prog w) A (call (.builtin "bytearray.__init__") [.ref D]) Q E s := by
  refine builtin_C Fc.slot_bytearray_uuinituu (baTypeIs ho) Fc.entry_bytearray_uuinituu (Fc.args_bytearray_uuinituu _) (by show holderIds.contains "bytearray.__init__" = false; decide +kernel) ?_
  unfold Builtin.«bytearray.__init__»
  show wpC _ _ (Builtin.Bytes.ownRelease (.ref D) >>= _) _ _ s
  unfold Builtin.Bytes.ownRelease
  refine wpC_first (wpAny_bind (ba_own ho ba_release (by decide +kernel) (by decide +kernel) (wpAny_pure ?_)))
  show wpC _ _ (Builtin.Bytes.bindOptional "bytearray.__init__" "bytearray" ["source", "encoding", "errors"] [] [] >>= _) _ _ s
  refine wpC_first (wpAny_of_eq ba_bind ?_)
  refine wpC_first (wpAny_of_eq (a := ()) rfl ?_)
  refine wpC_first (wpAny_of_eq (a := ()) rfl ?_)
  refine wpC_bind (exportedOr_C ho ?_)
  show wpC _ _ (Builtin.Bytes.write (.ref D) (fun _ => #[]) >>= fun _ => ret .none) _ _ s
  exact wpC_first (wpAny_write ho (by decide) (wpC_pure ⟨_, rfl, h⟩))
theorem codeC_builtin {id : String} {args : Args} {b : Builtin} (hh : isHolder (.builtin id args) = false) (hb : entryFor table id = some b)
    (h : wpC (model prog w) (A.under (.builtin id args)) (b args) (fun fin s' => match fin with | .done f => R (.ok f) s' | .again c' => c'.quiet = true ∧ codeC (model prog w) A c' R s') (fun e s' => R (.error e) s') s) :
    codeC (model prog w) A (.builtin id args) R s := by
  refine codeC_tree hh ?_
  show wpC _ _ (match entryFor table id with | some b => b args | none => unsupported ((withoutEnding? id "#data").getD id)) _ _ s
  rw [hb]; exact h
theorem call_ba_C {h₀ : Heap} {L : Addr} {m : PySem.Str → Option Value} {news : List (Addr × Obj)} {Q : Value → Shared → Prop} (F : Fr h₀ L s.heap m) (N : News h₀ L s.heap news)
    (h : ∀ D h', Fr h₀ L h' m → News h₀ L h' ((D, baOf #[]) :: news) → (∀ p ∈ news, p.1 < D) → Q (.ref D) { s with heap := h' }) :
    wpC (model prog w) A (call (.type "bytearray") []) Q E s := by
  refine wpC_call (codeC_tree rfl (wpC_any ?_))
  show wpAny _ _ (callAny (.type "bytearray") _) _ _ _
  refine wpAny_pure ⟨Code.quiet_builtin _ (by decide +kernel), codeC_builtin (by show holderIds.contains "type.__call__" = false; decide +kernel) PySem.F.entry_type_call ?_⟩
  rw [Around.under_plain (weight_type_call_type "bytearray" [] []) (units_type_call_type "bytearray" [] []), ba_tree]
  have z : (s.heap.push (baOf #[])).get? s.heap.objs.size = some (baOf #[]) := Heap.get?_push_size _ rfl
  refine wpC_first (wpAny_holding (wpAny_call (code_ba_new (Q₁ := fun v s' => _) ?_)))
  refine wpC_first (wpAny_isInstance (baTypeIs (s := { s with heap := s.heap.push (baOf #[]) }) z) ba_sub ?_)
  show wpC _ _ (holding [Value.ref s.heap.objs.size] (callSpecial? (.ref s.heap.objs.size) "__init__" [] []) >>= _) _ _ _
  refine wpC_bind (wpC_holding ?_)
  simp only [callSpecial?]
  refine wpC_first (wpAny_specialOf (baTypeIs (s := { s with heap := s.heap.push (baOf #[]) }) z) Fc.slot_bytearray_uuinituu.lookup ?_)
  simp only [Fc.slot_bytearray_uuinituu.bind]
  refine wpC_holding (wpC_first (wpAny_pure (wpC_bind ?_)))
  refine ba_init_C (s := { s with heap := s.heap.push (baOf #[]) }) z ?_
  refine wpC_pure (wpC_pure ?_)
  have hn : h₀.get? s.heap.objs.size = none := next_is_new F
  have hl : ∀ p ∈ news, p.1 < s.heap.objs.size := fun p hp => Heap.lt_size (N p hp).1
  refine h _ _ ((F.push _).change (Heap.SameBut.update ..) (Nat.ne_of_gt F.ns.lt) hn) (fun p hp => ?_) hl
  rcases List.mem_cons.mp hp with rfl | hp
  · exact ⟨Heap.get?_update_self _ z rfl, Nat.ne_of_gt F.ns.lt, hn⟩
  · exact ⟨(Heap.get?_update_ne _ _ _ _ (Nat.ne_of_lt (hl p hp))).trans (Heap.get?_push_of_some _ (N p hp).1), (N p hp).2⟩
end
end

section
-- part S1
section
variable {M : Model} {prog : Program} {w : World} {A : Around} {E : Value → Shared → Prop} {s : Shared} {env : Env}
theorem tail_C {t : Sem Value} {Q : Value → Shared → Prop} (h : wpC M A t Q E s) : wpC M A (t >>= fun r => holding [r] point >>= fun _ => pure r) Q E s :=
  wpC_bind (wpC_mono h (fun _ _ hr => wpC_first (wpAny_holding (wpAny_point (wpC_pure hr)))) fun _ _ x => x)
theorem callWith_C {f : Value} {first : List Value} {pos : Pos} {P : Heap → Prop} {args : List (Bool × Sem Value)} {Q : Value → Shared → Prop} (hplain : args.any (·.1) = false)
    (hk : ∀ h, P h → ∃ k, (k = Keeper.frame ∨ k = Keeper.machine ∨ k = Keeper.boundFrame) ∧ Looks M h (keeperOf f) k)
    (h : wpAny M A (evalArgs f true args []) (fun a s₁ => P s₁.heap ∧ wpC M A (call f (first ++ a.pos) a.kw) Q E s₁) E s) : wpC M A (callWith pos f first args []) Q E s := by
  unfold callWith
  refine wpC_first (wpAny_holding (wpAny_mono h (fun a s₁ h₁ => wpC_standAt ?_) fun _ _ x => x))
  obtain ⟨k, hk', L⟩ := hk _ h₁.1
  simp only [hplain, List.any_nil, Bool.or_false]
  refine wpC_first (L.here ?_)
  have marked (mk : Value) : wpC M A (callMarked mk f (first ++ a.pos) a.kw) Q E s₁ := by unfold callMarked; exact wpC_keep h₁.2
  rcases hk' with rfl | rfl | rfl <;> dsimp only <;> first | exact tail_C h₁.2 | (split <;> first | exact tail_C h₁.2 | exact tail_C (marked _))
theorem callWithK_C {K : Frag} {f : Value} {e : Expr} {rest : List Expr} {first : List Value} {pos : Pos} {Q : Value → Shared → Prop} (hk : keepIn K f = true)
    (h : wpAny M A (spliced (backTo pos (starEach (e :: rest) env))) (fun vs s₁ => K.In s₁.heap ∧ wpC M A (call f (first ++ vs)) Q E s₁) E s)
    (he : starEach (e :: rest) env = (false, eval e env) :: starEach rest env := by rfl) (hplain : (backTo pos (starEach rest env)).any (·.1) = false := by rfl) :
    wpC M A (callWith pos f first (backTo pos (starEach (e :: rest) env)) []) Q E s := by
  rw [he] at h ⊢
  exact callWith_C (by show (false || (backTo pos (starEach rest env)).any (·.1)) = false; rw [hplain]; rfl) (keeps_K hk) (evalArgs_plain h)
theorem machine_C {v : Value} (hv : keeperOf v = pure .machine) : ∀ h : Heap, (fun _ : Heap => True) h → ∃ k, (k = Keeper.frame ∨ k = Keeper.machine ∨ k = Keeper.boundFrame) ∧ Looks M h (keeperOf v) k :=
  fun _ _ => ⟨.machine, .inr (.inl rfl), Looks.of_pure hv⟩
/-- a built-in or a built-in type, called with one argument and more -/
theorem callWithB_C {f : Value} {e : Expr} {rest : List Expr} {first : List Value} {pos : Pos} {Q : Value → Shared → Prop} (hv : keeperOf f = pure .machine)
    (h : wpAny M A (spliced (backTo pos (starEach (e :: rest) env))) (fun vs s₁ => wpC M A (call f (first ++ vs)) Q E s₁) E s)
    (he : starEach (e :: rest) env = (false, eval e env) :: starEach rest env := by rfl) (hplain : (backTo pos (starEach rest env)).any (·.1) = false := by rfl) :
    wpC M A (callWith pos f first (backTo pos (starEach (e :: rest) env)) []) Q E s := by
  rw [he] at h ⊢
  exact callWith_C (P := fun _ => True) (by show (false || (backTo pos (starEach rest env)).any (·.1)) = false; rw [hplain]; rfl) (machine_C hv) (evalArgs_plain (wpAny_mono h (fun _ _ q => ⟨trivial, q⟩) fun _ _ x => x))
theorem callWithB0_C {f : Value} {first : List Value} {pos : Pos} {Q : Value → Shared → Prop} (hv : keeperOf f = pure .machine)
    (h : wpC M A (call f (first ++ [])) Q E s) : wpC M A (callWith pos f first (backTo pos (starEach [] env)) []) Q E s :=
  callWith_C (P := fun _ => True) rfl (machine_C hv) (evalArgs_nil3 ⟨trivial, h⟩)
theorem evalCall_C {func : Expr} {args : List Expr} {pos : Pos} {Q : Value → Shared → Prop}
    (h : wpAny M A (eval func env) (fun f s₁ => wpC M A (callWith pos f [] (backTo pos (starEach args env)) []) Q E s₁) E s)
    (he : eval (.Call func args [] pos) env = (do let f ← eval func env; callWith pos f [] (backTo pos (starEach args env)) []) := by rfl) :
    wpC M A (eval (.Call func args [] pos) env) Q E s := by
  rw [he]
  exact wpC_first h
theorem evalMethod_C {o : Expr} {name : PySem.Str} {args : List Expr} {apos pos : Pos} {pl : Sem Bool} {Q : Value → Shared → Prop}
    (h : wpAny M A (eval o env) (fun ov s₁ => wpAny M A (getMethod ov name pl) (fun fx s₂ => wpC M A (callWith pos fx.1 fx.2 (backTo pos (starEach args env)) []) Q E s₂) E s₁) E s)
    (he : eval (.Call (.Attribute o name apos) args [] pos) env = (do
      let ov ← eval o env
      standAt apos.atName
      let (f, first) ← holding [ov] (getMethod ov name pl)
      callWith pos f first (backTo pos (starEach args env)) []) := by rfl) :
    wpC M A (eval (.Call (.Attribute o name apos) args [] pos) env) Q E s := by
  rw [he]
  refine wpC_first (wpAny_mono h (fun ov s₁ h₁ => wpC_standAt (wpC_first (wpAny_holding (wpAny_mono h₁ (fun fx s₂ h₂ => ?_) fun _ _ x => x)))) fun _ _ x => x)
  exact h₂
theorem tuple_C {elts : List Expr} {k : Nat} {pos : Pos} {Q : Value → Shared → Prop}
    (h : wpC M A (spliced (backTo pos (starEach elts env))) (fun vs s₁ => wpAny M A (newTuple vs) Q E s₁) E s) : wpC M A (eval (.Tuple elts k pos) env) Q E s := by
  show wpC M A (do standAt pos; newTuple (← spliced (backTo pos (starEach elts env)))) Q E s
  exact wpC_standAt (wpC_bind (wpC_mono h (fun _ _ q => wpC_any q) fun _ _ x => x))
theorem spliced_C {x : Sem Value} {rest : List (Bool × Sem Value)} {Q : List Value → Shared → Prop}
    (h : wpC M A x (fun v s₁ => wpC M A (spliced rest) (fun vs s₂ => Q (v :: vs) s₂) E s₁) E s) : wpC M A (spliced ((false, x) :: rest)) Q E s := by
  rw [spliced]
  refine wpC_bind (wpC_mono h (fun v s₁ h₁ => ?_) fun _ _ x => x)
  simp only [Bool.false_eq_true, if_false]
  exact wpC_first (wpAny_pure (wpC_bind (wpC_holding (wpC_mono h₁ (fun vs s₂ h₂ => wpC_pure h₂) fun _ _ x => x))))
theorem assignTuple_C {elts : List Expr} {k : Nat} {tpos pos : Pos} {value : Expr} {Q : Flow → Shared → Prop} {names : List PySem.Str}
    (h : wpC M A (eval value env) (fun v s₁ => wpAny M A (unpackItems v names.length none) (fun items s₂ =>
      wpAny M A (assignInOrder (names.reverse.map fun n => bindName env n) items.reverse) (fun _ => Q .next) E s₂) E s₁) E s)
    (hs : swapsWithSole [.Tuple elts k tpos] value pos.line env = pure false := by rfl)
    (hw : swappedStores [.Tuple elts k tpos] value env = pure (some names) := by rfl) : wpC M A (exec (.Assign [.Tuple elts k tpos] value pos) env) Q E s := by
  rw [exec_Assign]
  refine wpC_standAt ?_
  rw [hs]
  refine wpC_first (wpAny_pure ?_)
  rw [if_neg (by decide)]
  refine wpC_bind (wpC_mono h (fun v s₁ h₁ => ?_) fun _ _ x => x)
  rw [hw]
  refine wpC_first (wpAny_pure ?_)
  refine wpC_any ?_
  show wpAny M A (do rule "assign.swapped-stores"; let items ← unpackItems v names.length none; assignInOrder (names.reverse.map fun n => bindName env n) items.reverse; pure .next) Q E s₁
  exact wpAny_bind (wpAny_rule (wpAny_bind (wpAny_mono h₁ (fun items s₂ h₂ => wpAny_bind (wpAny_mono h₂ (fun _ _ q => wpAny_pure q) fun _ _ x => x)) fun _ _ x => x)))
end
end

section
-- part R6
def placeI (ks : List Int) (c : Int) (i : Nat) : Bool := ks[i]? == some c
def findI (ks : List Int) (c : Int) : Int := match (List.range ks.length).find? (placeI ks c) with | some i => (i : Int) | none => -1
def rfindI (ks : List Int) (c : Int) : Int := match (List.range ks.length).reverse.find? (placeI ks c) with | some i => (i : Int) | none => -1
theorem ex_one {b : Array UInt8} {u : UInt8} {i : Nat} (hi : i < b.size) : (b.extract i (i + 1) == #[u]) = placeI (KBw.bInts b) (u.toNat : Int) i := by
  have e1 : (KBw.bInts b)[i]? = some ((b[i].toNat : Int)) := KBw.ints_get (by simp [hi])
  have e2 : b.extract i (i + 1) = #[b[i]] := by
    apply Array.ext
    · simp; omega
    · intro j h1 h2
      have : j = 0 := by simp at h2; omega
      subst this
      simp
  unfold placeI
  rw [e1, e2]
  by_cases h : b[i] = u
  · subst h; simp
  · have h' : ¬ (b[i].toNat = u.toNat) := fun q => h (UInt8.toNat_inj.mp q)
    have h'' : ¬ ((b[i].toNat : Int) = (u.toNat : Int)) := fun q => h' (by omega)
    have x1 : (#[b[i]] == #[u]) = false := by
      rw [Bool.eq_false_iff]; intro q
      have := eq_of_beq q
      simp at this
      exact h this
    have x2 : (some (b[i].toNat : Int) == some (u.toNat : Int)) = false := by
      rw [Bool.eq_false_iff]; intro q
      exact h'' (Option.some.inj (eq_of_beq q))
    rw [x1, x2]
theorem find_congr {l : List Nat} {p q : Nat → Bool} (h : ∀ i ∈ l, p i = q i) : l.find? p = l.find? q := by
  induction l with
  | nil => rfl
  | cons a r ih =>
    rw [List.find?_cons, List.find?_cons, h a (List.mem_cons_self ..), ih fun i hi => h i (List.mem_cons_of_mem _ hi)]
theorem find_one {b : Array UInt8} {u : UInt8} : Builtin.Bytes.find? b #[u] 0 b.size = (List.range (KBw.bInts b).length).find? (placeI (KBw.bInts b) u.toNat) := by
  unfold Builtin.Bytes.find?
  have e : b.size + 1 - (0 + (#[u] : Array UInt8).size) = b.size := by simp
  rw [e, KBw.ints_length]
  have e2 : (List.range b.size).map (· + 0) = List.range b.size := by simp
  rw [e2]
  exact find_congr fun i hi => ex_one (List.mem_range.mp hi)
theorem rfind_one {b : Array UInt8} {u : UInt8} : Builtin.Bytes.rfind? b #[u] 0 b.size = (List.range (KBw.bInts b).length).reverse.find? (placeI (KBw.bInts b) u.toNat) := by
  unfold Builtin.Bytes.rfind?
  have e : b.size + 1 - (0 + (#[u] : Array UInt8).size) = b.size := by simp
  rw [e, KBw.ints_length]
  have e2 : (List.range b.size).map (· + 0) = List.range b.size := by simp
  rw [e2]
  exact find_congr fun i hi => ex_one (List.mem_range.mp (List.mem_reverse.mp hi))
section
variable {M : Model} {prog : Program} {w : World} {A : Around} {E : Value → Shared → Prop} {s : Shared}
theorem searchArgs_one {b : Array UInt8} {u : UInt8} {t t2 : Tok} {name : String} : Builtin.Bytes.searchArgs .bytes name ⟨[.bytes b t, .bytes #[u] t2], []⟩ =
    (pure (b, #[u], if (b.size : Int) - 0 < ((#[u] : Array UInt8).size : Int) then none else some (0, b.size)) : Sem _) := by
  unfold Builtin.Bytes.searchArgs
  show (Builtin.Bytes.buffer? _ (.bytes #[u] t2) >>= fun r => _) = _
  rw [KBy.buffer_eq]
  show (pure (b, (#[u] : Array UInt8), _) : Sem _) = _
  have e1 : (min (b.size : Int) ((fun i : Int => if i < 0 then max 0 (i + b.size) else i) ((none : Option Int).getD b.size))) = (b.size : Int) := by
    show min (b.size : Int) (if (b.size : Int) < 0 then max 0 ((b.size : Int) + b.size) else (b.size : Int)) = _
    rw [if_neg (by omega)]
    omega
  have e2 : ((fun i : Int => if i < 0 then max 0 (i + b.size) else i) ((none : Option Int).getD 0)) = 0 := by
    show (if (0 : Int) < 0 then max 0 ((0 : Int) + b.size) else (0 : Int)) = _
    rw [if_neg (by omega)]
  rw [e1, e2]
  rfl
theorem find_K {b : Array UInt8} {ks : List Int} {u : UInt8} {t t2 : Tok} {Q : Value → Shared → Prop} (hk : KBw.bInts b = ks)
    (h : ∀ t' k, Q (.int (findI ks u.toNat) t') { s with toks := k }) : wpAny (model prog w) A (call (.builtin "bytes.find") [.bytes b t, .bytes #[u] t2]) Q E s := by
  subst hk
  refine wpAny_call_entry Fc.slot_bytes_find (PySem.W.typeIs_bytes _ _ _) Fc.entry_bytes_find ?_ (Fc.args_bytes_find _ _)
  unfold Builtin.«bytes.find» Builtin.Bytes.searchM
  refine wpAny_bind (wpAny_of_eq searchArgs_one ?_)
  by_cases hz : b.size = 0
  · have e : b = #[] := Array.eq_empty_of_size_eq_zero hz
    subst e
    show wpAny _ _ (rule _ >>= fun _ => mkInt (-1) >>= fun v => ret v) _ _ _
    exact wpAny_bind (wpAny_rule (wpAny_bind (wpAny_mkInt (wpAny_pure ⟨_, rfl, h _ _⟩))))
  · rw [if_neg (by simp; omega)]
    show wpAny _ _ (match Builtin.Bytes.find? b #[u] 0 b.size with | some i => retInt i | none => rule _ >>= fun _ => mkInt (-1) >>= fun v => ret v) _ _ _
    rw [find_one]
    unfold findI at h
    cases hf : (List.range (KBw.bInts b).length).find? (placeI (KBw.bInts b) u.toNat) with
    | none =>
      rw [hf] at h
      exact wpAny_bind (wpAny_rule (wpAny_bind (wpAny_mkInt (wpAny_pure ⟨_, rfl, h _ _⟩))))
    | some i =>
      rw [hf] at h
      show wpAny _ _ (mkInt (i : Int) >>= fun v => ret v) _ _ _
      exact wpAny_bind (wpAny_mkInt (wpAny_pure ⟨_, rfl, h _ _⟩))
theorem rfind_K {b : Array UInt8} {ks : List Int} {u : UInt8} {t t2 : Tok} {Q : Value → Shared → Prop} (hk : KBw.bInts b = ks)
    (h : ∀ t' k, Q (.int (rfindI ks u.toNat) t') { s with toks := k }) : wpAny (model prog w) A (call (.builtin "bytes.rfind") [.bytes b t, .bytes #[u] t2]) Q E s := by
  subst hk
  refine wpAny_call_entry Fc.slot_bytes_rfind (PySem.W.typeIs_bytes _ _ _) Fc.entry_bytes_rfind ?_ (Fc.args_bytes_rfind _ _)
  unfold Builtin.«bytes.rfind» Builtin.Bytes.searchM
  refine wpAny_bind (wpAny_of_eq searchArgs_one ?_)
  by_cases hz : b.size = 0
  · have e : b = #[] := Array.eq_empty_of_size_eq_zero hz
    subst e
    show wpAny _ _ (rule _ >>= fun _ => mkInt (-1) >>= fun v => ret v) _ _ _
    exact wpAny_bind (wpAny_rule (wpAny_bind (wpAny_mkInt (wpAny_pure ⟨_, rfl, h _ _⟩))))
  · rw [if_neg (by simp; omega)]
    show wpAny _ _ (match Builtin.Bytes.rfind? b #[u] 0 b.size with | some i => retInt i | none => rule _ >>= fun _ => mkInt (-1) >>= fun v => ret v) _ _ _
    rw [rfind_one]
    unfold rfindI at h
    cases hf : (List.range (KBw.bInts b).length).reverse.find? (placeI (KBw.bInts b) u.toNat) with
    | none =>
      rw [hf] at h
      exact wpAny_bind (wpAny_rule (wpAny_bind (wpAny_mkInt (wpAny_pure ⟨_, rfl, h _ _⟩))))
    | some i =>
      rw [hf] at h
      show wpAny _ _ (mkInt (i : Int) >>= fun v => ret v) _ _ _
      exact wpAny_bind (wpAny_mkInt (wpAny_pure ⟨_, rfl, h _ _⟩))
theorem getMethod_bytes {M : Model} {b : Array UInt8} {t : Tok} {name : PySem.Str} {id : String} {pl : Sem Bool} {Q : Value × List Value → Shared → Prop} (slot : Slot "bytes" name id) (ty : typeOf (.builtin id) = pure (.type "method_descriptor"))
    (h : Q (.builtin id, [.bytes b t]) s) : wpAny M A (getMethod (.bytes b t) name pl) Q E s :=
  KBd.method_of (.bytes b t) (PySem.W.typeIs_bytes _ _ _) slot ty KBd.noRef h
end
end

section
-- part R7
section
variable {prog : Program} {w : World} {A : Around} {E : Value → Shared → Prop} {s : Shared}
theorem in_bytes_int {b : Array UInt8} {c : Int} {t t2 : Tok} {Q : Value → Shared → Prop} (h0 : 0 ≤ c) (h1 : c < 256) (h : Q (.bool (b.contains c.toNat.toUInt8)) s) :
    wpAny (model prog w) A (compareOp .In (.int c t) (.bytes b t2)) Q E s := by
  refine In_slot (PySem.W.typeIs_bytes s b t2) PySem.W.FB.slot_bytes_contains (wpAny_call_entry PySem.W.FB.slot_bytes_contains (PySem.W.typeIs_bytes s b t2) PySem.W.FB.entry_bytes_contains ?_ (PySem.W.FB.args_bytes_contains_2 _ _))
  show wpAny _ _ (do ret (.bool (← Builtin.Bytes.containsIn "bytes.__contains__" (.bytes b t2) (.int c t)))) _ _ s
  unfold Builtin.Bytes.containsIn
  refine wpAny_bind (wpAny_bind (wpAny_attempt (wpAny_of_eq (rfl : asIndex (.int c t) = pure c) ?_)))
  show wpAny _ _ (Builtin.Bytes.buffer? _ (.bytes b t2) >>= fun _ => _) _ _ s
  rw [KBy.buffer_eq]
  show wpAny _ _ (if (decide (c < 0) || decide (c ≥ 256)) = true then _ else _) _ _ s
  rw [if_neg (by simp only [Bool.or_eq_true, decide_eq_true_eq]; omega)]
  exact wpAny_pure (wpAny_pure ⟨_, rfl, wpAny_truthy_bool h⟩)
theorem in_bytes_yes {b : Array UInt8} {c : Int} {t t2 : Tok} {Q : Value → Shared → Prop} (h0 : 0 ≤ c) (h1 : c < 256) (hc : b.contains c.toNat.toUInt8 = true) (h : Q (.bool true) s) :
    wpAny (model prog w) A (compareOp .In (.int c t) (.bytes b t2)) Q E s := in_bytes_int h0 h1 (by rw [hc]; exact h)
end
end

section
-- part R8
namespace Fr
theorem rv_slot_init : Slot "reversed" "__init__" "object.__init__" :=
  .of (owner := "object") (n := "__init__") (by rw [typeLookup_type, builtinLookup_eq_fast]; kernel_rfl) (by decide +kernel) (by decide +kernel) (by decide +kernel)
    (by first | exact .inl (by decide +kernel) | exact .inr (by decide +kernel)) (by rw [isSubtype_type]; kernel_rfl)
theorem rv_called : TypeCalled "reversed" "reversed.__new__" "object.__init__" :=
  ⟨by decide +kernel, by decide +kernel, ⟨_, _, F.mro_reversed⟩, madeBy_type F.mro_reversed F.lookup_reversed_new (by decide +kernel), by decide +kernel, by rw [isSubtype_type]; kernel_rfl, rv_slot_init⟩
theorem no_rev : typeLookup (.type "bytes") "__reversed__" = pure none := by rw [typeLookup_type, builtinLookup_eq_fast]; kernel_rfl
theorem look_getitem : typeLookup (.type "bytes") "__getitem__" = pure (some (.builtin "bytes.__getitem__")) := by rw [typeLookup_type, builtinLookup_eq_fast]; kernel_rfl
theorem sub_bytes_dict : isSubtype (.type "bytes") (.type "dict") = pure false := by rw [isSubtype_type]; kernel_rfl
theorem slot_rv_next : Slot "reversed" "__next__" "reversed.__next__" :=
  .of (owner := "reversed") (n := "__next__") (by rw [typeLookup_type, builtinLookup_eq_fast]; kernel_rfl) (by decide +kernel) (by decide +kernel) (by decide +kernel)
    (by first | exact .inl (by decide +kernel) | exact .inr (by decide +kernel)) (by rw [isSubtype_type]; kernel_rfl)
theorem entry_rv_next : entryFor table "reversed.__next__" = some Builtin.«reversed.__next__» := entryFor_of_tree (by kernel_rfl)
theorem owner_rv : Manifest.owners.lookup (String.ofList ['d', 'e', 's', 'r', 'e', 'v', 'e', 'r'].reverse) = some Manifest.sig_reversed := by kernel_rfl
theorem args_rv_next (a : Value) : argsOk "reversed.__next__" ⟨[a], []⟩ := by
  unfold argsOk; rw [signature?_of (id := "reversed.__next__") (n := ['_', '_', 't', 'x', 'e', 'n', '_', '_']) (o := ['d', 'e', 's', 'r', 'e', 'v', 'e', 'r']) (by kernel_rfl) owner_rv]; kernel_rfl
theorem slot_rv_iter : Slot "reversed" "__iter__" "reversed.__iter__" :=
  .of (owner := "reversed") (n := "__iter__") (by rw [typeLookup_type, builtinLookup_eq_fast]; kernel_rfl) (by decide +kernel) (by decide +kernel) (by decide +kernel)
    (by first | exact .inl (by decide +kernel) | exact .inr (by decide +kernel)) (by rw [isSubtype_type]; kernel_rfl)
theorem args_rv_iter (a : Value) : argsOk "reversed.__iter__" ⟨[a], []⟩ := by
  unfold argsOk; rw [signature?_of (id := "reversed.__iter__") (n := ['_', '_', 'r', 'e', 't', 'i', '_', '_']) (o := ['d', 'e', 's', 'r', 'e', 'v', 'e', 'r']) (by kernel_rfl) owner_rv]; kernel_rfl
theorem entry_rv_iter : entryFor table "reversed.__iter__" = some Builtin.«dict_keyiterator.__iter__» :=
  entryFor_alias (id' := "dict_keyiterator.__iter__") (by kernel_rfl) (by first | rfl | decide +kernel | (unfold String.splitOn; simp +decide [String.splitOnAux])) (by decide +kernel) (by kernel_rfl)
end Fr
def rvObj (b : Array UInt8) (t : Tok) (i : Int) : Obj := { cls := .type "reversed", data := .fields #[.bytes b t, rawInt i] }
section
variable {prog : Program} {w : World} {A : Around} {E : Value → Shared → Prop} {s : Shared} {b : Array UInt8} {t : Tok}
theorem code_rv_new {Q₁ : Value → Shared → Prop} (hz : b.size ≤ 1000)
    (h : ∀ tk, Q₁ (.ref s.heap.objs.size) { s with heap := s.heap.push (rvObj b t ((b.size : Int) - 1)), toks := tk }) :
    codeAny (model prog w) A (.call (.builtin "reversed.__new__") ⟨[.type "reversed", .bytes b t], []⟩) (wants Q₁ E) s := by
  refine codeAny_of_tree ?_
  show wpAny _ A.in1 (do checkBuiltinCall "reversed.__new__" ⟨[.type "reversed", .bytes b t], []⟩; again (.builtin "reversed.__new__" ⟨[.type "reversed", .bytes b t], []⟩)) _ _ s
  refine wpAny_bind (wpAny_of_eq (F.newCall_reversed_1 _) (wpAny_pure ⟨plainId_quiet F.plain_reversed_new _, codeAny_builtin F.entry_reversed_new ?_⟩))
  rw [Around.under_plainId F.plain_reversed_new _]
  unfold Builtin.«reversed.__new__»
  refine wpAny_bind (wpAny_of_eq (newClass_reversed _) ?_)
  try dsimp only
  refine wpAny_bind (wpAny_of_eq (a := ()) (by first | rfl | kernel_rfl) ?_)
  refine wpAny_bind (wpAny_of_eq (a := ()) (by first | rfl | kernel_rfl) ?_)
  try dsimp only
  refine wpAny_bind (wpAny_specialOf (PySem.W.typeIs_bytes s b t) Fr.no_rev ?_)
  try dsimp only
  refine wpAny_bind ?_
  show wpAny _ _ (isInstance (.bytes b t) (.type "dict") >>= _) _ _ _
  refine wpAny_bind (wpAny_isInstance (PySem.W.typeIs_bytes s b t) Fr.sub_bytes_dict ?_)
  show wpAny _ _ (specialOf (.bytes b t) "__getitem__" >>= _) _ _ _
  refine wpAny_bind (wpAny_specialOf (PySem.W.typeIs_bytes s b t) Fr.look_getitem ?_)
  try dsimp only
  refine wpAny_of_eq (a := true) (by kernel_rfl) ?_
  show wpAny _ _ (call (.builtin "len") [.bytes b t] >>= _) _ _ _
  refine wpAny_bind (len_bytes (by omega) ?_)
  show wpAny _ _ (Builtin.SmallTypes.newRecord (.type "reversed") [.bytes b t, rawInt ((b.size : Int) - 1)] >>= _) _ _ _
  refine wpAny_bind ?_
  show wpAny _ _ (newObj (.type "reversed") (.fields #[.bytes b t, rawInt ((b.size : Int) - 1)])) _ _ _
  exact wpAny_newObj_type (wpAny_pure (h _))
theorem call_rv {Q : Value → Shared → Prop} (hz : b.size ≤ 1000)
    (h : ∀ tk, Q (.ref s.heap.objs.size) { s with heap := s.heap.push (rvObj b t ((b.size : Int) - 1)), toks := tk }) : wpAny (model prog w) A (call (.type "reversed") [.bytes b t]) Q E s := by
  refine callType_codes (Q₁ := fun obj s₁ => s₁.TypeIs obj "reversed" ∧ Q obj s₁) Fr.rv_called (F.typeCall_reversed_1 _) F.entry_object_init
    (code_rv_new hz fun tk => ⟨⟨_, Heap.get?_push_size _ rfl, rfl⟩, h tk⟩) fun obj s₁ h₁ => ?_
  exact ⟨h₁.1, F.args_object_init_2 obj _, object_init_meets Fr.rv_called.init.lookup Fr.rv_called.made (by decide) prog w A.in1 _ s₁ ⟨h₁.1, rfl, h₁.2⟩⟩
def IsRv (h : Heap) (a : Addr) (b : Array UInt8) (t : Tok) (i : Int) : Prop := ∃ o, h.get? a = some o ∧ o.cls = .type "reversed" ∧ o.data = .fields #[.bytes b t, rawInt i]
theorem IsRv.typeIs {a : Addr} {i : Int} (x : IsRv s.heap a b t i) : s.TypeIs (.ref a) "reversed" := let ⟨o, ho, hc, _⟩ := x; ⟨o, ho, hc⟩
theorem IsRv.at {h h' : Heap} {a : Addr} {i : Int} (x : IsRv h a b t i) (e : ∀ o, h.get? a = some o → h'.get? a = some o) : IsRv h' a b t i := let ⟨o, ho, r⟩ := x; ⟨o, e _ ho, r⟩
theorem rv_next_item {it : Addr} {i : Nat} {Q : Option Value → Shared → Prop} (hz : b.size ≤ 1000) (hi : i < b.size) (hit : IsRv s.heap it b t (i : Int))
    (hQ : ∀ h' tk tv, IsRv h' it b t ((i : Int) - 1) → Heap.SameBut it s.heap h' → Q (some (.int ((b.toList.getD i 0).toNat : Int) tv)) { s with heap := h', toks := tk }) : wpAny (model prog w) A (pyNext (.ref it)) Q E s := by
  obtain ⟨o, ho, hc, hd⟩ := id hit
  unfold pyNext
  refine wpAny_bind (wpAny_attempt (wpAny_callSpecial?_slot (name := Str.ofString "__next__") hit.typeIs Fr.slot_rv_next
    (wpAny_call_entry Fr.slot_rv_next hit.typeIs Fr.entry_rv_next ?_ (Fr.args_rv_next _))))
  unfold Builtin.«reversed.__next__»
  refine wpAny_bind (wpAny_of_eq (a := (Value.ref it, [])) rfl ?_)
  try dsimp only
  refine wpAny_bind (wpAny_field ho hd (x := .bytes b t) rfl ?_)
  refine wpAny_bind (wpAny_field ho hd (x := rawInt (i : Int)) rfl ?_)
  show wpAny _ _ (if (i : Int) < 0 then _ else _) _ _ s
  rw [if_neg (by omega)]
  show wpAny _ _ (specialOf (.bytes b t) "__getitem__" >>= _) _ _ _
  refine wpAny_bind (wpAny_specialOf (PySem.W.typeIs_bytes s b t) Fr.look_getitem ?_)
  try dsimp only
  show wpAny _ _ (mkInt (i : Int) >>= fun k => (getItem (.bytes b t) k).attempt >>= _) _ _ _
  refine wpAny_bind (wpAny_mkInt ?_)
  refine wpAny_bind (wpAny_attempt ?_)
  have eb : (Value.bytes b t) = .bytes b.toList.toArray t := by simp
  rw [eb]
  refine getItem_bytes (by simp; omega) (by omega) (by simp; omega) ?_
  show wpAny _ _ (field (.ref it) 1 >>= _) _ _ _
  refine wpAny_bind (wpAny_field (s := { s with toks := _ }) ho hd (x := rawInt (i : Int)) rfl ?_)
  show wpAny _ _ (setField (.ref it) 1 (rawInt ((i : Int) - 1)) >>= _) _ _ _
  refine wpAny_bind (wpAny_setField (s := { s with toks := _ }) ho hd (by simp) ?_)
  refine wpAny_pure ⟨_, rfl, wpAny_pure (hQ _ _ _ ?_ (Heap.SameBut.update ..))⟩
  exact ⟨_, Heap.get?_update_self _ ho (Obj.isFreed_of_fields (Obj.data_mapFields hd _)), (Obj.cls_mapFields ..).trans hc, by
    rw [Obj.data_mapFields hd]; simp⟩
theorem rv_next_end {it : Addr} {Q : Option Value → Shared → Prop} (hh : A.handled = none) (hit : IsRv s.heap it b t (-1))
    (hQ : ∀ h', Heap.ExtBut it s.heap h' → Q none { s with heap := h' }) : wpAny (model prog w) A (pyNext (.ref it)) Q E s := by
  obtain ⟨o, ho, hc, hd⟩ := id hit
  unfold pyNext
  refine wpAny_bind (wpAny_attempt (wpAny_callSpecial?_slot (name := Str.ofString "__next__") hit.typeIs Fr.slot_rv_next
    (wpAny_call_entry Fr.slot_rv_next hit.typeIs Fr.entry_rv_next ?_ (Fr.args_rv_next _))))
  unfold Builtin.«reversed.__next__»
  refine wpAny_bind (wpAny_of_eq (a := (Value.ref it, [])) rfl ?_)
  try dsimp only
  refine wpAny_bind (wpAny_field ho hd (x := .bytes b t) rfl ?_)
  refine wpAny_bind (wpAny_field ho hd (x := rawInt (-1)) rfl ?_)
  show wpAny _ _ (if (-1 : Int) < 0 then _ else _) _ _ s
  rw [if_pos (by decide)]
  refine wpAny_bind (wpAny_rule ?_)
  refine wpAny_bind ?_
  show wpAny _ _ (setField (.ref it) 1 (rawInt (-1)) >>= fun _ => setField (.ref it) 0 .none) _ _ _
  refine wpAny_bind (wpAny_setField ho hd (by simp) ?_)
  have ho2 := Heap.get?_update_self (h := s.heap) (Obj.mapFields (·.setIfInBounds 1 (rawInt (-1)))) ho (Obj.isFreed_of_fields (Obj.data_mapFields hd _))
  have hd2 := Obj.data_mapFields hd (·.setIfInBounds 1 (rawInt (-1)))
  refine wpAny_setField (s := { s with heap := _ }) ho2 hd2 (by simp) ?_
  first
  | show wpAny _ _ (newExc (.type "StopIteration") [] >>= _) _ _ _
  | (refine wpAny_bind ?_; show wpAny _ _ (newExc (.type "StopIteration") [] >>= _) _ _ _)
  refine wpAny_bind ?_
  simp only [newExc, newTuple]
  refine wpAny_bind (wpAny_newObj_type ?_ (by size_fits))
  refine wpAny_bind (m := firstArgMember _ _) (wpAny_of_eq (a := Value.none) (by first | rfl | (simp only [firstArgMember]; rfl)) ?_)
  refine wpAny_newObj_type ?_ (by size_fits)
  simp only [raiseNew]
  refine wpAny_bind (wpAny_handled ?_)
  first | rw [show A.in1.handled = none from hh] | rw [hh]
  refine wpAny_bind (wpAny_pure (wpAny_throw ?_))
  refine wpAny_bind (wpAny_isInstance (T := "StopIteration") (b := true) ⟨_, Heap.get?_push_size _ rfl, rfl⟩ isSubtype_stop ?_)
  exact wpAny_pure (hQ _ fun b' o' hb e => Heap.get?_push_of_some _ (Heap.get?_push_of_some _ ((Heap.get?_update_ne _ _ _ _ hb).trans ((Heap.get?_update_ne _ _ _ _ hb).trans e))))
theorem rv_iter {it : Addr} {i : Int} {Q : Value → Shared → Prop} (hit : IsRv s.heap it b t i) (h : Q (.ref it) s) : wpAny (model prog w) A (pyIter (.ref it)) Q E s := by
  refine wpAny_pyIter_slot hit.typeIs Fr.slot_rv_iter (wpAny_call_entry Fr.slot_rv_iter hit.typeIs Fr.entry_rv_iter ?_ (Fr.args_rv_iter _))
  show wpAny _ _ (ret (.ref it)) _ _ s
  exact wpAny_pure ⟨_, rfl, "reversed", _, hit.typeIs, Fr.slot_rv_next.lookup, h⟩
theorem rv_walks (hh : A.handled = none) (I : Addr) (hz : b.size ≤ 1000) :
    Walks prog w A I [I] [I] b.size (fun i v => ∃ tv, v = .int ((b.toList.getD (b.size - 1 - i) 0).toNat : Int) tv) (fun i h => i ≤ b.size ∧ IsRv h I b t ((b.size : Int) - 1 - (i : Int))) where
  sub := fun b hb => hb
  frame := fun _ _ _ x hk => ⟨x.1, x.2.at fun o e => hk I (by simp) o e⟩
  item := fun i s Q E hi x hQ => by
    have e : (b.size : Int) - 1 - (i : Int) = ((b.size - 1 - i : Nat) : Int) := by omega
    have hit := x.2
    rw [e] at hit
    refine rv_next_item hz (by omega) hit fun h' tk tv hit' hs' => ?_
    have e2 : ((b.size - 1 - i : Nat) : Int) - 1 = (b.size : Int) - 1 - ((i + 1 : Nat) : Int) := by omega
    rw [e2] at hit'
    exact hQ _ h' tk ⟨tv, rfl⟩ ⟨hi, hit'⟩ fun b o hb eo => hs'.extBut b o (fun h => hb (by simp [h])) eo
  done := fun s Q E x hQ => by
    have e : (b.size : Int) - 1 - (b.size : Int) = -1 := by omega
    have hit := x.2
    rw [e] at hit
    exact rv_next_end hh hit fun h' he' => hQ h' s.toks fun b o hb eo => he' b o (fun h => hb (by simp [h])) eo
  self := fun _ _ _ _ x hQ => rv_iter x.2 hQ
end
end

section
-- part R9
section
variable {M : Model} {prog : Program} {w : World} {A : Around} {E : Value → Shared → Prop} {s : Shared}
theorem SignsAre.getD {vs : List Value} {ks : List Int} (a : SignsAre vs ks) : ∀ i, i < vs.length → ∃ b t k, vs.getD i .none = .bytes b t ∧ KBw.bInts b = [k] ∧ ks[i]? = some k := by
  induction a with
  | nil => intro i h; exact absurd h (Nat.not_lt_zero _)
  | @cons b t k vs ks h r ih =>
    intro i hi
    cases i with
    | zero => exact ⟨b, t, k, rfl, h, rfl⟩
    | succ i => exact ih i (by simpa using hi)
theorem joinLetGo_any : ∀ (taken : List (Value × Option Value)) {keep : List Value} {Q : Unit → Shared → Prop} {s : Shared}, (∀ p ∈ taken, p.2 = none) → Q () s → wpAny M A (Builtin.Bytes.joinLetGo taken keep) Q E s
  | [], _, _, _, _, h => wpAny_pure h
  | (x, u) :: r, _, _, _, hn, h => by
    have e : u = none := hn _ (.head _)
    subst e
    unfold Builtin.Bytes.joinLetGo
    exact wpAny_bind (wpAny_letGo (joinLetGo_any r (fun p hp => hn p (.tail _ hp)) h))
theorem join_K {D : Addr} {items : Array Value} {cs : List Int} {t : Tok} {Q : Value → Shared → Prop} (hl : s.heap.IsList D items) (hs : SignsAre items.toList cs) (hz : cs.length ≤ 1000)
    (h : ∀ b' t' k, KBw.bInts b' = cs → Q (.bytes b' t') { s with toks := k }) : wpAny (model prog w) A (call (.builtin "bytes.join") [.bytes #[] t, .ref D]) Q E s := by
  obtain ⟨o, ho, hc, n, hd⟩ := hl
  have hT : s.TypeIs (.ref D) "list" := Heap.IsList.typeIs (s := s) ⟨o, ho, hc, n, hd⟩
  refine wpAny_call_entry Fc.slot_bytes_join (PySem.W.typeIs_bytes _ _ _) Fc.entry_bytes_join ?_ (Fc.args_bytes_join _ _)
  unfold Builtin.«bytes.join» Builtin.Bytes.joinM
  refine wpAny_bind (wpAny_of_eq (a := (Value.bytes #[] t, Value.ref D)) rfl ?_)
  dsimp only
  refine wpAny_bind ?_
  show wpAny _ _ (Builtin.Bytes.joinItems (.ref D)) _ _ _
  unfold Builtin.Bytes.joinItems
  refine wpAny_bind (wpAny_typeOf hT ?_)
  refine bm_if_true rfl ?_
  refine wpAny_pure ?_
  refine wpAny_bind (wpAny_seqItems ho hd ?_)
  dsimp only
  refine bm_if_true rfl ?_
  have hg := hs.getD
  have hlen := hs.length
  have fin : ∀ (parts : Array (Array UInt8)) (taken : List (Value × Option Value)), (∀ p ∈ taken, p.2 = none) → (parts.toList.map KBw.bInts).flatten = cs →
      wpAny (model prog w) A.in1 (Builtin.Bytes.payload (Value.bytes #[] t) >>= fun sep => if Builtin.Bytes.tooLong (Array.foldl (fun x1 x2 => x1 + x2.size) (sep.size * (parts.size - 1)) parts) = true then (do
          unsupported (toString (toString Builtin.Bytes.Kind.bytes.name ++ toString ".join") ++ toString ":memory")
          let result ← Builtin.Bytes.Kind.bytes.new (Builtin.Bytes.joined sep parts.toList)
          holding (result :: List.flatMap (fun x => x.fst :: x.snd.toList) taken) point
          Builtin.Bytes.joinLetGo taken [result]
          ret result)
        else (do
          let result ← Builtin.Bytes.Kind.bytes.new (Builtin.Bytes.joined sep parts.toList)
          holding (result :: List.flatMap (fun x => x.fst :: x.snd.toList) taken) point
          Builtin.Bytes.joinLetGo taken [result]
          ret result)) (fun fin s' => ∃ v, fin = Fin.done (Flow.ret v) ∧ Q v s') E s := by
    intro parts taken hn hp
    have hj : Builtin.Bytes.joined #[] parts.toList = parts.toList.foldl (fun a b => a ++ b) #[] := by
      unfold Builtin.Bytes.joined
      have : ∀ (l : List (Array UInt8)) (n : Nat) (acc : Array UInt8), (l.zipIdx n).foldl (fun out (x : Array UInt8 × Nat) => (if x.2 > 0 then out ++ #[] else out) ++ x.1) acc = l.foldl (fun a b => a ++ b) acc := by
        intro l
        induction l with
        | nil => intro n acc; rfl
        | cons a r ih =>
          intro n acc
          rw [List.zipIdx_cons, List.foldl_cons, List.foldl_cons, ih]
          congr 1
          split <;> simp
      exact this _ 0 _
    have hb : ∀ (l : List (Array UInt8)) (acc : Array UInt8), KBw.bInts (l.foldl (fun a b => a ++ b) acc) = KBw.bInts acc ++ (l.map KBw.bInts).flatten := by
      intro l
      induction l with
      | nil => intro acc; simp
      | cons a r ih => intro acc; rw [List.foldl_cons, ih, KBw.ints_app rfl rfl]; simp
    have hsz : ∀ (l : List (Array UInt8)) (n : Nat), l.foldl (fun a (b : Array UInt8) => a + b.size) n = n + (l.map KBw.bInts).flatten.length := by
      intro l
      induction l with
      | nil => intro n; rfl
      | cons a r ih => intro n; rw [List.foldl_cons, ih]; simp [KBw.ints_length]; omega
    refine wpAny_bind (wpAny_of_eq (a := (#[] : Array UInt8)) rfl ?_)
    refine bm_if_false ?_ ?_
    · rw [← Array.foldl_toList, hsz, hp]
      show decide (_ > sizeLine) = false
      rw [sizeLine_eq]
      simp
      omega
    · refine wpAny_bind (wpAny_mkBytes ?_ (by rw [hj, ← KBw.ints_length, hb, hp, sizeLine_eq]; simp [KBw.bInts]; omega))
      refine wpAny_bind (wpAny_holding (wpAny_point ?_))
      refine wpAny_bind (joinLetGo_any taken hn (wpAny_pure ⟨_, rfl, ?_⟩))
      refine h _ _ _ ?_
      rw [hj, hb, hp]; rfl
  rcases items with ⟨l⟩
  have loop : ∀ (f : Nat → Array (Array UInt8) × List (Value × Option Value) → Sem (ForInStep (Array (Array UInt8) × List (Value × Option Value)))) (G : Array (Array UInt8) × List (Value × Option Value) → Shared → Prop),
      (∀ (i : Nat) parts taken R, i < l.length → (∀ p ∈ taken, p.1.onHeap = false) → (∀ b t k, l.getD i .none = .bytes b t → KBw.bInts b = [k] → cs[i]? = some k → R (.yield (parts.push b, taken ++ [(.bytes b t, none)])) s) → wpAny (model prog w) A.in1 (f i (parts, taken)) R E s) →
      (∀ parts taken, (∀ p ∈ taken, p.2 = none) → (parts.toList.map KBw.bInts).flatten = cs → G (parts, taken) s) →
      wpAny (model prog w) A.in1 (forIn [0:l.toArray.size] ((#[] : Array (Array UInt8)), ([] : List (Value × Option Value))) f) G E s := by
    intro f G turn fin
    rw [Std.Legacy.Range.forIn_eq_forIn_range']
    refine wpAny_forIn_list f (fun rest b s' => s' = s ∧ ∃ i, rest = List.range' i (l.length - i) ∧ i ≤ l.length ∧ (b.1.toList.map KBw.bInts).flatten = cs.take i ∧ ∀ p ∈ b.2, p.2 = none ∧ p.1.onHeap = false) G ?_ ?_ _ _ ?_
    · rintro x rest ⟨parts, taken⟩ s' ⟨rfl, i, hr, hi, hp, ht⟩
      have hlt : i < l.length := by
        rcases Nat.lt_or_ge i l.length with h | h
        · exact h
        · rw [Nat.sub_eq_zero_of_le h] at hr; cases hr
      obtain ⟨m, hm⟩ : ∃ m, l.length - i = m + 1 := ⟨l.length - i - 1, by omega⟩
      rw [hm, List.range'_succ] at hr
      obtain ⟨rfl, rfl⟩ := List.cons.inj hr
      refine turn x parts taken _ hlt (fun p hp => (ht p hp).2) fun b t k e1 e2 e3 => ⟨rfl, x + 1, by rw [show l.length - (x + 1) = m by omega], hlt, ?_, ?_⟩
      · dsimp only at hp ⊢
        rw [Array.toList_push, List.map_append, List.flatten_append, hp]
        show cs.take x ++ [KBw.bInts b].flatten = _
        rw [e2, List.take_add_one, e3]
        rfl
      · intro p hp
        rcases List.mem_append.mp hp with hp | hp
        · exact ht p hp
        · rw [List.mem_singleton.mp hp]; exact ⟨rfl, rfl⟩
    · rintro ⟨parts, taken⟩ s' ⟨rfl, i, hr, hi, hp, ht⟩
      refine fin parts taken (fun p hp => (ht p hp).1) ?_
      dsimp only at hp
      have hge : l.length ≤ i := by
        rcases Nat.lt_or_ge i l.length with h | h
        · obtain ⟨m, hm⟩ : ∃ m, l.length - i = m + 1 := ⟨l.length - i - 1, by omega⟩
          rw [hm, List.range'_succ] at hr; cases hr
        · exact h
      rw [hp, List.take_of_length_le (by rw [← hlen]; exact hge)]
    · exact ⟨rfl, 0, by simp, Nat.zero_le _, rfl, fun p hp => nomatch hp⟩
  have one : ∀ x, l = [x] → wpAny (model prog w) A.in1 (ret x) (fun fin s' => ∃ v, fin = Fin.done (Flow.ret v) ∧ Q v s') E s := by
    rintro x rfl
    obtain ⟨b, u, k, e1, e2, e3⟩ := hg 0 Nat.zero_lt_one
    have e1' : x = Value.bytes b u := e1
    subst e1'
    refine wpAny_pure ⟨_, rfl, ?_⟩
    have := h b u s.toks (by
      rw [e2]
      cases cs with
      | nil => cases e3
      | cons c r => cases r with
        | nil => cases e3; rfl
        | cons _ _ => exact absurd hlen (by simp))
    exact this
  have turn : ∀ (i : Nat) (taken : List (Value × Option Value)), i < l.length → (∀ p ∈ taken, p.1.onHeap = false) → ∃ b t k, (l.toArray.getD i .none = Value.bytes b t ∧ l.getD i .none = Value.bytes b t) ∧ KBw.bInts b = [k] ∧ cs[i]? = some k ∧ (Builtin.Bytes.Kind.bytes == Builtin.Bytes.Kind.bytearray || taken.any fun x => x.fst.onHeap) = false := by
    intro i taken hi ht
    obtain ⟨b, t, k, e1, e2, e3⟩ := hg i hi
    refine ⟨b, t, k, ⟨?_, e1⟩, e2, e3, ?_⟩
    · rw [← e1]; simp [Array.getD, List.getD, hi]
    · show (false || taken.any fun x => x.fst.onHeap) = false
      rw [Bool.false_or, List.any_eq_false]
      exact fun p hp => by rw [ht p hp]; decide
  rcases l with _ | ⟨x, _ | ⟨y, r⟩⟩
  case cons.nil =>
    show wpAny _ _ (typeOf x >>= _) _ _ _
    obtain ⟨b, u, k, e1, e2, e3⟩ := hg 0 Nat.zero_lt_one
    have e1' : x = Value.bytes b u := e1
    subst e1'
    refine wpAny_bind (wpAny_typeOf (PySem.W.typeIs_bytes _ _ _) ?_)
    refine bm_if_true rfl ?_
    exact wpAny_bind (wpAny_rule (one _ rfl))
  all_goals
    refine wpAny_bind (loop _ _ ?_ ?_)
    · intro i parts taken R hi ht hR
      obtain ⟨b, t, k, e1, e2, e3, e4⟩ := turn i taken hi ht
      refine wpAny_bind (wpAny_seqItems ho hd ?_)
      refine bm_if_false e4 ?_
      rw [e1.1]
      refine wpAny_bind (wpAny_holding (wpAny_of_eq takeQuiet_eq ?_))
      refine wpAny_bind (wpAny_seqItems ho hd ?_)
      refine bm_if_false (by simp) ?_
      exact wpAny_pure (hR b t k e1.2 e2 e3)
    · intro parts taken h1 h2
      exact fin parts taken h1 h2
end
end

local macro_rules | `(tactic| k_room) => `(tactic| ktr_room)
local macro_rules | `(tactic| k_units) => `(tactic| ktr_units)
local macro_rules | `(tactic| k_mem) => `(tactic| ((show (_ : Addr × Obj) ∈ (_ : List (Addr × Obj))); ktr_member))
local macro_rules | `(tactic| k_all) => `(tactic| with_reducible assumption)
section
-- part T1
def Stop (P : Prop) : Prop := P
theorem stop_at {α : Type} {M : Model} {A : Around} {t : Sem α} {Q : α → Shared → Prop} {E : Value → Shared → Prop} {s : Shared} (h : Stop (wpAny M A t Q E s)) : wpAny M A t Q E s := h
theorem stop_p {P : Prop} (h : Stop P) : P := h
local macro_rules | `(tactic| walk_at "KswEnd") => `(tactic| (refine stop_p ?_))
local macro_rules | `(tactic| walk_at "exec While Compare cons nil") => `(tactic| (refine stop_at ?_))
def balR : List Int → Nat → Option Nat
  | [], _ => none
  | c :: r, o => if c = 41 then (if o = 1 then some 1 else (balR r (o - 1)).map (· + 1)) else if c = 40 then (balR r (o + 1)).map (· + 1) else (balR r o).map (· + 1)
def balAt (ks : List Int) (i : Nat) : Option Nat := if ks[i]? = some 40 then (balR (ks.drop (i + 1)) 1).map (· + (i + 1)) else none
theorem drop_getD {ks : List Int} {s : Int} (h0 : 0 ≤ s) (h1 : s < ks.length) : ks.drop s.toNat = ks.getD s.toNat 0 :: ks.drop (s + 1).toNat := by
  have h2 : s.toNat < ks.length := by omega
  have h3 : (s + 1).toNat = s.toNat + 1 := by omega
  rw [h3, List.drop_eq_getElem_cons h2, List.getD_eq_getElem?_getD, List.getElem?_eq_getElem h2]
  rfl
theorem bal_close {ks : List Int} {s o : Int} {r : Option Nat} (h0 : 0 ≤ s) (h1 : s < ks.length) (ho : 1 ≤ o) (hc : ks.getD s.toNat 0 = 41) (hne : o - 1 ≠ 0)
    (h : (balR (ks.drop s.toNat) o.toNat).map (· + s.toNat) = r) : (balR (ks.drop (s + 1).toNat) (o - 1).toNat).map (· + (s + 1).toNat) = r := by
  rw [drop_getD h0 h1, hc] at h
  have e : ¬ (o.toNat = 1) := by omega
  rw [balR, if_pos rfl, if_neg e, Option.map_map] at h
  have e1 : (o - 1).toNat = o.toNat - 1 := by omega
  have e2 : (s + 1).toNat = s.toNat + 1 := by omega
  rw [← h, e1]
  congr 1
  funext q
  show q + (s + 1).toNat = q + 1 + s.toNat
  omega
theorem bal_end {ks : List Int} {s o : Int} {r : Option Nat} (h0 : 0 ≤ s) (h1 : s < ks.length) (ho : 1 ≤ o) (hc : ks.getD s.toNat 0 = 41) (hne : o - 1 = 0)
    (h : (balR (ks.drop s.toNat) o.toNat).map (· + s.toNat) = r) : r = some (s + 1).toNat := by
  rw [drop_getD h0 h1, hc] at h
  have e : o.toNat = 1 := by omega
  rw [balR, if_pos rfl, if_pos e] at h
  rw [← h]
  show some (1 + s.toNat) = _
  congr 1
  omega
theorem bal_open {ks : List Int} {s o : Int} {r : Option Nat} (h0 : 0 ≤ s) (h1 : s < ks.length) (ho : 1 ≤ o) (hc : ks.getD s.toNat 0 = 40)
    (h : (balR (ks.drop s.toNat) o.toNat).map (· + s.toNat) = r) : (balR (ks.drop (s + 1).toNat) (o + 1).toNat).map (· + (s + 1).toNat) = r := by
  rw [drop_getD h0 h1, hc] at h
  rw [balR, if_neg (by decide), if_pos rfl, Option.map_map] at h
  have e1 : (o + 1).toNat = o.toNat + 1 := by omega
  have e2 : (s + 1).toNat = s.toNat + 1 := by omega
  rw [← h, e1]
  congr 1
  funext q
  show q + (s + 1).toNat = q + 1 + s.toNat
  omega
theorem bal_skip {ks : List Int} {s o : Int} {r : Option Nat} (h0 : 0 ≤ s) (h1 : s < ks.length) (hc : ks.getD s.toNat 0 ≠ 41) (hd : ks.getD s.toNat 0 ≠ 40)
    (h : (balR (ks.drop s.toNat) o.toNat).map (· + s.toNat) = r) : (balR (ks.drop (s + 1).toNat) o.toNat).map (· + (s + 1).toNat) = r := by
  rw [drop_getD h0 h1, balR, if_neg hc, if_neg hd, Option.map_map] at h
  have e2 : (s + 1).toNat = s.toNat + 1 := by omega
  rw [← h]
  congr 1
  funext q
  show q + (s + 1).toNat = q + 1 + s.toNat
  omega
theorem bal_none {ks : List Int} {s o : Int} {r : Option Nat} (h0 : 0 ≤ s) (h1 : s ≤ ks.length) (h2 : ¬ s < ks.length) (h : (balR (ks.drop s.toNat) o.toNat).map (· + s.toNat) = r) : r = none := by
  have e : ks.drop s.toNat = [] := List.drop_eq_nil_of_le (by omega)
  rw [e, balR] at h
  exact h.symm
theorem balAt_out {ks : List Int} {i : Nat} (h : (ks.length : Int) ≤ i) : balAt ks i = none := by
  unfold balAt
  rw [List.getElem?_eq_none (by omega), if_neg (by simp)]
theorem getD_at {ks : List Int} {i : Nat} (h : i < ks.length) : ks[i]? = some (ks.getD i 0) := by
  rw [List.getD_eq_getElem?_getD, List.getElem?_eq_getElem h]; rfl
theorem balAt_no {ks : List Int} {i : Nat} (h1 : ¬ (ks.length : Int) ≤ i) (h : ks.getD (i : Int).toNat 0 ≠ 40) : balAt ks i = none := by
  unfold balAt
  rw [Int.toNat_natCast] at h
  rw [getD_at (by omega), if_neg (by simpa using h)]
theorem balAt_start {ks : List Int} {i : Nat} (h1 : ¬ (ks.length : Int) ≤ i) (h : ks.getD (i : Int).toNat 0 = 40) :
    (balR (ks.drop ((i : Int) + 1).toNat) (1 : Int).toNat).map (· + ((i : Int) + 1).toNat) = balAt ks i := by
  unfold balAt
  rw [Int.toNat_natCast] at h
  have e : ((i : Int) + 1).toNat = i + 1 := by omega
  rw [getD_at (by omega), h, if_pos rfl, e]
  rfl
def isOpt (r : Option Nat) (v : Value) : Prop := match r with
  | none => v = .none
  | some e => ∃ t, v = .int (e : Int) t
def putAll (m : Str → Option Value) : List (Str × Value) → Str → Option Value
  | [] => m
  | p :: r => fun y => if y = p.1 then some p.2 else putAll m r y
theorem putAll_eq {m : Str → Option Value} : ∀ {ps : List (Str × Value)}, (∀ p ∈ ps, m p.1 = some p.2) → putAll m ps = m
  | [], _ => rfl
  | p :: r, h => by
    funext y
    show (if y = p.1 then some p.2 else putAll m r y) = m y
    by_cases e : y = p.1
    · rw [if_pos e, e]; exact (h p (.head _)).symm
    · rw [if_neg e, putAll_eq fun q hq => h q (.tail _ hq)]
theorem fr_put {h₀ h : Heap} {L : Addr} {m : Str → Option Value} (ps : List (Str × Value)) (F : Fr h₀ L h m) (hp : ∀ p ∈ ps, m p.1 = some p.2) : Fr h₀ L h (putAll m ps) := by
  rw [putAll_eq hp]; exact F
abbrev mDict (P : Params) (k1 k2 k3 k4 k5 k6 k7 k8 : Tok) (b : Array UInt8) (t pt mt : Tok) (d : Int) (td tl : Tok) (l1 l2 : Addr) : Obj :=
  dictOf [⟨PyData.keyHash P "text", .str "text" k1, .bytes b t⟩, ⟨PyData.keyHash P "pattern", .str "pattern" k2, .bytes #[37, 98, 40, 41] pt⟩, ⟨PyData.keyHash P "most_depth", .str "most_depth" k3, .int 60 mt⟩,
    ⟨PyData.keyHash P "tick", .str "tick" k4, .none⟩, ⟨PyData.keyHash P "depth", .str "depth" k5, .int d td⟩, ⟨PyData.keyHash P "level", .str "level" k6, .int 0 tl⟩, ⟨PyData.keyHash P "starts", .str "starts" k7, .ref l1⟩, ⟨PyData.keyHash P "lengths", .str "lengths" k8, .ref l2⟩] 8
theorem balance_tells (w : World) {dp un : Nat} {gd : Option (List Code)} {cn : Str} {cs : Scope} {a : Addr} {ccd : Value} {cl : List (Str × Addr)} {outer : List Env} {A₀ : Around} {base h₀ : Heap} {L : Addr} {m : Str → Option Value} {news : List (Addr × Obj)} {s : Shared}
    {Q E : Value → Shared → Prop} {p : Program} {loose : List Str} {mean : ExcName → Option Value} {mg mb : Str → Option Value} {b : Array UInt8} {t : Tok} {ks : List Int}
    {x dx l1 l2 : Addr} {k1 k2 k3 k4 k5 k6 k7 k8 pt mt td tl : Tok} {d : Int} {i : Nat} {ti tp : Tok}
    (B : Below A₀ base outer h₀) (F : Fr h₀ L s.heap m) (X : (hd.heap_1 w.params).In h₀) (N : News h₀ L s.heap news) (T : Top p loose mean mg mb h₀) (hk : cs.kind = .function)
    (hdp : dp + 3 < recursionLimit) (hun : un + 30 < cLine) (hb : KBw.bInts b = ks) (hlen : ks.length ≤ 1000) (hi : i ≤ ks.length)
    (hx : (x, instObj 267 dx) ∈ news) (hdx : (dx, mDict w.params k1 k2 k3 k4 k5 k6 k7 k8 b t pt mt d td tl l1 l2) ∈ news)
    (ret : ∀ v h' tk', Fr h₀ L h' m → News h₀ L h' news → isOpt (balAt ks i) v → Q v { s with heap := h', toks := tk' }) :
    wpAny (model PySem.Challenge.rw_tk0056_01.row.prog w) (ktrTop dp un gd cn cs L a ccd cl outer) (call (.ref 196) [.ref x, .int i ti, .int 2 tp]) Q E s := by
  revert X
  k_fill
  intro X
  refine wpAny_call ?_
  w_on
  k_dflt ktr_enter
  k_steps
  · refine ret _ _ _ (by k_asm) (fun p hp => (by k_asm : News _ _ _ (_ :: news)) p (.tail _ hp)) ?_
    rw [balAt_out (by assumption)]; rfl
  · refine ret _ _ _ (by k_asm) (fun p hp => (by k_asm : News _ _ _ (_ :: news)) p (.tail _ hp)) ?_
    rw [balAt_no (by assumption) (by assumption)]; rfl
  · unfold Stop
    (rename Fr _ _ _ _ => lF'); (rename News _ _ _ _ => lN')
    refine' ksw_while (σ := Int × Int × Tok × Tok) (fun _ => news) (fun c => [(Str.ofString "s", .int c.1 c.2.2.1), (Str.ofString "open_ones", .int c.2.1 c.2.2.2)]) (fun _ => True) [Str.ofString "c"]
      (fun c => 0 ≤ c.1 ∧ c.1 ≤ ks.length ∧ 1 ≤ c.2.1 ∧ (balR (ks.drop c.1.toNat) c.2.1.toNat).map (· + c.1.toNat) = balAt ks i) (fun c => (ks.length - c.1).toNat) ((i : Int) + 1, 1, _, _) lF' (fun p hp => lN' p (.tail _ hp)) trivial ?kk ?kp ?_
    case kk => intro q hq; simp only [List.mem_cons, List.not_mem_nil, or_false] at hq; rcases hq with rfl | rfl <;> rfl
    case kp => exact ⟨by dsimp only; omega, by dsimp only; omega, by show (1 : Int) ≤ 1; decide, balAt_start (by assumption) (by assumption)⟩
    rintro ⟨s1, o1, t1, t2⟩ u h tk _ hP F' N'
    obtain ⟨hs0, hs1, ho, hbal⟩ := hP
    dsimp only at hs0 hs1 ho hbal
    clear lF' lN'
    k_fold
    k_steps
    · refine ret _ _ _ (by k_asm) (by k_asm) ?_
      rw [bal_end hs0 (by assumption) ho (by assumption) (by assumption) hbal]
      exact ⟨_, by congr 1; omega⟩
    · unfold Stop
      refine' ksw_end (s1 + 1, o1 - 1, _, _) (by assumption) (by assumption) (fun _ hp => hp) trivial ?kk1 ?kr1 ?kp1 ?km1
      case kk1 => intro q hq; simp only [List.mem_cons, List.not_mem_nil, or_false] at hq; rcases hq with rfl | rfl <;> rfl
      case kr1 =>
        intro z h2 h3
        have e1 : z ≠ Str.ofString "s" := h2 _ (.head _)
        have e2 : z ≠ Str.ofString "open_ones" := h2 _ (.tail _ (.head _))
        have e3 : z ≠ Str.ofString "c" := fun q => by subst q; exact absurd h3 (by decide)
        simp only [kstB, if_neg e1, if_neg e2, if_neg e3, h3, Bool.false_eq_true, if_false]
      case kp1 => exact ⟨by dsimp only; omega, by dsimp only; omega, by dsimp only; omega, bal_close hs0 (by assumption) ho (by assumption) (by assumption) hbal⟩
      case km1 => dsimp only; omega
    · unfold Stop
      refine' ksw_end (s1 + 1, o1 + 1, _, _) (by assumption) (by assumption) (fun _ hp => hp) trivial ?kk2 ?kr2 ?kp2 ?km2
      case kk2 => intro q hq; simp only [List.mem_cons, List.not_mem_nil, or_false] at hq; rcases hq with rfl | rfl <;> rfl
      case kr2 =>
        intro z h2 h3
        have e1 : z ≠ Str.ofString "s" := h2 _ (.head _)
        have e2 : z ≠ Str.ofString "open_ones" := h2 _ (.tail _ (.head _))
        have e3 : z ≠ Str.ofString "c" := fun q => by subst q; exact absurd h3 (by decide)
        simp only [kstB, if_neg e1, if_neg e2, if_neg e3, h3, Bool.false_eq_true, if_false]
      case kp2 => exact ⟨by dsimp only; omega, by dsimp only; omega, by dsimp only; omega, bal_open hs0 (by assumption) ho (by assumption) hbal⟩
      case km2 => dsimp only; omega
    · unfold Stop
      refine' ksw_end (s1 + 1, o1, _, _) (by assumption) (by assumption) (fun _ hp => hp) trivial ?kk3 ?kr3 ?kp3 ?km3
      case kk3 => intro q hq; simp only [List.mem_cons, List.not_mem_nil, or_false] at hq; rcases hq with rfl | rfl <;> rfl
      case kr3 =>
        intro z h2 h3
        have e1 : z ≠ Str.ofString "s" := h2 _ (.head _)
        have e2 : z ≠ Str.ofString "open_ones" := h2 _ (.tail _ (.head _))
        have e3 : z ≠ Str.ofString "c" := fun q => by subst q; exact absurd h3 (by decide)
        simp only [kstB, if_neg e1, if_neg e2, if_neg e3, h3, Bool.false_eq_true, if_false]
      case kp3 => exact ⟨by dsimp only; omega, by dsimp only; omega, ho, bal_skip hs0 (by assumption) (by assumption) (by assumption) hbal⟩
      case km3 => dsimp only; omega
    · refine ret _ _ _ (by k_asm) (by k_asm) ?_
      rw [bal_none hs0 hs1 (by assumption) hbal]; rfl
end

section
-- part T2
local macro_rules | `(tactic| walk_at "compareOp In int bytes") => `(tactic| ((with_reducible show wpAny _ _ (compareOp CmpOp.In (Value.int _ _) (Value.bytes _ _)) _ _ _); k_dflt (refine in_bytes_yes (by decide) (by decide) (by decide +kernel) ?_)))
theorem news_sub {h₀ h : Heap} {L : Addr} {news news' : List (Addr × Obj)} (N : News h₀ L h news) (hs : ∀ p ∈ news', p ∈ news) : News h₀ L h news' := fun p hp => N p (hs p hp)
theorem isOpt_cases {r : Option Nat} {v : Value} (h : isOpt r v) : (r = none ∧ v = .none) ∨ ∃ (e : Nat) (t : Tok), r = some e ∧ v = .int (e : Int) t := by
  cases r with
  | none => exact .inl ⟨rfl, h⟩
  | some e => obtain ⟨t, h⟩ := h; exact .inr ⟨e, t, rfl, h⟩
local macro_rules | `(tactic| walk_at "call ref") => `(tactic| (
  k_dflt ((show wpAny _ _ (call (Value.ref 196) _ _) _ _ _); refine' balance_tells _ ?k1 ?k2 ?kX ?k4 ?k5 ?kK ?kd ?ku ?kb ?kl ?ki ?kx ?kdx ?_; (case k1 => k_asm); (case k2 => k_asm); (case kX => k_asm); (case k4 => k_asm); (case k5 => k_asm); (case kK => first | exact rfl | assumption); (case kb => assumption); (case kl => assumption); (case ki => assumption); (case kx => (repeat' (first | assumption | exact List.Mem.head _ | refine List.Mem.tail _ ?_))); (case kdx => (repeat' (first | assumption | exact List.Mem.head _ | refine List.Mem.tail _ ?_))); (case kd => ktr_room); (case ku => ktr_units); intro v9 h9 tk9 F9 N9 hv9; rcases isOpt_cases hv9 with ⟨e9, ev9⟩ | ⟨n9, t9, e9, ev9⟩ <;> (subst ev9; clear hv9; (try dsimp only); (try k_fold)))))
local macro_rules | `(tactic| walk_at "a key of no step") => `(tactic| fail)
theorem match_tells (w : World) {dp un : Nat} {gd : Option (List Code)} {cn : Str} {cs : Scope} {a : Addr} {ccd : Value} {cl : List (Str × Addr)} {outer : List Env} {A₀ : Around} {base h₀ : Heap} {L : Addr} {m : Str → Option Value} {news : List (Addr × Obj)} {s : Shared}
    {Q E : Value → Shared → Prop} {p : Program} {loose : List Str} {mean : ExcName → Option Value} {mg mb : Str → Option Value} {b : Array UInt8} {t : Tok} {ks : List Int}
    {x dx l1 l2 : Addr} {k1 k2 k3 k4 k5 k6 k7 k8 pt mt td tl : Tok} {i : Nat} {ti tp : Tok}
    (B : Below A₀ base outer h₀) (F : Fr h₀ L s.heap m) (X : (hd.heap_1 w.params).In h₀) (N : News h₀ L s.heap ((dx, mDict w.params k1 k2 k3 k4 k5 k6 k7 k8 b t pt mt 0 td tl l1 l2) :: news)) (T : Top p loose mean mg mb h₀) (hk : cs.kind = .function)
    (hdp : dp + 10 < recursionLimit) (hun : un + 200 < cLine) (hb : KBw.bInts b = ks) (hlen : ks.length ≤ 1000) (hi : i ≤ ks.length)
    (hx : (x, instObj 267 dx) ∈ news) (hoff : ∀ p ∈ news, p.1 ≠ dx)
    (ret : ∀ v h' tk' td', Fr h₀ L h' m → News h₀ L h' ((dx, mDict w.params k1 k2 k3 k4 k5 k6 k7 k8 b t pt mt 0 td' tl l1 l2) :: news) → isOpt (balAt ks i) v → Q v { s with heap := h', toks := tk' }) :
    wpAny (model PySem.Challenge.rw_tk0056_01.row.prog w) (ktrTop dp un gd cn cs L a ccd cl outer) (call (.ref 175) [.ref x, .int i ti, .int 0 tp]) Q E s := by
  revert X
  k_fill
  intro X
  refine wpAny_call ?_
  w_on
  k_dflt ktr_enter
  k_steps
  · (rename balAt _ _ = _ => e9); (rename Fr _ _ _ _ => F9); (rename News _ _ _ _ => N9)
    refine' ret _ _ _ _ F9 (news_sub N9 ?n1) ?v1
    case n1 => exact List.forall_mem_cons.mpr ⟨by repeat' (first | exact List.Mem.head _ | refine List.Mem.tail _ ?_), fun p hp => by repeat' (first | exact hp | refine List.Mem.tail _ ?_)⟩
    case v1 => rw [e9]; rfl
  · (rename balAt _ _ = _ => e9); (rename Fr _ _ _ _ => F9); (rename News _ _ _ _ => N9)
    refine' ret _ _ _ _ F9 (news_sub N9 ?n2) ?v2
    case n2 => exact List.forall_mem_cons.mpr ⟨by repeat' (first | exact List.Mem.head _ | refine List.Mem.tail _ ?_), fun p hp => by repeat' (first | exact hp | refine List.Mem.tail _ ?_)⟩
    case v2 => rw [e9]; exact ⟨_, rfl⟩
end

section
-- part T3
theorem inst_ne_dict {x dx : Addr} {c : Nat} {es : List DictEntry} {n : Nat} (h : (x, instObj c dx) = (dx, dictOf es n)) : False := by
  have := congrArg Prod.snd h
  have h2 : (instObj c dx).data = (dictOf es n).data := congrArg Obj.data this
  nomatch h2
theorem match_tellsU (w : World) {dp un : Nat} {gd : Option (List Code)} {cn : Str} {cs : Scope} {a : Addr} {ccd : Value} {cl : List (Str × Addr)} {outer : List Env} {A₀ : Around} {base h₀ : Heap} {L : Addr} {m : Str → Option Value} {news : List (Addr × Obj)} {s : Shared}
    {Q E : Value → Shared → Prop} {p : Program} {loose : List Str} {mean : ExcName → Option Value} {mg mb : Str → Option Value} {b : Array UInt8} {t : Tok} {ks : List Int}
    {x dx l1 l2 : Addr} {k1 k2 k3 k4 k5 k6 k7 k8 pt mt td tl : Tok} {i : Nat} {ti tp : Tok} {g : Obj → List (Addr × Obj)}
    (B : Below A₀ base outer h₀) (F : Fr h₀ L s.heap m) (X : (hd.heap_1 w.params).In h₀) (N : News h₀ L s.heap news) (T : Top p loose mean mg mb h₀) (hk : cs.kind = .function)
    (hdp : dp + 10 < recursionLimit) (hun : un + 200 < cLine) (hb : KBw.bInts b = ks) (hlen : ks.length ≤ 1000) (hi : i ≤ ks.length)
    (hx : (x, instObj 267 dx) ∈ news) (U : UpdF dx (mDict w.params k1 k2 k3 k4 k5 k6 k7 k8 b t pt mt 0 td tl l1 l2) news g)
    (ret : ∀ v h' tk' td', Fr h₀ L h' m → News h₀ L h' (g (mDict w.params k1 k2 k3 k4 k5 k6 k7 k8 b t pt mt 0 td' tl l1 l2)) → isOpt (balAt ks i) v → Q v { s with heap := h', toks := tk' }) :
    wpAny (model PySem.Challenge.rw_tk0056_01.row.prog w) (ktrTop dp un gd cn cs L a ccd cl outer) (call (.ref 175) [.ref x, .int i ti, .int 0 tp]) Q E s := by
  obtain ⟨pre, post, rfl, hg, h1, h2⟩ := U.split
  refine match_tells w (news := pre ++ post) (x := x) (dx := dx) (l1 := l1) (l2 := l2) (k1 := k1) (k2 := k2) (k3 := k3) (k4 := k4) (k5 := k5) (k6 := k6) (k7 := k7) (k8 := k8) (t := t) (pt := pt) (mt := mt) (td := td) (tl := tl) B F X (news_sub N ?_) T hk hdp hun hb hlen hi ?_ ?_ fun v h' tk' td' F' N' hv => ret v h' tk' td' F' ?_ hv
  · exact List.forall_mem_cons.mpr ⟨List.mem_append_right _ (.head _), fun q hq => by
      rcases List.mem_append.mp hq with hq | hq
      · exact List.mem_append_left _ hq
      · exact List.mem_append_right _ (.tail _ hq)⟩
  · rcases List.mem_append.mp hx with hq | hq
    · exact List.mem_append_left _ hq
    · rcases List.mem_cons.mp hq with hq | hq
      · exact (inst_ne_dict hq).elim
      · exact List.mem_append_right _ hq
  · intro q hq
    rcases List.mem_append.mp hq with hq | hq
    · exact h1 q hq
    · exact h2 q hq
  · rw [hg]
    intro q hq
    rcases List.mem_append.mp hq with hq | hq
    · exact N' q (.tail _ (List.mem_append_left _ hq))
    · rcases List.mem_cons.mp hq with rfl | hq
      · exact N' _ (.head _)
      · exact N' q (.tail _ (List.mem_append_right _ hq))
abbrev fnObj (fd : FuncData) : Obj := { cls := .type "function", data := .func fd }
abbrev tab280 (c' : Addr) : Obj := tabObj (#[] ++ #[rawInt ((336 : Nat) : Int), rawInt ((4 : Nat) : Int), .ref c'])
theorem lt_of_all {c : Addr} : ∀ {news : List (Addr × Obj)}, AllLt c news → ∀ p ∈ news, @LT.lt Nat _ p.1 c
  | [], _, _, h => nomatch h
  | _ :: _, h, _, .head _ => h.1
  | _ :: _, h, _, .tail _ q => lt_of_all h.2 _ q
theorem allNe_succ {c : Addr} {news : List (Addr × Obj)} (h : ∀ p ∈ news, @LT.lt Nat _ p.1 c) : ∀ p ∈ news, p.1 ≠ c + 1 := fun p hp => Nat.ne_of_lt (Nat.lt_succ_of_lt (h p hp))
theorem allLt_succ1 {P : Prop} {c : Addr} {news : List (Addr × Obj)} (h : P ∧ AllLt c news) : ∀ q ∈ news, @LT.lt Nat _ q.1 (c + 1) := fun q hq => Nat.lt_succ_of_lt (lt_of_all h.2 q hq)
theorem allNe_succ1 {P : Prop} {c : Addr} {news : List (Addr × Obj)} (h : P ∧ AllLt c news) : ∀ p ∈ news, p.1 ≠ c + 1 := allNe_succ (lt_of_all h.2)
theorem allNe_succ2 {P P' : Prop} {c : Addr} {news : List (Addr × Obj)} (h : P ∧ P' ∧ AllLt c news) : ∀ p ∈ news, p.1 ≠ c + 1 := allNe_succ (lt_of_all h.2.2)
/-- fresh addresses rise -/
def Rising (news : List (Addr × Obj)) (c dx x l1 l2 fe : Addr) : Prop := (∀ q ∈ news, @LT.lt Nat _ q.1 c) ∧ @LT.lt Nat _ 280 c ∧ @LT.lt Nat _ c dx ∧ @LT.lt Nat _ dx x ∧ @LT.lt Nat _ x l1 ∧ @LT.lt Nat _ l1 l2 ∧ @LT.lt Nat _ l2 fe
def EndsTells (w : World) (b : Array UInt8) (ks : List Int) (x dx fe c c' : Addr) (fd : FuncData) (co oc : Obj) (t pt mt k1 k2 k3 k4 k5 k6 k7 k8 : Tok) : Prop :=
  ∀ {dp un : Nat} {gd : Option (List Code)} {cn : Str} {cs : Scope} {a : Addr} {ccd : Value} {cl : List (Str × Addr)} {outer : List Env} {A₀ : Around} {base h₀ : Heap} {L : Addr} {m : Str → Option Value} {news : List (Addr × Obj)} {s : Shared}
    {Q E : Value → Shared → Prop} {p : Program} {loose : List Str} {mean : ExcName → Option Value} {mg mb : Str → Option Value} {td tl : Tok} {l1 l2 : Addr} {i : Nat} {ti : Tok},
    Below A₀ base outer h₀ → Fr h₀ L s.heap m → (hd.heap_1 w.params).In h₀ → News h₀ L s.heap ((dx, mDict w.params k1 k2 k3 k4 k5 k6 k7 k8 b t pt mt 0 td tl l1 l2) :: news) → Top p loose mean mg mb h₀ → cs.kind = .function →
    dp + 15 < recursionLimit → un + 300 < cLine → i ≤ ks.length → (x, instObj 267 dx) ∈ news → (c, co) ∈ news → (fe, fnObj fd) ∈ news → (c', oc) ∈ news → (∀ p ∈ news, p.1 ≠ dx) →
    (∀ v h' tk' td' tl' l1' l2', Fr h₀ L h' m → News h₀ L h' ((dx, mDict w.params k1 k2 k3 k4 k5 k6 k7 k8 b t pt mt 0 td' tl' l1' l2') :: news) → isOpt (balAt ks i) v → Q v { s with heap := h', toks := tk' }) →
    wpAny (model PySem.Challenge.rw_tk0056_01.row.prog w) (ktrTop dp un gd cn cs L a ccd cl outer) (call (.ref fe) [.int i ti]) Q E s
end

section
-- part T4
local macro_rules | `(tactic| walk_at "getMethod bytes") => `(tactic| ((with_reducible show wpAny _ _ (getMethod (Value.bytes _ _) (PySem.Str.ofString "find") _) _ _ _); refine getMethod_bytes Fc.slot_bytes_find Fc.type_bytes_find ?_))
local macro_rules | `(tactic| walk_at "getMethod bytes") => `(tactic| ((with_reducible show wpAny _ _ (getMethod (Value.bytes _ _) (PySem.Str.ofString "rfind") _) _ _ _); refine getMethod_bytes Fc.slot_bytes_rfind Fc.type_bytes_rfind ?_))
local macro_rules | `(tactic| walk_at "call builtin:bytes.find") => `(tactic| ((show wpAny _ _ (call (Value.builtin "bytes.find") [Value.bytes _ _, Value.bytes #[_] _]) _ _ _); refine find_K (by kba_ints2) ?_; intro _ _))
local macro_rules | `(tactic| kn_code) => `(tactic| (exact CodeHd.keeps (by assumption) (Fr.keep (by assumption))))
local macro_rules | `(tactic| k_all) => `(tactic| first | with_reducible assumption | (k_dflt (first | exact allNe_succ (by assumption) | exact allNe_succ1 (by assumption) | exact allNe_succ2 (by assumption))))
local macro_rules | `(tactic| walk_at "call ref") => `(tactic| (
  k_dflt ((show wpAny _ _ (call (Value.ref 175) _ _) _ _ _); refine' match_tellsU _ ?k1 ?k2 ?kX ?k4 ?k5 ?kK ?kd ?ku ?kb ?kl ?ki ?kx ?kU ?_; (case k1 => k_asm); (case k2 => k_asm); (case kX => k_asm); (case k4 => k_asm); (case k5 => k_asm); (case kK => first | exact rfl | assumption); (case kx => (repeat' (first | assumption | exact List.Mem.head _ | refine List.Mem.tail _ ?_))); (case kU => k_updF); (case kb => assumption); (case kl => assumption); (case ki => assumption);  (case kd => ktr_room); (case ku => ktr_units); intro v9 h9 tk9 td9 F9 N9 hv9; (try dsimp only); (try k_fold))))
theorem succ_all {news : List (Addr × Obj)} {c : Addr} (h : ∀ p ∈ news, p.1 < c) : ∀ q ∈ news, @LT.lt Nat _ q.1 (c + 1) := fun q hq => Nat.lt_succ_of_lt (h q hq)
theorem succ_at {news : List (Addr × Obj)} {c d : Addr} {o : Obj} (h : ∀ p ∈ news, p.1 < c) (hm : (d, o) ∈ news) : @LT.lt Nat _ d (c + 1) := Nat.lt_succ_of_lt (h _ hm)
theorem law_end_first (w : World) {dp un : Nat} {gd : Option (List Code)} {cn : Str} {cs : Scope} {a : Addr} {ccd : Value} {cl : List (Str × Addr)} {outer : List Env} {A₀ : Around} {base h₀ : Heap} {L : Addr} {m : Str → Option Value} {news : List (Addr × Obj)} {s : Shared} 
    {Q E : Value → Shared → Prop} {p : Program} {loose : List Str} {mean : ExcName → Option Value} {mg mb : Str → Option Value} {b : Array UInt8} {t : Tok} {ks : List Int}
    (B : Below A₀ base outer h₀) (F : Fr h₀ L s.heap m) (X : (hd.heap_1 w.params).In h₀) (N : News h₀ L s.heap ((280, tabObj #[]) :: news)) (T : Top p loose mean mg mb h₀) (hk : cs.kind = .function)
    (hdp : dp + 3 < recursionLimit) (hun : un + 30 < cLine) (hb : KBw.bInts b = ks) (hlen : ks.length ≤ 1000)
    (codeHd : CodeHd h₀ 284 280) (h280 : ∀ p ∈ news, p.1 ≠ 280)
    (ret : ∀ fe fd c c' co oc vs tq x dx l1 l2 td tl pt mt k1 k2 k3 k4 k5 k6 k7 k8 h' tk', Fr h₀ L h' m →
      News h₀ L h' ((fe, fnObj fd) :: (c', oc) :: (l2, listOf #[] 0) :: (l1, listOf #[] 0) :: (x, instObj 267 dx) :: (dx, mDict w.params k1 k2 k3 k4 k5 k6 k7 k8 b t pt mt 0 td tl l1 l2) :: (c, co) :: (280, tab280 c') :: news) →
      Rising news c dx x l1 l2 fe → @LT.lt Nat _ l2 c' → @LT.lt Nat _ c' fe → oc.data = .fields vs → vs[1]? = some (.str "_law_end.<locals>.ends_at" tq) →
      EndsTells w b ks x dx fe c c' fd co oc t pt mt k1 k2 k3 k4 k5 k6 k7 k8 → Q (.ref fe) { s with heap := h', toks := tk' }) :
    wpAny (model PySem.Challenge.rw_tk0056_01.row.prog w) (ktrTop dp un gd cn cs L a ccd cl outer) (call (.ref 285) [.bytes b t]) Q E s := by
  revert X
  k_fill
  intro X
  refine wpAny_call ?_
  w_on
  k_dflt (first | ktr_enter | (refine' code_defC ?k1 ?k2 ?k3 ?k4 ?k5 ?kA ?kF ?kK ?k6 ?k7 ?k8 ?k9 ?kB ?kD ?_ ?c2 ?c3 ?c4; (case kA => exact rfl); (case kF => exact rfl); (case kK => assumption); (case k1 => k_asm); (case k2 => k_asm); (case k3 => k_asm); (case k4 => k_asm); (case k5 => k_asm); (case k6 => k_is); (case k7 => k_is); (case k8 => k_room); (case k9 => first | exact BindsTo.of_eq rfl | exact binds_K (by k_in) rfl (by k_is) rfl rfl rfl | fail "k_enter: no rule for these arguments"); (case kB => exact rfl); (case kD => decide +kernel); (case c2 => exact rfl); (case c3 => exact rfl); (case c4 => exact rfl); k_whole; intro g' L' h' tk' cells' FG' F' N' Y' B' X' T' l1; (try k_lt l1); k_cells Y'; (try simp only [List.cons_append, List.nil_append] at N'); (try dsimp only); (try k_lift B'); (try k_fold)))
  k_steps
  (rename News _ _ _ _ => kN9); (rename Fr _ _ _ _ => kF9)
  refine' ret _ _ _ _ _ _ _ _ _ _ _ _ _ _ _ _ _ _ _ _ _ _ _ _ _ _ kF9 kN9 ?o1 ?o2 ?o3 ?o4 ?o5 ?o6
  case o1 =>
    exact ⟨allLt_succ1 (by assumption), by omega, by omega, by omega, by omega, by omega, by omega⟩
  case o2 => omega
  case o3 => omega
  case o4 => assumption
  case o5 => assumption
  case o6 =>
    clear ret
    unfold EndsTells
    intro dp un gd cn cs a ccd cl outer A₀ base h₀ L m news s Q E p loose mean mg mb td tl l1 l2 i ti B F X N T hk hdp hun hi hx hc hf hcc hoff ret
    refine wpAny_call ?_
    k_dflt (refine' code_nest ?k1 ?k2 ?k3 ?k4 ?k5 ?kA ?kF ?kK ?k6 ?k7 ?k8 ?k9 ?kB ?_ ?c2 ?c3 ?c4 ?c5; (case kA => exact rfl); (case kF => exact rfl); (case kK => assumption); (case k1 => k_asm); (case k2 => k_asm); (case k3 => k_asm); (case k4 => k_asm); (case k5 => k_asm); (case k6 => exact List.Mem.tail _ hf); (case k7 => exact codeRec_news N (List.Mem.tail _ hcc) (by assumption) (by assumption)); (case k8 => k_room); (case k9 => exact BindsTo.of_eq rfl); (case c5 => decide); (case kB => exact locs rfl); (case c2 => exact rfl); (case c3 => exact rfl); (case c4 => exact rfl); k_whole; intro g' L' h' FG' F' N' B' X' T'; (try dsimp only); (try k_lift B'); (try k_fold))
    k_steps
    (rename News _ _ _ _ => N9); (rename isOpt _ _ => hv9); (rename Fr _ _ _ _ => F9)
    refine' ret _ _ _ _ _ _ _ F9 (news_sub N9 ?n1) hv9
    case n1 => exact List.forall_mem_cons.mpr ⟨by repeat' (first | exact List.Mem.head _ | refine List.Mem.tail _ ?_), fun p hp => by repeat' (first | exact hp | refine List.Mem.tail _ ?_)⟩
theorem law_end_hit (w : World) {dp un : Nat} {gd : Option (List Code)} {cn : Str} {cs : Scope} {a : Addr} {ccd : Value} {cl : List (Str × Addr)} {outer : List Env} {A₀ : Around} {base h₀ : Heap} {L : Addr} {m : Str → Option Value} {news : List (Addr × Obj)} {s : Shared} 
    {Q E : Value → Shared → Prop} {p : Program} {loose : List Str} {mean : ExcName → Option Value} {mg mb : Str → Option Value} {b : Array UInt8} {t : Tok} {ks : List Int} {c' : Addr} {oc : Obj} {vs : Array Value} {tq : Tok}
    (B : Below A₀ base outer h₀) (F : Fr h₀ L s.heap m) (X : (hd.heap_1 w.params).In h₀) (N : News h₀ L s.heap news) (T : Top p loose mean mg mb h₀) (hk : cs.kind = .function)
    (hdp : dp + 3 < recursionLimit) (hun : un + 30 < cLine) (hb : KBw.bInts b = ks) (hlen : ks.length ≤ 1000)
    (codeHd : CodeHd h₀ 284 280) (h280 : (280, tab280 c') ∈ news) (hcm : (c', oc) ∈ news) (hcd1 : oc.data = .fields vs) (hcd2 : vs[1]? = some (.str "_law_end.<locals>.ends_at" tq))
    (ret : ∀ fe fd c co x dx l1 l2 td tl pt mt k1 k2 k3 k4 k5 k6 k7 k8 h' tk', Fr h₀ L h' m →
      News h₀ L h' ((fe, fnObj fd) :: (l2, listOf #[] 0) :: (l1, listOf #[] 0) :: (x, instObj 267 dx) :: (dx, mDict w.params k1 k2 k3 k4 k5 k6 k7 k8 b t pt mt 0 td tl l1 l2) :: (c, co) :: news) →
      Rising news c dx x l1 l2 fe →
      EndsTells w b ks x dx fe c c' fd co oc t pt mt k1 k2 k3 k4 k5 k6 k7 k8 → Q (.ref fe) { s with heap := h', toks := tk' }) :
    wpAny (model PySem.Challenge.rw_tk0056_01.row.prog w) (ktrTop dp un gd cn cs L a ccd cl outer) (call (.ref 285) [.bytes b t]) Q E s := by
  revert X
  k_fill
  intro X
  refine wpAny_call ?_
  w_on
  k_dflt (first | ktr_enter | (refine' code_defC ?k1 ?k2 ?k3 ?k4 ?k5 ?kA ?kF ?kK ?k6 ?k7 ?k8 ?k9 ?kB ?kD ?_ ?c2 ?c3 ?c4; (case kA => exact rfl); (case kF => exact rfl); (case kK => assumption); (case k1 => k_asm); (case k2 => k_asm); (case k3 => k_asm); (case k4 => k_asm); (case k5 => k_asm); (case k6 => k_is); (case k7 => k_is); (case k8 => k_room); (case k9 => first | exact BindsTo.of_eq rfl | exact binds_K (by k_in) rfl (by k_is) rfl rfl rfl | fail "k_enter: no rule for these arguments"); (case kB => exact rfl); (case kD => decide +kernel); (case c2 => exact rfl); (case c3 => exact rfl); (case c4 => exact rfl); k_whole; intro g' L' h' tk' cells' FG' F' N' Y' B' X' T' l1; (try k_lt l1); k_cells Y'; (try simp only [List.cons_append, List.nil_append] at N'); (try dsimp only); (try k_lift B'); (try k_fold)))
  k_steps
  (rename News _ _ _ _ => kN9); (rename Fr _ _ _ _ => kF9)
  refine' ret _ _ _ _ _ _ _ _ _ _ _ _ _ _ _ _ _ _ _ _ _ _ kF9 kN9 ?o1 ?o6
  case o1 =>
    exact ⟨succ_all (by assumption), succ_at (by assumption) h280, by omega, by omega, by omega, by omega, by omega⟩
  case o6 =>
    clear ret
    unfold EndsTells
    intro dp un gd cn cs a ccd cl outer A₀ base h₀ L m news s Q E p loose mean mg mb td tl l1 l2 i ti B F X N T hk hdp hun hi hx hc hf hcc hoff ret
    refine wpAny_call ?_
    k_dflt (refine' code_nest ?k1 ?k2 ?k3 ?k4 ?k5 ?kA ?kF ?kK ?k6 ?k7 ?k8 ?k9 ?kB ?_ ?c2 ?c3 ?c4 ?c5; (case kA => exact rfl); (case kF => exact rfl); (case kK => assumption); (case k1 => k_asm); (case k2 => k_asm); (case k3 => k_asm); (case k4 => k_asm); (case k5 => k_asm); (case k6 => exact List.Mem.tail _ hf); (case k7 => exact codeRec_news N (List.Mem.tail _ hcc) hcd1 hcd2); (case k8 => k_room); (case k9 => exact BindsTo.of_eq rfl); (case c5 => decide); (case kB => exact locs rfl); (case c2 => exact rfl); (case c3 => exact rfl); (case c4 => exact rfl); k_whole; intro g' L' h' FG' F' N' B' X' T'; (try dsimp only); (try k_lift B'); (try k_fold))
    k_steps
    (rename News _ _ _ _ => N9); (rename isOpt _ _ => hv9); (rename Fr _ _ _ _ => F9)
    refine' ret _ _ _ _ _ _ _ F9 (news_sub N9 ?n1) hv9
    case n1 => exact List.forall_mem_cons.mpr ⟨by repeat' (first | exact List.Mem.head _ | refine List.Mem.tail _ ?_), fun p hp => by repeat' (first | exact hp | refine List.Mem.tail _ ?_)⟩
end

section
-- part U1
theorem codeD_C {prog : Program} {w : World} {A A₀ : Around} {s : Shared} {K : Frag} {L : Addr} {h₀ base : Heap} {m mg mb : Str → Option Value} {news : List (Addr × Obj)} {p : Program} {loose : List Str} {mean : ExcName → Option Value}
    {env : Env} {outer : List Env} {R : Result → Shared → Prop} {name qual : Str} {params : Arguments} {body : List Stmt} {scope : Scope} {dV kV doc pm cdv ct oc : Value} {an od : Option Addr} {osl : Array (Option Value)} {f : Addr} {args : Args} {binds : List (Str × Value)}
    (B : Below A₀ base outer h₀) (F : Fr h₀ L s.heap m) (X₀ : K.In h₀) (N : News h₀ L s.heap news) (T : Top p loose mean mg mb h₀) (hA : A.frames = some (env :: outer)) (hf : env.frame = some L) (hke : env.scope.kind = .function)
    (ho : K.lookup f = some ⟨oc, od, .func (fnOf name qual params body scope dV kV doc pm an cdv ct), osl⟩) (hcd : codeIn K cdv qual = true) (hroom : A.depth < recursionLimit)
    (hbind : BindsTo s (fnOf name qual params body scope dV kV doc pm an cdv ct) args binds) (hloc : ∀ y ∈ binds, scope.names.lookup y.1 = some .local)
    (h : ∀ g L' h₁, Fr h₀ L g m → Fr g L' h₁ (fun y => binds.reverse.lookup y) → News g L' h₁ news → Below A base (env :: outer) g → K.In g → Top p loose mean mg mb g → (∀ p ∈ news, p.1 < L') →
      wpC (model prog w) (A.deeper (envOf qual scope L' f cdv)) (execs body (envOf qual scope L' f cdv))
        (fun fl s' => LeaveK h₀ L m g R (match fl with | .ret v => v | _ => .none) s')
        (fun e s' => wpAny (model prog w) (A.deeper (envOf qual scope L' f cdv)) (leaving (envOf qual scope L' f cdv) e) (fun _ s'' => R (.error e) s'') (fun e' s'' => R (.error e') s'') s')
        { s with heap := h₁, toks := s.toks + binds.length })
    (hco : scope.isCoroutine = false) (hgen : scope.isGenerator = false) (hk : scope.kind = .function)
    (hcell : ∀ x ∈ scope.names, x.2 ≠ .cell) : codeC (model prog w) A (.call (.ref f) args) R s :=
  callC_plain (cl := []) B F N T.nolimit hA hf hke ((X₀.keeps F.keep) _ _ ho) rfl (codeRec_of (X₀.keeps F.keep) hcd) hroom hbind hloc (fun g L' h₁ FG F' N' B' st q => h g L' h₁ FG F' N' B' (X₀.keeps st) (T.keeps st) q) hcell hco hgen hk
def GiveTells (w : World) (ge c' : Addr) (fd : FuncData) (oc : Obj) : Prop :=
  ∀ {dp un : Nat} {gd : Option (List Code)} {cn : Str} {cs : Scope} {a : Addr} {ccd : Value} {cl : List (Str × Addr)} {outer : List Env} {A₀ : Around} {base h₀ : Heap} {L : Addr} {m : Str → Option Value} {news : List (Addr × Obj)} {s : Shared}
    {Q E : Value → Shared → Prop} {p : Program} {loose : List Str} {mean : ExcName → Option Value} {mg mb : Str → Option Value} {i j : Int} {ti tj : Tok},
    Below A₀ base outer h₀ → Fr h₀ L s.heap m → (hd.heap_1 w.params).In h₀ → News h₀ L s.heap news → Top p loose mean mg mb h₀ → cs.kind = .function →
    dp + 15 < recursionLimit → un + 300 < cLine → (ge, fnObj fd) ∈ news → (c', oc) ∈ news →
    (∀ h' tk' tb, Fr h₀ L h' m → News h₀ L h' news → Q (.bytes #[] tb) { s with heap := h', toks := tk' }) →
    wpAny (model PySem.Challenge.rw_tk0056_01.row.prog w) (ktrTop dp un gd cn cs L a ccd cl outer) (call (.ref ge) [.int i ti, .int j tj]) Q E s
def repl : List Int → List Int × Nat
  | [] => ([], 0)
  | c :: r => if c = 40 then (match balR r 1 with
      | some n => ((repl (r.drop n)).1, (repl (r.drop n)).2 + 1)
      | none => (c :: (repl r).1, (repl r).2)) else (c :: (repl r).1, (repl r).2)
termination_by l => l.length
decreasing_by all_goals (simp; try omega)
theorem getExt_K {M : Model} {A : Around} {E : Value → Shared → Prop} {s : Shared} {h₀ : Heap} {L D : Addr} {b : Array UInt8} {news : List (Addr × Obj)} {pl : Sem Bool} {Q : Value × List Value → Shared → Prop} (N : News h₀ L s.heap news) (hD : (D, baOf b) ∈ news) (h : Q (.builtin "bytearray.extend", [.ref D]) s) :
    wpAny M A (getMethod (.ref D) (Str.ofString "extend") pl) Q E s := getMethod_extend (N _ hD).1 h
theorem getApp_K {M : Model} {A : Around} {E : Value → Shared → Prop} {s : Shared} {h₀ : Heap} {L D : Addr} {b : Array UInt8} {news : List (Addr × Obj)} {pl : Sem Bool} {Q : Value × List Value → Shared → Prop} (N : News h₀ L s.heap news) (hD : (D, baOf b) ∈ news) (h : Q (.builtin "bytearray.append", [.ref D]) s) :
    wpAny M A (getMethod (.ref D) (Str.ofString "append") pl) Q E s := getMethod_append (N _ hD).1 h
local macro_rules | `(tactic| walk_at "getMethod ref") => `(tactic| (k_dflt (refine' getExt_K (b := ?b) ?N ?m ?_; (case N => k_asm); (case m => (repeat' (first | exact List.Mem.head _ | refine List.Mem.tail _ ?_))))))
local macro_rules | `(tactic| walk_at "getMethod ref") => `(tactic| (k_dflt (refine' getApp_K (b := ?b) ?N ?m ?_; (case N => k_asm); (case m => (repeat' (first | exact List.Mem.head _ | refine List.Mem.tail _ ?_))))))
local macro_rules | `(tactic| walk_at "callWith ref") => `(tactic| (k_dflt (first
  | (refine' callWith_F ?k1 ?_; (case k1 => exact FnAt.of (by k_asm) (by (repeat' (first | assumption | refine List.Mem.tail _ ?_)))); k_whole)
  | (refine' callWith_F0 ?k1 ?_; (case k1 => exact FnAt.of (by k_asm) (by (repeat' (first | assumption | refine List.Mem.tail _ ?_)))); k_whole; try dsimp only [List.nil_append, List.cons_append]))))
local macro_rules | `(tactic| walk_at "And") => `(tactic| ((with_reducible show FnAt _ _ ∧ _); refine ⟨by k_dflt (exact FnAt.of (by k_asm) (by (repeat' (first | assumption | refine List.Mem.tail _ ?_)))), ?_⟩; try dsimp only [List.nil_append, List.cons_append]))
local macro_rules | `(tactic| walk_at "call builtin:bytearray.extend") => `(tactic| (k_dflt (refine' extend_nil ?F ?N ?m ?x ?z ?_; (case N => k_asm); (case F => k_asm); (case m => (repeat' (first | exact List.Mem.head _ | refine List.Mem.tail _ ?_))); (case x => first | rfl | assumption); (case z => omega); intro h9 F9 N9)))
theorem ends_useA {w : World} {b : Array UInt8} {ks : List Int} {x dx fe c c' : Addr} {fd : FuncData} {co oc : Obj} {t pt mt k1 k2 k3 k4 k5 k6 k7 k8 : Tok} {e : Addr × Obj} (hE : EndsTells w b ks x dx fe c c' fd co oc t pt mt k1 k2 k3 k4 k5 k6 k7 k8)
  {dp un : Nat} {gd : Option (List Code)} {cn : Str} {cs : Scope} {a : Addr} {ccd : Value} {cl : List (Str × Addr)} {outer : List Env} {A₀ : Around} {base h₀ : Heap} {L : Addr} {m : Str → Option Value} {news : List (Addr × Obj)} {s : Shared}
    {Q E : Value → Shared → Prop} {p : Program} {loose : List Str} {mean : ExcName → Option Value} {mg mb : Str → Option Value} {td tl : Tok} {l1 l2 : Addr} {i : Nat} {ti : Tok}
    (B : Below A₀ base outer h₀) (F : Fr h₀ L s.heap m) (X : (hd.heap_1 w.params).In h₀) (N : News h₀ L s.heap (e :: (dx, mDict w.params k1 k2 k3 k4 k5 k6 k7 k8 b t pt mt 0 td tl l1 l2) :: news)) (T : Top p loose mean mg mb h₀) (hk : cs.kind = .function)
    (hdp : dp + 15 < recursionLimit) (hun : un + 300 < cLine) (hi : i ≤ ks.length) (hx : (x, instObj 267 dx) ∈ news) (hc : (c, co) ∈ news) (hf : (fe, fnObj fd) ∈ news) (ho : (c', oc) ∈ news) (hoff : ∀ p ∈ news, p.1 ≠ dx) (he : @LT.lt Nat _ dx e.1)
    (ret : ∀ v h' tk' td' tl' l1' l2', Fr h₀ L h' m → News h₀ L h' (e :: (dx, mDict w.params k1 k2 k3 k4 k5 k6 k7 k8 b t pt mt 0 td' tl' l1' l2') :: news) → isOpt (balAt ks i) v → Q v { s with heap := h', toks := tk' }) :
    wpAny (model PySem.Challenge.rw_tk0056_01.row.prog w) (ktrTop dp un gd cn cs L a ccd cl outer) (call (.ref fe) [.int i ti]) Q E s := by
  refine hE (news := e :: news) (td := td) (tl := tl) (l1 := l1) (l2 := l2) B F X (news_sub N ?_) T hk hdp hun hi (.tail _ hx) (.tail _ hc) (.tail _ hf) (.tail _ ho) ?_ fun v h' tk' td' tl' l1' l2' F' N' hv => ret v h' tk' td' tl' l1' l2' F' (news_sub N' ?_) hv
  · exact List.forall_mem_cons.mpr ⟨.tail _ (.head _), List.forall_mem_cons.mpr ⟨.head _, fun p hp => .tail _ (.tail _ hp)⟩⟩
  · exact List.forall_mem_cons.mpr ⟨Nat.ne_of_gt he, hoff⟩
  · exact List.forall_mem_cons.mpr ⟨.tail _ (.head _), List.forall_mem_cons.mpr ⟨.head _, fun p hp => .tail _ (.tail _ hp)⟩⟩
local macro_rules | `(tactic| walk_at "call ref") => `(tactic| (
  k_dflt ((rename EndsTells _ _ _ _ _ _ _ _ _ _ _ _ _ _ _ _ _ _ _ _ _ _ => hE9); refine' ends_useA hE9 ?k1 ?k2 ?kX ?k3 ?k4 ?kK ?kd ?ku ?ki ?m1 ?m2 ?m3 ?m4 ?m5 ?m6 ?_; (case k1 => k_asm); (case k2 => k_asm); (case kX => k_asm); (case k3 => k_asm); (case k4 => k_asm); (case kK => first | exact rfl | assumption); (case kd => ktr_room); (case ku => ktr_units); (case ki => assumption); (case m1 => assumption); (case m2 => assumption); (case m3 => assumption); (case m4 => assumption); (case m5 => assumption); (case m6 => (show (@LT.lt Nat _ _ _); dsimp only; omega)); intro v9 h9 tk9 td9 tl9 l19 l29 F9 N9 hv9; (try dsimp only); (try k_fold))))
local macro_rules | `(tactic| walk_at "call ref") => `(tactic| (
  k_dflt ((rename GiveTells _ _ _ _ _ => hG9); refine' hG9 ?k1 ?k2 ?kX ?k3 ?k4 ?kK ?kd ?ku ?m1 ?m2 ?_; (case k1 => k_asm); (case k2 => k_asm); (case kX => k_asm); (case k3 => k_asm); (case k4 => k_asm); (case kK => first | exact rfl | assumption); (case kd => ktr_room); (case ku => ktr_units); (case m1 => (repeat' (first | assumption | refine List.Mem.tail _ ?_))); (case m2 => (repeat' (first | assumption | refine List.Mem.tail _ ?_))); intro h9 tk9 tb9 F9 N9; (try dsimp only); (try k_fold))))
theorem push_ints {f : Array UInt8} {c : Int} (h0 : 0 ≤ c) (h1 : c < 256) : KBw.bInts (f.push c.toNat.toUInt8) = KBw.bInts f ++ [c] := by
  unfold KBw.bInts
  rw [Array.toList_push, List.map_append]
  congr 1
  have : (c.toNat.toUInt8).toNat = c.toNat := by simp; omega
  simp only [List.map_cons, List.map_nil, this]
  congr 1
  omega
theorem ints_nil {b : Array UInt8} (h : KBw.bInts b = []) : b = #[] := Array.eq_empty_of_size_eq_zero (by rw [← KBw.ints_length, h]; rfl)
theorem balR_le : ∀ {r : List Int} {o n : Nat}, balR r o = some n → 1 ≤ n ∧ n ≤ r.length
  | [], o, n, h => by rw [balR] at h; cases h
  | c :: r, o, n, h => by
    rw [balR] at h
    by_cases h1 : c = 41
    · rw [if_pos h1] at h
      by_cases h2 : o = 1
      · rw [if_pos h2] at h; cases h; exact ⟨Nat.le_refl _, by simp⟩
      · rw [if_neg h2] at h
        obtain ⟨k, hk, rfl⟩ := Option.map_eq_some_iff.mp h
        have := balR_le hk
        exact ⟨by omega, by simp; omega⟩
    · rw [if_neg h1] at h
      by_cases h2 : c = 40
      · rw [if_pos h2] at h
        obtain ⟨k, hk, rfl⟩ := Option.map_eq_some_iff.mp h
        have := balR_le hk
        exact ⟨by omega, by simp; omega⟩
      · rw [if_neg h2] at h
        obtain ⟨k, hk, rfl⟩ := Option.map_eq_some_iff.mp h
        have := balR_le hk
        exact ⟨by omega, by simp; omega⟩
theorem balAt_gt {ks : List Int} {i e : Nat} (h : balAt ks i = some e) : i + 2 ≤ e ∧ e ≤ ks.length := by
  unfold balAt at h
  by_cases h1 : ks[i]? = some 40
  · rw [if_pos h1] at h
    obtain ⟨k, hk, rfl⟩ := Option.map_eq_some_iff.mp h
    have := balR_le hk
    rw [List.length_drop] at this
    have h2 : i < ks.length := (List.getElem?_eq_some_iff.mp h1).1
    omega
  · rw [if_neg h1] at h; cases h
theorem repl_none {ks : List Int} {i : Nat} (h : balAt ks i = none) (hi : i < ks.length) : repl (ks.drop i) = (ks.getD i 0 :: (repl (ks.drop (i + 1))).1, (repl (ks.drop (i + 1))).2) := by
  have e : ks.drop i = ks.getD i 0 :: ks.drop (i + 1) := by
    rw [List.drop_eq_getElem_cons hi, List.getD_eq_getElem?_getD, List.getElem?_eq_getElem hi]; rfl
  unfold balAt at h
  rw [getD_at hi] at h
  rw [e, repl]
  by_cases h1 : ks.getD i 0 = 40
  · rw [if_pos (by rw [h1]), Option.map_eq_none_iff] at h
    rw [if_pos h1, h]
  · rw [if_neg h1]
theorem repl_some {ks : List Int} {i e : Nat} (h : balAt ks i = some e) : repl (ks.drop i) = ((repl (ks.drop e)).1, (repl (ks.drop e)).2 + 1) := by
  have hi : i < ks.length := by have := balAt_gt h; omega
  have e0 : ks.drop i = ks.getD i 0 :: ks.drop (i + 1) := by
    rw [List.drop_eq_getElem_cons hi, List.getD_eq_getElem?_getD, List.getElem?_eq_getElem hi]; rfl
  unfold balAt at h
  rw [getD_at hi] at h
  by_cases h1 : ks.getD i 0 = 40
  · rw [if_pos (by rw [h1])] at h
    obtain ⟨k, hk, rfl⟩ := Option.map_eq_some_iff.mp h
    rw [e0, repl, if_pos h1, hk]
    have e2 : (ks.drop (i + 1)).drop k = ks.drop (k + (i + 1)) := by rw [List.drop_drop]; congr 1; omega
    dsimp only
    rw [e2]
  · rw [if_neg (by simpa using h1)] at h; cases h
theorem replaced_tells (w : World) {dp un : Nat} {gd : Option (List Code)} {cn : Str} {cs : Scope} {a : Addr} {ccd : Value} {cl : List (Str × Addr)} {outer : List Env} {A₀ : Around} {base h₀ : Heap} {L : Addr} {m : Str → Option Value} {news : List (Addr × Obj)} {s : Shared}
    {Q E : Value → Shared → Prop} {p : Program} {loose : List Str} {mean : ExcName → Option Value} {mg mb : Str → Option Value} {b : Array UInt8} {t : Tok} {ks : List Int}
    {x dx l1 l2 fe ge c c' cg' : Addr} {fd gfd : FuncData} {co oc ocg : Obj} {k1 k2 k3 k4 k5 k6 k7 k8 pt mt td tl t2 : Tok}
    (B : Below A₀ base outer h₀) (F : Fr h₀ L s.heap m) (X : (hd.heap_1 w.params).In h₀) (N : News h₀ L s.heap ((dx, mDict w.params k1 k2 k3 k4 k5 k6 k7 k8 b t pt mt 0 td tl l1 l2) :: news)) (T : Top p loose mean mg mb h₀) (hk : cs.kind = .function)
    (hdp : dp + 20 < recursionLimit) (hun : un + 600 < cLine) (hb : KBw.bInts b = ks) (hlen : ks.length ≤ 50)
    (hx : (x, instObj 267 dx) ∈ news) (hc : (c, co) ∈ news) (hf : (fe, fnObj fd) ∈ news) (hoc : (c', oc) ∈ news) (hg : (ge, fnObj gfd) ∈ news) (hog : (cg', ocg) ∈ news) (hoff : ∀ p ∈ news, p.1 ≠ dx)
    (hE : EndsTells w b ks x dx fe c c' fd co oc t pt mt k1 k2 k3 k4 k5 k6 k7 k8) (hG : GiveTells w ge cg' gfd ocg)
    (ret : ∀ D b' t' tm tq h' tk' td' tl' l1' l2', Fr h₀ L h' m → News h₀ L h' ((D, { cls := .type "tuple", data := .seq #[.bytes b' t', .int ((repl ks).2 : Int) tm] tq }) :: (dx, mDict w.params k1 k2 k3 k4 k5 k6 k7 k8 b t pt mt 0 td' tl' l1' l2') :: news) → KBw.bInts b' = (repl ks).1 → Q (.ref D) { s with heap := h', toks := tk' }) :
    wpC (model PySem.Challenge.rw_tk0056_01.row.prog w) (ktrTop dp un gd cn cs L a ccd cl outer) (call (.ref 28) [.bytes b t, .int 99 t2, .bool false, .ref fe, .ref ge]) Q E s := by
  revert X
  k_fill
  intro X
  refine wpC_call ?_
  w_on
  k_dflt (refine' codeD_C ?k1 ?k2 ?k3 ?k4 ?k5 ?kA ?kF ?kK ?k6 ?k7 ?k8 ?k9 ?kB ?_ ?c2 ?c3 ?c4 ?c5; (case kA => exact rfl); (case kF => exact rfl); (case kK => assumption); (case k1 => k_asm); (case k2 => k_asm); (case k3 => k_asm); (case k4 => k_asm); (case k5 => k_asm); (case k6 => k_is); (case k7 => k_is); (case k8 => ktr_room); (case k9 => exact BindsTo.of_eq rfl); (case c5 => decide); (case kB => exact locs rfl); (case c2 => exact rfl); (case c3 => exact rfl); (case c4 => exact rfl); k_whole; intro g' L' h' FG' F' N' B' X' T' lX; (try k_lt lX); (try dsimp only); (try k_fold))
  refine execs_C (assignTuple_C (tuple_C (spliced_C (evalCall_C ?_))))
  k_steps
  refine callWithB0_C rfl ?_
  (rename Fr _ _ _ _ => F9); (rename News _ _ _ _ => N9)
  refine call_ba_C F9 N9 fun D h9 F8 N8 lD => ?_
  clear F9 N9
  k_lt lD
  refine wpC_any ?_
  k_steps
  dsimp only
  (rename Fr _ _ _ _ => F9); (rename News _ _ _ _ => N9)
  refine execs_C (while_C (fun n m₁ news₁ => ∃ (i q : Nat) (f : Array UInt8) (ti tm td tl : Tok) (l1 l2 : Addr), i ≤ ks.length ∧ q ≤ i ∧ f.size ≤ i ∧ n = ks.length - i ∧ KBw.bInts f ++ (repl (ks.drop i)).1 = (repl ks).1 ∧ q + (repl (ks.drop i)).2 = (repl ks).2 ∧
    (∀ r ∈ [(Str.ofString "found", Value.ref D), (Str.ofString "at", .int i ti), (Str.ofString "many", .int q tm), (Str.ofString "text", .bytes b t), (Str.ofString "most", .int 99 t2), (Str.ofString "is_bound", .bool false), (Str.ofString "ends_at", .ref fe), (Str.ofString "give", .ref ge)], m₁ r.1 = some r.2) ∧
    news₁ = (D, baOf f) :: (dx, mDict w.params k1 k2 k3 k4 k5 k6 k7 k8 b t pt mt 0 td tl l1 l2) :: news) (n₀ := ks.length) F9 (news_sub N9 (List.forall_mem_cons.mpr ⟨.tail _ (.head _), fun p hp => .tail _ (.tail _ hp)⟩)) ?_ ?_)
  · refine' ⟨0, 0, #[], _, _, td, tl, l1, l2, Nat.zero_le _, Nat.le_refl _, Nat.le_refl _, rfl, rfl, ?z1, ?z2, rfl⟩
    case z1 => simp
    case z2 =>
      intro r hr
      simp only [List.mem_cons, List.not_mem_nil, or_false] at hr
      rcases hr with rfl | rfl | rfl | rfl | rfl | rfl | rfl | rfl <;> rfl
  clear F9 N9
  rintro n m₁ news₁ h₁ tk₁ F₁ N₁ ⟨i, q, f, ti, tm, td, tl, l1, l2, hi, hq, hfs, rfl, e1, e2, hm, rfl⟩
  have F2 := fr_put _ F₁ hm
  dsimp only [putAll] at F2
  clear F₁ hm
  refine wpC_any ?_
  k_steps
  refine execs_A ?_
  k_steps
  (rename isOpt _ _ => hv9); (rename Fr _ _ _ _ => F9); (rename News _ _ _ _ => N9)
  rcases isOpt_cases hv9 with ⟨e9, ev9⟩ | ⟨n9, t9, e9, ev9⟩ <;> subst ev9
  · k_steps
    refine execs_A ?_
    k_steps
    refine execs_C (if_C (wpC_any ?_))
    k_steps
    refine execs_C (if_C (wpC_any ?_))
    k_steps
    · refine execs_C (expr_C (evalMethod_C ?_))
      k_steps
      refine callWithB_C rfl ?_
      k_steps
      (rename Fr _ _ _ _ => F9); (rename News _ _ _ _ => N9)
      refine append_C F9 N9 (.head (List.forall_mem_cons.mpr ⟨Nat.ne_of_lt lD.1, fun p hp => Nat.ne_of_lt (lt_of_all lD.2 p hp)⟩)) (by assumption) (by assumption) (by omega) fun h8 F8 N8 => ?_
      clear F9 N9
      show wpC _ _ (execs _ _) _ _ _
      refine execs_A ?_
      k_steps
      refine wpC_any ?_
      k_steps
      show wpC _ _ (execs _ _) _ _ _
      refine wpC_any ?_
      k_steps
      show wpC _ _ (execs _ _) _ _ _
      refine execs_A ?_
      k_steps
      refine wpC_any ?_
      k_steps
      (rename Fr _ _ _ _ => F9); (rename News _ _ _ _ => N9)
      have hi2 : i < ks.length := by omega
      rw [repl_none e9 hi2] at e1 e2
      refine' ⟨_, _, _, _, ks.length - (i + 1), rfl, F9, N9, by omega, i + 1, q, _, _, _, _, _, _, _, by omega, by omega, ?j0, rfl, ?j1, ?j2, ?j3, rfl⟩
      case j0 => rw [Array.size_push]; omega
      case j1 => rw [← e1, push_ints (by assumption) (by assumption), List.append_assoc]; rfl
      case j2 => exact e2
      case j3 =>
        intro r hr
        simp only [List.mem_cons, List.not_mem_nil, or_false] at hr
        rcases hr with rfl | rfl | rfl | rfl | rfl | rfl | rfl | rfl <;> rfl
    · refine wpC_any ?_
      k_steps
      unfold WhileStep2
      dsimp only
      have hi3 : i = ks.length := by omega
      subst hi3
      rw [List.drop_length] at e1 e2
      refine execs_A ?_
      k_steps
      (rename Fr _ _ _ _ => F9); (rename News _ _ _ _ => N9); (rename KBw.bInts _ = List.take _ _ => hP)
      have hP2 := ints_nil (hP.trans (by rw [Nat.min_self, Nat.sub_self, List.take_zero]))
      refine extend_nil F9 N9 (.head _) hP2 (by omega) fun h8 F8 N8 => ?_
      clear F9 N9
      show wpC _ _ (execs _ _) _ _ _
      refine wpC_any ?_
      k_steps
      refine call_bytes_ba (N8 _ (.head _)).1 (by omega) fun t8 kk8 => ?_
      k_steps
      (rename Fr _ _ _ _ => F9); (rename News _ _ _ _ => N9)
      rw [repl] at e1 e2
      rw [List.append_nil] at e1
      have e3 : q = (repl ks).2 := e2
      subst e3
      refine' ret _ _ _ _ _ _ _ _ _ _ _ F9 (news_sub N9 ?n1) e1
      case n1 => refine List.forall_mem_cons.mpr ⟨by repeat' (first | exact List.Mem.head _ | refine List.Mem.tail _ ?_), List.forall_mem_cons.mpr ⟨by repeat' (first | exact List.Mem.head _ | refine List.Mem.tail _ ?_), fun p hp => by repeat' (first | exact hp | refine List.Mem.tail _ ?_)⟩⟩
  · have hgt := balAt_gt e9
    have hgi : (i : Int) < n9 := by omega
    k_steps
    refine execs_A ?_
    k_steps
    refine execs_C (if_C (wpC_any ?_))
    k_steps
    refine wpC_any ?_
    k_steps
    refine execs_A ?_
    k_steps
    refine wpC_any ?_
    k_steps
    (rename Fr _ _ _ _ => F9); (rename News _ _ _ _ => N9)
    rw [repl_some e9] at e1 e2
    refine' ⟨_, _, _, _, ks.length - n9, rfl, F9, N9, by omega, n9, q + 1, f, _, _, _, _, _, _, by omega, by omega, by omega, rfl, ?j1, ?j2, ?j3, rfl⟩
    case j1 => exact e1
    case j2 => dsimp only at e2; omega
    case j3 =>
      intro r hr
      simp only [List.mem_cons, List.not_mem_nil, or_false] at hr
      rcases hr with rfl | rfl | rfl | rfl | rfl | rfl | rfl | rfl <;> rfl
end

section
-- part D1
def dueStep (q : List Int × List (Int × Int)) (i : Nat) (k : Int) : List Int × List (Int × Int) :=
  if k = 40 then ((i : Int) :: q.1, q.2) else if k = 41 then (match q.1 with | [] => q | x :: t => (t, kdfPut q.2 x i)) else q
def dueSt (ks : List Int) : Nat → List Int × List (Int × Int)
  | 0 => ([], [])
  | i + 1 => dueStep (dueSt ks i) i (ks.getD i 0)
def dueR : Nat → List Int × List (Int × Int) → List Int → List Int × List (Int × Int)
  | _, q, [] => q
  | i, q, k :: r => dueR (i + 1) (dueStep q i k) r
def lookP (c : List (Int × Int)) (j : Int) : Option Int := (c.find? fun p => decide (p.1 = j)).map (·.2)
theorem has_look (c : List (Int × Int)) (j : Int) : kdfHas c j = (lookP c j).isSome := by
  unfold kdfHas lookP
  induction c with
  | nil => rfl
  | cons p r ih =>
    rw [List.any_cons, List.find?_cons]
    by_cases h : p.1 = j
    · simp [h]
    · rw [decide_eq_false h]; simpa using ih
theorem lookP_put (c : List (Int × Int)) (k v j : Int) : lookP (kdfPut c k v) j = if j = k then some v else lookP c j := by
  unfold kdfPut
  by_cases hc : (c.any fun p => decide (p.1 = k)) = true
  · rw [if_pos hc]
    unfold lookP
    induction c with
    | nil => simp at hc
    | cons p r ih =>
      rw [List.map_cons, List.find?_cons, List.find?_cons]
      by_cases h1 : p.1 = k
      · have e1 : (if decide (p.1 = k) = true then (p.1, v) else p) = (p.1, v) := by simp [h1]
        rw [e1]
        by_cases h2 : p.1 = j
        · rw [decide_eq_true h2]
          have : j = k := h2.symm.trans h1
          simp [this]
        · rw [decide_eq_false h2]
          have h3 : ¬ j = k := fun q => h2 (h1.trans q.symm)
          rw [if_neg h3]
          by_cases hr : (r.any fun p => decide (p.1 = k)) = true
          · have := ih hr
            rw [if_neg h3] at this
            exact this
          · have e2 : r.map (fun p => if decide (p.1 = k) = true then (p.1, v) else p) = r := by
              conv => rhs; rw [← List.map_id r]
              refine List.map_congr_left fun q hq => ?_
              have : ¬ q.1 = k := fun e => hr (List.any_eq_true.mpr ⟨q, hq, decide_eq_true e⟩)
              simp [this]
            rw [e2]
      · have e1 : (if decide (p.1 = k) = true then (p.1, v) else p) = p := by simp [h1]
        rw [e1]
        have hr : (r.any fun p => decide (p.1 = k)) = true := by simpa [h1] using hc
        by_cases h2 : p.1 = j
        · rw [decide_eq_true h2]
          have h3 : ¬ j = k := fun q => h1 (h2.trans q)
          simp [h3]
        · rw [decide_eq_false h2]
          exact ih hr
  · rw [if_neg hc]
    unfold lookP
    rw [List.find?_append]
    by_cases h : j = k
    · subst h
      have : c.find? (fun p => decide (p.1 = j)) = none := List.find?_eq_none.mpr fun p hp q => hc (List.any_eq_true.mpr ⟨p, hp, q⟩)
      rw [this, if_pos rfl]
      simp
    · rw [if_neg h]
      have : ([(k, v)] : List (Int × Int)).find? (fun p => decide (p.1 = j)) = none := by simp; omega
      rw [this, Option.or_none]
theorem dueR_look : ∀ (r : List Int) (i : Nat) (st : List Int) (c : List (Int × Int)), (∀ x ∈ st, x < (i : Int)) → st.Nodup → (∀ x ∈ st, lookP c x = none) → (∀ x : Int, (i : Int) ≤ x → lookP c x = none) →
    (∀ d x, st[d]? = some x → lookP (dueR i (st, c) r).2 x = (balR r (d + 1)).map (fun n => ((i + n : Nat) : Int) - 1)) ∧
    (∀ x : Int, x ∉ st → x < (i : Int) → lookP (dueR i (st, c) r).2 x = lookP c x) ∧
    (∀ j : Nat, i ≤ j → lookP (dueR i (st, c) r).2 j = (if r[j - i]? = some 40 then balR (r.drop (j - i + 1)) 1 else none).map (fun n => ((j + n : Nat) : Int))) := by
  intro r
  induction r with
  | nil =>
    intro i st c h1 h2 h3 h4
    refine ⟨fun d x hx => ?_, fun x _ _ => rfl, fun j hj => ?_⟩
    · rw [balR]; exact h3 x (List.mem_of_getElem? hx)
    · simp only [List.getElem?_nil, reduceCtorEq, if_false]
      exact h4 j (by omega)
  | cons k r ih =>
    intro i st c h1 h2 h3 h4
    have idx : ∀ j : Nat, i < j → (k :: r)[j - i]? = r[j - (i + 1)]? ∧ (k :: r).drop (j - i + 1) = r.drop (j - (i + 1) + 1) := fun j hj => by
      have e : j - i = (j - (i + 1)) + 1 := by omega
      rw [e]; exact ⟨rfl, rfl⟩
    have hi : (i : Int) ∉ st := fun h => by have := h1 _ h; omega
    by_cases c40 : k = 40
    · have st9 : dueStep (st, c) i k = ((i : Int) :: st, c) := by rw [dueStep, if_pos c40]
      obtain ⟨a, b, cc⟩ := ih (i + 1) ((i : Int) :: st) c (fun x hx => by
          rcases List.mem_cons.mp hx with rfl | hx
          · omega
          · have := h1 x hx; omega) (List.nodup_cons.mpr ⟨hi, h2⟩) (fun x hx => by
          rcases List.mem_cons.mp hx with rfl | hx
          · exact h4 _ (Int.le_refl _)
          · exact h3 x hx) (fun x hx => h4 x (by omega))
      rw [dueR, st9]
      refine ⟨fun d x hx => ?_, fun x hx hl => ?_, fun j hj => ?_⟩
      · rw [a (d + 1) x hx, balR, if_neg (by rw [c40]; decide), if_pos c40, Option.map_map]
        congr 1; funext n; show _ = (((i + (n + 1) : Nat) : Int) - 1); omega
      · exact b x (fun h => by
          rcases List.mem_cons.mp h with rfl | h
          · omega
          · exact hx h) (by omega)
      · rcases Nat.eq_or_lt_of_le hj with rfl | hj
        · rw [a 0 i rfl, Nat.sub_self]
          rw [if_pos (by rw [c40]; rfl)]
          show _ = (balR r 1).map _
          congr 1; funext n; omega
        · rw [cc j hj, (idx j hj).1, (idx j hj).2]
    · by_cases c41 : k = 41
      · rcases st with _ | ⟨y, t⟩
        · have st9 : dueStep ([], c) i k = ([], c) := by rw [dueStep, if_neg c40, if_pos c41]
          obtain ⟨a, b, cc⟩ := ih (i + 1) [] c (fun x hx => nomatch hx) List.nodup_nil (fun x hx => nomatch hx) (fun x hx => h4 x (by omega))
          rw [dueR, st9]
          refine ⟨fun d x hx => by simp at hx, fun x hx hl => b x hx (by omega), fun j hj => ?_⟩
          rcases Nat.eq_or_lt_of_le hj with rfl | hj
          · rw [b i (by simp) (by omega), h4 i (Int.le_refl _), Nat.sub_self, if_neg (by rw [c41]; simp)]; rfl
          · rw [cc j hj, (idx j hj).1, (idx j hj).2]
        · have st9 : dueStep (y :: t, c) i k = (t, kdfPut c y i) := by rw [dueStep, if_neg c40, if_pos c41]
          have hyt : y ∉ t := (List.nodup_cons.mp h2).1
          have hyi := h1 y (List.mem_cons_self ..)
          obtain ⟨a, b, cc⟩ := ih (i + 1) t (kdfPut c y i) (fun x hx => by have := h1 x (List.mem_cons_of_mem _ hx); omega) (List.nodup_cons.mp h2).2 (fun x hx => by
            rw [lookP_put, if_neg (fun e : x = y => hyt (e ▸ hx))]; exact h3 x (List.mem_cons_of_mem _ hx)) (fun x hx => by
            rw [lookP_put, if_neg (by omega)]; exact h4 x (by omega))
          rw [dueR, st9]
          refine ⟨fun d x hx => ?_, fun x hx hl => ?_, fun j hj => ?_⟩
          · rcases d with _ | d
            · have e : y = x := by simpa using hx
              subst e
              rw [b y hyt (by omega), lookP_put, if_pos rfl, balR, if_pos c41, if_pos rfl]
              show some (i : Int) = some (((i + 1 : Nat) : Int) - 1)
              congr 1; omega
            · rw [a d x hx, balR, if_pos c41, if_neg (by omega), Option.map_map]
              congr 1; funext n; show _ = (((i + (n + 1) : Nat) : Int) - 1); omega
          · rw [b x (fun h => hx (List.mem_cons_of_mem _ h)) (by omega), lookP_put, if_neg (fun e : x = y => hx (e ▸ List.mem_cons_self ..))]
          · rcases Nat.eq_or_lt_of_le hj with rfl | hj
            · rw [b i (fun h => hi (List.mem_cons_of_mem _ h)) (by omega), lookP_put, if_neg (by omega), h4 i (Int.le_refl _), Nat.sub_self, if_neg (by rw [c41]; simp)]; rfl
            · rw [cc j hj, (idx j hj).1, (idx j hj).2]
      · have st9 : dueStep (st, c) i k = (st, c) := by rw [dueStep, if_neg c40, if_neg c41]
        obtain ⟨a, b, cc⟩ := ih (i + 1) st c (fun x hx => by have := h1 x hx; omega) h2 h3 (fun x hx => h4 x (by omega))
        rw [dueR, st9]
        refine ⟨fun d x hx => ?_, fun x hx hl => b x hx (by omega), fun j hj => ?_⟩
        · rw [a d x hx, balR, if_neg c41, if_neg c40, Option.map_map]
          congr 1; funext n; show _ = (((i + (n + 1) : Nat) : Int) - 1); omega
        · rcases Nat.eq_or_lt_of_le hj with rfl | hj
          · rw [b i hi (by omega), h4 i (Int.le_refl _), Nat.sub_self, if_neg (by simp [c40])]; rfl
          · rw [cc j hj, (idx j hj).1, (idx j hj).2]
theorem dueSt_R {ks : List Int} : ∀ {n i : Nat}, i + n = ks.length → dueSt ks ks.length = dueR i (dueSt ks i) (ks.drop i)
  | 0, i, h => by
    have e : i = ks.length := by omega
    subst e
    rw [List.drop_length, dueR]
  | n + 1, i, h => by
    have hi : i < ks.length := by omega
    have e : ks.drop i = ks.getD i 0 :: ks.drop (i + 1) := by
      rw [List.drop_eq_getElem_cons hi, List.getD_eq_getElem?_getD, List.getElem?_eq_getElem hi]; rfl
    rw [e, dueR, dueSt_R (n := n) (i := i + 1) (by omega), dueSt]
theorem due_lookP {ks : List Int} {i : Nat} : lookP (dueSt ks ks.length).2 i = (balAt ks i).map (fun e : Nat => (e : Int) - 1) := by
  rw [dueSt_R (n := ks.length) (i := 0) (by omega), List.drop_zero]
  have := (dueR_look ks 0 [] [] (fun x hx => nomatch hx) List.nodup_nil (fun x hx => nomatch hx) (fun x _ => rfl)).2.2 i (Nat.zero_le _)
  show lookP (dueR 0 ([], []) ks).2 i = _
  rw [this, Nat.sub_zero]
  unfold balAt
  by_cases h : ks[i]? = some 40
  · rw [if_pos h, if_pos h, Option.map_map]
    congr 1; funext n; show _ = (((n + (i + 1) : Nat) : Int) - 1); omega
  · rw [if_neg h, if_neg h]; rfl
theorem due_has {ks : List Int} {i : Nat} : kdfHas (dueSt ks ks.length).2 i = (balAt ks i).isSome := by
  rw [has_look, due_lookP]; cases balAt ks i <;> rfl
theorem due_look {ks : List Int} {i e : Nat} (h : balAt ks i = some e) : kdfLook (dueSt ks ks.length).2 i 0 + 1 = e := by
  have := due_lookP (ks := ks) (i := i)
  unfold kdfLook
  unfold lookP at this
  rw [this, h]
  show ((e : Int) - 1) + 1 = e
  omega
end

section
-- part D2
def vI (c : Int) : Int := if c = 40 then 1 else if c = 41 then -1 else 0
def mnI : List Int → Int
  | [] => 0
  | c :: r => min 0 (vI c + mnI r)
def htI : List Int → Int
  | [] => 0
  | c :: r => vI c + htI r
theorem mn_le (r : List Int) : mnI r ≤ 0 := by cases r <;> simp [mnI]; omega
theorem v_40 : vI 40 = 1 := rfl
theorem v_41 : vI 41 = -1 := rfl
theorem v_other {c : Int} (h1 : c ≠ 40) (h2 : c ≠ 41) : vI c = 0 := by unfold vI; rw [if_neg h1, if_neg h2]
theorem balR_none : ∀ {r : List Int} {o : Nat}, 1 ≤ o → (balR r o = none ↔ 1 ≤ (o : Int) + mnI r)
  | [], o, h => by rw [balR, mnI]; simp; omega
  | c :: r, o, h => by
    rw [balR, mnI]
    by_cases h1 : c = 41
    · subst h1
      rw [if_pos rfl, v_41]
      by_cases h2 : o = 1
      · subst h2; rw [if_pos rfl]; simp; have := mn_le r; omega
      · rw [if_neg h2, Option.map_eq_none_iff, balR_none (by omega)]; omega
    · rw [if_neg h1]
      by_cases h2 : c = 40
      · subst h2
        rw [if_pos rfl, v_40, Option.map_eq_none_iff, balR_none (by omega)]; have := mn_le r; omega
      · rw [if_neg h2, v_other h2 h1, Option.map_eq_none_iff, balR_none h]; have := mn_le r; omega
theorem balR_comp : ∀ {r : List Int} {o n : Nat} (p : Nat), 1 ≤ o → balR r o = some n → balR r (o + p) = if p = 0 then some n else (balR (r.drop n) p).map (· + n)
  | [], o, n, p, h, e => by rw [balR] at e; cases e
  | c :: r, o, n, p, h, e => by
    rcases Nat.eq_zero_or_pos p with rfl | hp
    · rw [if_pos rfl]; exact e
    rw [if_neg (by omega)]
    rw [balR] at e
    rw [balR]
    by_cases h1 : c = 41
    · rw [if_pos h1] at e ⊢
      rw [if_neg (by omega)]
      by_cases h2 : o = 1
      · subst h2
        rw [if_pos rfl] at e
        cases e
        show (balR r (1 + p - 1)).map _ = (balR r p).map _
        rw [show 1 + p - 1 = p by omega]
      · rw [if_neg h2] at e
        obtain ⟨k, hk, rfl⟩ := Option.map_eq_some_iff.mp e
        have := balR_comp p (by omega) hk
        rw [if_neg (by omega)] at this
        rw [show o + p - 1 = o - 1 + p by omega, this, Option.map_map]
        rfl
    · rw [if_neg h1] at e ⊢
      by_cases h2 : c = 40
      · rw [if_pos h2] at e ⊢
        obtain ⟨k, hk, rfl⟩ := Option.map_eq_some_iff.mp e
        have := balR_comp p (by omega) hk
        rw [if_neg (by omega)] at this
        rw [show o + p + 1 = o + 1 + p by omega, this, Option.map_map]
        rfl
      · rw [if_neg h2] at e ⊢
        obtain ⟨k, hk, rfl⟩ := Option.map_eq_some_iff.mp e
        have := balR_comp p h hk
        rw [if_neg (by omega)] at this
        rw [this, Option.map_map]
        rfl
theorem repl_match {r : List Int} {n : Nat} (h : balR r 1 = some n) : repl (40 :: r) = ((repl (r.drop n)).1, (repl (r.drop n)).2 + 1) := by rw [repl, if_pos rfl, h]
theorem repl_keep40 {r : List Int} (h : balR r 1 = none) : repl (40 :: r) = (40 :: (repl r).1, (repl r).2) := by rw [repl, if_pos rfl, h]
theorem repl_keep {c : Int} {r : List Int} (h : c ≠ 40) : repl (c :: r) = (c :: (repl r).1, (repl r).2) := by rw [repl, if_neg h]
/-- the three ways of a row -/
theorem repl_ind {M : List Int → Prop} (nil : M []) (keep : ∀ c r, c ≠ 40 → M r → M (c :: r)) (open_ : ∀ r, balR r 1 = none → M r → M (40 :: r))
    (block : ∀ r n, balR r 1 = some n → M (r.drop n) → M (40 :: r)) : ∀ r, M r := by
  have all : ∀ n r, r.length < n → M r := by
    intro n
    induction n with
    | zero => intro r h; exact absurd h (Nat.not_lt_zero _)
    | succ n ih =>
      intro r h
      cases r with
      | nil => exact nil
      | cons c r =>
        rw [List.length_cons] at h
        by_cases hc : c = 40
        · subst hc
          cases hb : balR r 1 with
          | none => exact open_ r hb (ih r (by omega))
          | some k => exact block r k hb (ih _ (by rw [List.length_drop]; omega))
        · exact keep c r hc (ih r (by omega))
  exact fun r => all _ r (Nat.lt_succ_self _)
theorem balR_kept (r : List Int) : ∀ o, 1 ≤ o → (balR r o = none ↔ (repl r).1.count 41 < o) := by
  refine repl_ind (M := fun r => ∀ o, 1 ≤ o → (balR r o = none ↔ (repl r).1.count 41 < o)) ?_ ?_ ?_ ?_ r
  · intro o h; rw [balR, repl]; simp; omega
  · intro c r hc ih o h
    rw [repl_keep hc, balR]
    by_cases h1 : c = 41
    · subst h1
      rw [if_pos rfl, List.count_cons_self]
      by_cases h2 : o = 1
      · subst h2; rw [if_pos rfl]; simp
      · rw [if_neg h2, Option.map_eq_none_iff, ih _ (by omega)]; omega
    · rw [if_neg h1, if_neg hc, Option.map_eq_none_iff, ih _ h, List.count_cons_of_ne (by simpa using h1)]
  · intro r hb ih o h
    have h0 := (ih 1 (Nat.le_refl _)).mp hb
    rw [repl_keep40 hb, balR, if_neg (by decide), if_pos rfl, Option.map_eq_none_iff, ih _ (by omega), List.count_cons_of_ne (by decide)]
    omega
  · intro r n hb ih o h
    rw [repl_match hb, balR, if_neg (by decide), if_pos rfl, Option.map_eq_none_iff]
    have := balR_comp (r := r) (o := 1) (n := n) o (Nat.le_refl _) hb
    rw [if_neg (by omega)] at this
    rw [show o + 1 = 1 + o by omega, this, Option.map_eq_none_iff, ih o h]
def Good : List Int → Prop
  | [] => True
  | c :: r => (c = 40 → 41 ∉ r) ∧ Good r
theorem repl_good (r : List Int) : Good (repl r).1 := by
  refine repl_ind (M := fun r => Good (repl r).1) ?_ ?_ ?_ ?_ r
  · rw [repl]; trivial
  · intro c r hc ih; rw [repl_keep hc]; exact ⟨fun h => (hc h).elim, ih⟩
  · intro r hb ih
    rw [repl_keep40 hb]
    have h0 := (balR_kept r 1 (Nat.le_refl _)).mp hb
    exact ⟨fun _ h => by have := List.count_pos_iff.mpr h; omega, ih⟩
  · intro r n hb ih; rw [repl_match hb]; exact ih
theorem balR_no : ∀ {q : List Int} {o : Nat}, 41 ∉ q → balR q o = none
  | [], _, _ => rfl
  | c :: r, o, h => by
    have h1 : c ≠ 41 := fun e => h (e ▸ List.mem_cons_self ..)
    have h2 : 41 ∉ r := fun e => h (List.mem_cons_of_mem _ e)
    rw [balR, if_neg h1]
    by_cases h3 : c = 40
    · rw [if_pos h3, balR_no h2]; rfl
    · rw [if_neg h3, balR_no h2]; rfl
theorem repl_of_good : ∀ {l : List Int}, Good l → repl l = (l, 0)
  | [], _ => by rw [repl]
  | c :: r, h => by
    have ih := repl_of_good h.2
    by_cases hc : c = 40
    · subst hc; rw [repl_keep40 (balR_no (h.1 rfl)), ih]
    · rw [repl_keep hc, ih]
theorem repl_idem (r : List Int) : repl (repl r).1 = ((repl r).1, 0) := repl_of_good (repl_good r)
end

section
-- part D3
def swapI (k : Int) : Int := if k = 40 then 41 else if k = 41 then 40 else k
def behindI (ks : List Int) : List Int := ks.reverse.map swapI
inductive Bal : List Int → Prop
  | nil : Bal []
  | other {c r} : c ≠ 40 → c ≠ 41 → Bal r → Bal (c :: r)
  | pair {w r} : Bal w → Bal r → Bal (40 :: w ++ 41 :: r)
inductive Dec : List Int → List Int → Nat → Prop
  | nil : Dec [] [] 0
  | keep {c r l n} : Dec r l n → Dec (c :: r) (c :: l) n
  | block {w r l n} : Bal w → Dec r l n → Dec (40 :: w ++ 41 :: r) l (n + 1)
theorem Bal.append {a b : List Int} (ha : Bal a) (hb : Bal b) : Bal (a ++ b) := by
  induction ha with
  | nil => exact hb
  | other h1 h2 _ ih => exact .other h1 h2 ih
  | pair hw _ _ ih => rw [List.append_assoc, List.cons_append]; exact .pair hw ih
theorem swap_ne {c : Int} (h1 : c ≠ 40) (h2 : c ≠ 41) : swapI c = c := by unfold swapI; rw [if_neg h1, if_neg h2]
theorem behind_cons (c : Int) (r : List Int) : behindI (c :: r) = behindI r ++ [swapI c] := by simp [behindI]
theorem behind_append (a b : List Int) : behindI (a ++ b) = behindI b ++ behindI a := by simp [behindI]
theorem behind_pair (w r : List Int) : behindI (40 :: w ++ 41 :: r) = behindI r ++ (40 :: behindI w ++ [41]) := by
  rw [behind_append, behind_cons, behind_cons]
  simp [swapI]
theorem Bal.behind {a : List Int} (ha : Bal a) : Bal (behindI a) := by
  induction ha with
  | nil => exact .nil
  | other h1 h2 _ ih => rw [behind_cons, swap_ne h1 h2]; exact ih.append (.other h1 h2 .nil)
  | pair _ _ ihw ihr => rw [behind_pair]; exact ihr.append (.pair ihw .nil)
theorem Dec.append {a b l m : List Int} {i j : Nat} (ha : Dec a l i) (hb : Dec b m j) : Dec (a ++ b) (l ++ m) (i + j) := by
  induction ha with
  | nil => rw [Nat.zero_add]; exact hb
  | keep _ ih => exact .keep ih
  | block hw _ ih => rw [List.append_assoc, List.cons_append, Nat.add_right_comm]; exact .block hw ih
theorem Dec.behind {a l : List Int} {n : Nat} (ha : Dec a l n) : Dec (behindI a) (behindI l) n := by
  induction ha with
  | nil => exact .nil
  | @keep c r l n _ ih => rw [behind_cons, behind_cons]; exact ih.append (.keep .nil)
  | @block w r l n hw _ ih =>
    rw [behind_pair]
    have := ih.append (Dec.block hw.behind .nil)
    rw [List.append_nil] at this
    exact this
theorem Bal.skip {w : List Int} (hw : Bal w) (t : List Int) {o : Nat} (ho : 1 ≤ o) : balR (w ++ t) o = (balR t o).map (· + w.length) := by
  induction hw generalizing t o with
  | nil => simp
  | @other c r h1 h2 _ ih =>
    rw [List.cons_append, balR, if_neg h2, if_neg h1, ih t ho, Option.map_map]
    rfl
  | @pair w r _ _ ihw ihr =>
    rw [List.append_assoc, List.cons_append, List.cons_append, balR, if_neg (by decide), if_pos rfl, ihw _ (by omega), balR, if_pos rfl, if_neg (by omega), show o + 1 - 1 = o by omega, ihr t ho, Option.map_map, Option.map_map, Option.map_map]
    congr 1
    funext q
    simp
    omega
theorem Dec.none {r l : List Int} {n o : Nat} (hd : Dec r l n) (ho : 1 ≤ o) (hl : l.count 41 < o) : balR r o = none := by
  induction hd generalizing o with
  | nil => rfl
  | @keep c r l n _ ih =>
    rw [balR]
    by_cases h1 : c = 41
    · subst h1
      rw [List.count_cons_self] at hl
      rw [if_pos rfl, if_neg (by omega), ih (by omega) (by omega)]; rfl
    · rw [List.count_cons_of_ne (by simpa using h1)] at hl
      rw [if_neg h1]
      by_cases h2 : c = 40
      · rw [if_pos h2, ih (by omega) (by omega)]; rfl
      · rw [if_neg h2, ih ho hl]; rfl
  | @block w r l n hw _ ih =>
    rw [List.cons_append, balR, if_neg (by decide), if_pos rfl, hw.skip _ (by omega), balR, if_pos rfl, if_neg (by omega), show o + 1 - 1 = o by omega, ih ho hl]; rfl
theorem Dec.repl {r l : List Int} {n : Nat} (hd : Dec r l n) (hg : Good l) : Mine.repl r = (l, n) := by
  induction hd with
  | nil => rw [Mine.repl]
  | @keep c r l n hd ih =>
    have ih := ih hg.2
    by_cases hc : c = 40
    · subst hc
      rw [repl_keep40 (hd.none (Nat.le_refl _) (by rw [List.count_eq_zero.mpr (hg.1 rfl)]; omega)), ih]
    · rw [repl_keep hc, ih]
  | @block w r l n hw hd ih =>
    have ih := ih hg
    have hb : balR (w ++ 41 :: r) 1 = some (w.length + 1) := by
      rw [hw.skip _ (Nat.le_refl _), balR, if_pos rfl, if_pos rfl]
      show some (1 + w.length) = _
      rw [Nat.add_comm]
    rw [List.cons_append, repl_match hb]
    have e : (w ++ 41 :: r).drop (w.length + 1) = r := by simp
    rw [e, ih]
theorem bal_split : ∀ (k : Nat) (r : List Int) (n : Nat), r.length ≤ k → balR r 1 = some n → ∃ w, Bal w ∧ r = w ++ 41 :: r.drop n
  | 0, r, n, hk, h => by
    have : r = [] := List.eq_nil_of_length_eq_zero (by omega)
    subst this
    rw [balR] at h; cases h
  | k + 1, [], n, hk, h => by rw [balR] at h; cases h
  | k + 1, c :: r, n, hk, h => by
    rw [List.length_cons] at hk
    rw [balR] at h
    by_cases h1 : c = 41
    · rw [if_pos h1, if_pos rfl] at h
      cases h
      exact ⟨[], .nil, by rw [h1]; rfl⟩
    · rw [if_neg h1] at h
      by_cases h2 : c = 40
      · rw [if_pos h2] at h
        obtain ⟨m, hm, rfl⟩ := Option.map_eq_some_iff.mp h
        cases h3 : balR r 1 with
        | none =>
          have z1 := (balR_none (Nat.le_refl 1)).mp h3
          have z2 := (balR_none (r := r) (o := 1 + 1) (by omega)).mpr (by omega)
          rw [z2] at hm; cases hm
        | some a =>
          obtain ⟨w1, b1, e1⟩ := bal_split k r a (by omega) h3
          have := balR_comp (r := r) (o := 1) 1 (Nat.le_refl _) h3
          rw [if_neg (by decide), hm] at this
          obtain ⟨b, hb, hb2⟩ := Option.map_eq_some_iff.mp this.symm
          obtain ⟨w2, b2, e2⟩ := bal_split k (r.drop a) b (by rw [List.length_drop]; omega) hb
          rw [List.drop_drop] at e2
          refine ⟨40 :: w1 ++ 41 :: w2, .pair b1 b2, ?_⟩
          have e3 : (c :: r).drop (m + 1) = r.drop (a + b) := by rw [List.drop_succ_cons]; congr 1; omega
          rw [e3, h2]
          conv => lhs; rw [e1, e2]
          simp
      · rw [if_neg h2] at h
        obtain ⟨m, hm, rfl⟩ := Option.map_eq_some_iff.mp h
        obtain ⟨w, b, e⟩ := bal_split k r m (by omega) hm
        refine ⟨c :: w, .other h2 h1 b, ?_⟩
        rw [List.drop_succ_cons]
        conv => lhs; rw [e]
        rfl
theorem repl_dec (r : List Int) : Dec r (Mine.repl r).1 (Mine.repl r).2 := by
  refine repl_ind (M := fun r => Dec r (Mine.repl r).1 (Mine.repl r).2) ?_ ?_ ?_ ?_ r
  · rw [Mine.repl]; exact .nil
  · intro c r hc ih; rw [repl_keep hc]; exact .keep ih
  · intro r hb ih; rw [repl_keep40 hb]; exact .keep ih
  · intro r n hb ih
    rw [repl_match hb]
    obtain ⟨w, b, e⟩ := bal_split _ r n (Nat.le_refl _) hb
    have : (40 :: r) = 40 :: w ++ 41 :: r.drop n := by rw [List.cons_append, ← e]
    rw [this]
    exact .block b ih
theorem good_append : ∀ {a b : List Int}, Good a → Good b → (40 ∈ a → 41 ∉ b) → Good (a ++ b)
  | [], _, _, hb, _ => hb
  | c :: r, b, ha, hb, h => ⟨fun hc => by
      intro hm
      rcases List.mem_append.mp hm with hm | hm
      · exact ha.1 hc hm
      · exact h (hc ▸ List.mem_cons_self ..) hm, good_append ha.2 hb fun hm => h (List.mem_cons_of_mem _ hm)⟩
theorem mem_behind {r : List Int} : 40 ∈ behindI r → 41 ∈ r := by
  intro h
  unfold behindI at h
  obtain ⟨c, hc, e⟩ := List.mem_map.mp h
  have : c = 41 := by
    unfold swapI at e
    by_cases h1 : c = 40
    · rw [if_pos h1] at e; omega
    · rw [if_neg h1] at e
      by_cases h2 : c = 41
      · exact h2
      · rw [if_neg h2] at e; omega
  exact this ▸ List.mem_reverse.mp hc
theorem good_behind : ∀ {l : List Int}, Good l → Good (behindI l)
  | [], _ => trivial
  | c :: r, h => by
    rw [behind_cons]
    refine good_append (good_behind h.2) ⟨fun _ => by simp, trivial⟩ fun hm h41 => ?_
    have hs : swapI c = 41 := (List.mem_singleton.mp h41).symm
    have hc : c = 40 := by
      unfold swapI at hs
      by_cases h1 : c = 40
      · exact h1
      · rw [if_neg h1] at hs
        by_cases h2 : c = 41
        · rw [if_pos h2] at hs; omega
        · rw [if_neg h2] at hs; omega
    exact h.1 hc (mem_behind hm)
theorem repl_behind (r : List Int) : Mine.repl (behindI r) = (behindI (Mine.repl r).1, (Mine.repl r).2) := (repl_dec r).behind.repl (good_behind (repl_good r))
end

section
-- part D4
theorem mn_append (a b : List Int) : mnI (a ++ b) = min (mnI a) (htI a + mnI b) := by
  induction a with
  | nil => have := mn_le b; simp [mnI, htI]; omega
  | cons c r ih => rw [List.cons_append, mnI, mnI, htI, ih]; omega
theorem ht_append (a b : List Int) : htI (a ++ b) = htI a + htI b := by
  induction a with
  | nil => simp [htI]
  | cons c r ih => rw [List.cons_append, htI, htI, ih]; omega
theorem mn_le_ht : ∀ r : List Int, mnI r ≤ htI r
  | [] => Int.le_refl _
  | c :: r => by have := mn_le_ht r; rw [mnI, htI]; omega
theorem v_le (c : Int) : vI c ≤ 1 := by unfold vI; split <;> (try split) <;> omega
def rot (ks : List Int) (i : Nat) : List Int := ks.drop i ++ ks.take i
/-- a row all of whose beginnings are above the ground -/
def up (t : List Int) : Bool := match t with | [] => false | c :: s => decide (c = 40) && decide (mnI s = 0)
def ups (ks : List Int) : Nat → Int
  | 0 => 0
  | i + 1 => ups ks i + (if up (rot ks i) then 1 else 0)
theorem rot_step {ks : List Int} {i : Nat} (h : i < ks.length) : ∃ c s, rot ks i = c :: s ∧ rot ks (i + 1) = s ++ [c] ∧ htI (ks.take (i + 1)) = htI (ks.take i) + vI c := by
  refine ⟨ks[i], ks.drop (i + 1) ++ ks.take i, ?_, ?_, ?_⟩
  · unfold rot; rw [List.drop_eq_getElem_cons h]; rfl
  · unfold rot; rw [List.take_succ_eq_append_getElem h, List.append_assoc]
  · rw [List.take_succ_eq_append_getElem h, ht_append]; simp [htI]
theorem ups_eq {ks : List Int} (hk : 0 ≤ htI ks) : ∀ i, i ≤ ks.length → ups ks i = mnI (rot ks i) + htI (ks.take i) - mnI ks
  | 0, _ => by simp [ups, rot, htI]
  | i + 1, h => by
    obtain ⟨c, s, e1, e2, e3⟩ := rot_step (ks := ks) (i := i) (by omega)
    rw [ups, ups_eq hk i (by omega), e1, e2, e3]
    have ht : htI (c :: s) = htI ks := by
      rw [← e1]; unfold rot; rw [ht_append, Int.add_comm, ← ht_append, List.take_append_drop]
    rw [htI] at ht
    rw [mn_append, mnI, show mnI [c] = min 0 (vI c + 0) from rfl]
    have h1 := mn_le s
    have h5 := mn_le_ht s
    have h2 := v_le c
    have h3 : up (c :: s) = (decide (c = 40) && decide (mnI s = 0)) := rfl
    rw [h3]
    by_cases hc : c = 40
    · subst hc
      rw [v_40] at ht ⊢
      by_cases hm : mnI s = 0
      · rw [show (decide ((40 : Int) = 40) && decide (mnI s = 0)) = true by simp [hm], if_pos rfl]; omega
      · rw [show (decide ((40 : Int) = 40) && decide (mnI s = 0)) = false by simp [hm], if_neg (by decide)]; omega
    · have h4 : vI c ≤ 0 := by
        by_cases h41 : c = 41
        · subst h41; decide
        · rw [v_other hc h41]; omega
      rw [show (decide (c = 40) && decide (mnI s = 0)) = false by simp [hc], if_neg (by decide)]; omega
theorem ups_all {ks : List Int} (hk : 0 ≤ htI ks) : ups ks ks.length = htI ks := by
  rw [ups_eq hk _ (Nat.le_refl _)]
  unfold rot
  rw [List.drop_length, List.take_length, List.nil_append]
  omega
theorem mn_at : ∀ ks : List Int, ∃ j, j ≤ ks.length ∧ htI (ks.take j) = mnI ks
  | [] => ⟨0, Nat.le_refl _, rfl⟩
  | c :: r => by
    obtain ⟨j, hj, e⟩ := mn_at r
    rw [mnI]
    by_cases h : 0 ≤ vI c + mnI r
    · exact ⟨0, Nat.zero_le _, by simp [htI]; omega⟩
    · exact ⟨j + 1, by rw [List.length_cons]; omega, by rw [List.take_succ_cons, htI, e]; omega⟩
theorem ups_nonneg (ks : List Int) : ∀ i, 0 ≤ ups ks i
  | 0 => Int.le_refl _
  | i + 1 => by have := ups_nonneg ks i; rw [ups]; split <;> omega
theorem ups_mono (ks : List Int) {i : Nat} : ∀ d, ups ks i ≤ ups ks (i + d)
  | 0 => Int.le_refl _
  | d + 1 => by have := ups_mono ks (i := i) d; rw [← Nat.add_assoc, ups]; split <;> omega
theorem bare_exists {ks : List Int} (hk : htI ks = 0) (hne : 0 < ks.length) : ∃ i, i < ks.length ∧ mnI (rot ks i) = 0 := by
  obtain ⟨j, hj, e⟩ := mn_at ks
  have hj' : ∃ j, j < ks.length ∧ htI (ks.take j) = mnI ks := by
    rcases Nat.lt_or_eq_of_le hj with h | h
    · exact ⟨j, h, e⟩
    · subst h
      rw [List.take_length, hk] at e
      exact ⟨0, hne, by rw [← e]; rfl⟩
  obtain ⟨i, hi, e⟩ := hj'
  refine ⟨i, hi, ?_⟩
  have h1 := ups_eq (by omega) i (Nat.le_of_lt hi)
  have h2 := ups_all (ks := ks) (by omega)
  have h3 := ups_mono ks (i := i) (ks.length - i)
  rw [show i + (ks.length - i) = ks.length by omega] at h3
  have h4 := ups_nonneg ks i
  omega
end

section
-- part D5
theorem count_kept (t : List Int) : ((repl t).1.count 41 : Int) = - mnI t := by
  have h0 := mn_le t
  have h : ∀ o : Nat, 1 ≤ o → ((repl t).1.count 41 < o ↔ 1 ≤ (o : Int) + mnI t) := fun o ho => (balR_kept t o ho).symm.trans (balR_none ho)
  have h1 := (h ((repl t).1.count 41 + 1) (by omega)).mp (by omega)
  rcases Nat.eq_zero_or_pos ((repl t).1.count 41) with hz | hp
  · rw [hz] at h1 ⊢
    by_cases hm : mnI t = 0
    · omega
    · have := (h 1 (Nat.le_refl _)).mp (by omega); omega
  · have h2 := h ((repl t).1.count 41) hp
    have h3 : ¬ (1 ≤ ((repl t).1.count 41 : Int) + mnI t) := fun q => absurd (h2.mpr q) (Nat.lt_irrefl _)
    omega
theorem ht_count : ∀ l : List Int, htI l = (l.count 40 : Int) - (l.count 41 : Int)
  | [] => rfl
  | c :: r => by
    rw [htI, ht_count r]
    by_cases h1 : c = 40
    · subst h1; rw [List.count_cons_self, List.count_cons_of_ne (by decide), v_40]; omega
    · by_cases h2 : c = 41
      · subst h2; rw [List.count_cons_self, List.count_cons_of_ne (by decide), v_41]; omega
      · rw [List.count_cons_of_ne (by simpa using h1), List.count_cons_of_ne (by simpa using h2), v_other h1 h2]; omega
theorem Bal.ht {w : List Int} (h : Bal w) : htI w = 0 := by
  induction h with
  | nil => rfl
  | other h1 h2 _ ih => rw [htI, v_other h1 h2, ih]; rfl
  | pair _ _ a b => rw [List.cons_append, htI, ht_append, htI, a, b, v_40, v_41]; rfl
theorem Dec.ht {r l : List Int} {n : Nat} (h : Dec r l n) : htI r = htI l := by
  induction h with
  | nil => rfl
  | keep _ ih => rw [htI, htI, ih]
  | block hw _ ih => rw [List.cons_append, htI, ht_append, htI, hw.ht, ih, v_40, v_41]; omega
theorem find_neg {ks : List Int} {c : Int} : findI ks c < 0 ↔ c ∉ ks := by
  unfold findI
  constructor
  · intro h hm
    obtain ⟨i, hi, e⟩ := List.getElem_of_mem hm
    cases hf : (List.range ks.length).find? (placeI ks c) with
    | some j => rw [hf] at h; dsimp only at h; omega
    | none =>
      have := List.find?_eq_none.mp hf i (List.mem_range.mpr hi)
      exact this (by unfold placeI; rw [List.getElem?_eq_getElem hi, e]; simp)
  · intro h
    cases hf : (List.range ks.length).find? (placeI ks c) with
    | none => decide
    | some j =>
      have := List.find?_some hf
      unfold placeI at this
      exact absurd (List.mem_of_getElem? (eq_of_beq this)) h
def aheadB (t : List Int) : Bool := decide (t.take 1 = [40]) && (decide (findI (repl t).1 41 < 0) && (balAt t 0).isNone)
def bareB (t : List Int) : Bool := decide (findI (repl t).1 40 < 0) && decide (findI (repl t).1 41 < 0)
theorem no41 (t : List Int) : findI (repl t).1 41 < 0 ↔ mnI t = 0 := by
  rw [find_neg, ← List.count_eq_zero]
  have := count_kept t
  omega
theorem ahead_up (t : List Int) : aheadB t = up t := by
  unfold aheadB up
  cases t with
  | nil => simp
  | cons c s =>
    by_cases hc : c = 40
    · subst hc
      have e1 : balAt (40 :: s) 0 = (balR s 1).map (· + 1) := by unfold balAt; simp
      have e2 : (balR s 1 = none) ↔ mnI s = 0 := by
        rw [balR_none (Nat.le_refl _)]; have := mn_le s; omega
      have e3 : mnI (40 :: s) = min 0 (1 + mnI s) := by rw [mnI, v_40]
      rw [e1]
      by_cases hm : mnI s = 0
      · have h3 : findI (repl (40 :: s)).1 41 < 0 := (no41 _).mpr (by rw [e3]; omega)
        rw [e2.mpr hm]
        simp [hm, h3]
      · have : balR s 1 ≠ none := fun h => hm (e2.mp h)
        cases hb : balR s 1 with
        | none => exact absurd hb this
        | some n => simp [hm]
    · have : ¬ ((c :: s).take 1 = [40]) := by simpa using hc
      simp [hc]
theorem bare_ht {t : List Int} (h : bareB t = true) : htI t = 0 := by
  unfold bareB at h
  simp only [Bool.and_eq_true, decide_eq_true_eq] at h
  have h1 := List.count_eq_zero.mpr (find_neg.mp h.1)
  have h2 := List.count_eq_zero.mpr (find_neg.mp h.2)
  rw [(repl_dec t).ht, ht_count, h1, h2]; rfl
theorem bare_of {t : List Int} (hk : htI t = 0) (hm : mnI t = 0) : bareB t = true := by
  unfold bareB
  have h1 := (no41 t).mpr hm
  have h2 := List.count_eq_zero.mpr (find_neg.mp h1)
  have h3 : (repl t).1.count 40 = 0 := by
    have := (repl_dec t).ht
    rw [hk, ht_count, h2] at this
    omega
  have h4 : findI (repl t).1 40 < 0 := find_neg.mpr (List.count_eq_zero.mp h3)
  simp [h1, h4]
def aheads (ks : List Int) : Nat → Int
  | 0 => 0
  | i + 1 => aheads ks i + (if aheadB (rot ks i) then 1 else 0)
def bares (ks : List Int) : Nat → Int
  | 0 => 0
  | i + 1 => bares ks i + (if bareB (rot ks i) then 1 else 0)
theorem aheads_ups (ks : List Int) : ∀ i, aheads ks i = ups ks i
  | 0 => rfl
  | i + 1 => by rw [aheads, ups, aheads_ups ks i, ahead_up]
theorem rot_ht (ks : List Int) (i : Nat) : htI (rot ks i) = htI ks := by
  unfold rot; rw [ht_append, Int.add_comm, ← ht_append, List.take_append_drop]
theorem bares_nonneg (ks : List Int) : ∀ i, 0 ≤ bares ks i
  | 0 => Int.le_refl _
  | i + 1 => by have := bares_nonneg ks i; rw [bares]; split <;> omega
theorem bares_mono (ks : List Int) {i : Nat} : ∀ d, bares ks i ≤ bares ks (i + d)
  | 0 => Int.le_refl _
  | d + 1 => by have := bares_mono ks (i := i) d; rw [← Nat.add_assoc, bares]; split <;> omega
theorem bares_zero {ks : List Int} (h : htI ks ≠ 0) : ∀ i, bares ks i = 0
  | 0 => rfl
  | i + 1 => by
    have : bareB (rot ks i) ≠ true := fun q => h (by rw [← rot_ht ks i]; exact bare_ht q)
    rw [bares, bares_zero h i, if_neg this]; rfl
theorem bares_pos {ks : List Int} (hne : 0 < ks.length) : 0 < bares ks ks.length ↔ htI ks = 0 := by
  constructor
  · intro h
    by_cases hk : htI ks = 0
    · exact hk
    · rw [bares_zero hk] at h; omega
  · intro hk
    obtain ⟨i, hi, hm⟩ := bare_exists hk hne
    have hb := bare_of ((rot_ht ks i).trans hk) hm
    have h1 := bares_mono ks (i := i + 1) (ks.length - (i + 1))
    rw [show i + 1 + (ks.length - (i + 1)) = ks.length by omega, bares, if_pos hb] at h1
    have h2 := bares_nonneg ks i
    omega
theorem ht_behind : ∀ ks : List Int, htI (behindI ks) = - htI ks
  | [] => rfl
  | c :: r => by
    rw [behind_cons, ht_append, ht_behind r, htI, htI, htI]
    have : vI (swapI c) = - vI c := by
      by_cases h1 : c = 40
      · subst h1; rfl
      · by_cases h2 : c = 41
        · subst h2; rfl
        · rw [swap_ne h1 h2, v_other h1 h2]; rfl
    omega
end

section
-- part D6
theorem find_at {ks : List Int} {c : Int} (h : 0 ≤ findI ks c) : ∃ i : Nat, findI ks c = i ∧ ks[i]? = some c := by
  unfold findI at h ⊢
  cases hf : (List.range ks.length).find? (placeI ks c) with
  | none => rw [hf] at h; exact absurd h (by decide)
  | some j =>
    have := List.find?_some hf
    unfold placeI at this
    exact ⟨j, rfl, eq_of_beq this⟩
theorem rfind_at {ks : List Int} {c : Int} (h : 0 ≤ rfindI ks c) : ∃ i : Nat, rfindI ks c = i ∧ ks[i]? = some c := by
  unfold rfindI at h ⊢
  cases hf : (List.range ks.length).reverse.find? (placeI ks c) with
  | none => rw [hf] at h; exact absurd h (by decide)
  | some j =>
    have := List.find?_some hf
    unfold placeI at this
    exact ⟨j, rfl, eq_of_beq this⟩
theorem good_no : ∀ {l : List Int} {i j : Nat}, Good l → l[i]? = some 40 → l[j]? = some 41 → i < j → False
  | [], _, _, _, h, _, _ => by simp at h
  | c :: r, 0, 0, _, _, _, h => by omega
  | c :: r, 0, j + 1, g, h1, h2, _ => g.1 (by simpa using h1) (List.mem_of_getElem? (by simpa using h2))
  | c :: r, i + 1, 0, _, _, _, h => by omega
  | c :: r, i + 1, j + 1, g, h1, h2, h => good_no (i := i) (j := j) g.2 (by simpa using h1) (by simpa using h2) (by omega)
theorem good_order {l : List Int} (g : Good l) (h0 : 0 ≤ findI l 40) (h1 : findI l 40 < rfindI l 41) : False := by
  obtain ⟨i, e1, e2⟩ := find_at h0
  obtain ⟨j, e3, e4⟩ := rfind_at (ks := l) (c := 41) (by omega)
  exact good_no g e2 e4 (by omega)
theorem repl_len (r : List Int) : (repl r).1.length ≤ r.length := by
  refine repl_ind (M := fun r => (repl r).1.length ≤ r.length) ?_ ?_ ?_ ?_ r
  · rw [repl]; exact Nat.le_refl _
  · intro c r hc ih; rw [repl_keep hc]; simpa using ih
  · intro r hb ih; rw [repl_keep40 hb]; simpa using ih
  · intro r n hb ih
    rw [repl_match hb]
    rw [List.length_drop] at ih
    show (repl (r.drop n)).1.length ≤ r.length + 1
    omega
theorem behind_len (r : List Int) : (behindI r).length = r.length := by rw [behindI, List.length_map, List.length_reverse]
theorem rot_len (r : List Int) (i : Nat) : (rot r i).length = r.length := by
  rw [rot, List.length_append, List.length_drop, List.length_take]; omega
theorem ht_rep40 (n : Nat) : htI (List.replicate n 40) = n := by
  induction n with
  | zero => rfl
  | succ n ih => rw [List.replicate_succ, htI, ih, v_40]; omega
theorem ht_rep41 (n : Nat) : htI (List.replicate n 41) = -(n : Int) := by
  induction n with
  | zero => rfl
  | succ n ih => rw [List.replicate_succ, htI, ih, v_41]; omega
theorem ht_xy (n : Nat) : htI (List.take n [120, 121]) = 0 := by
  rcases n with _ | _ | _ | n <;> rfl
theorem ht_signs {r1 r2 r3 : Int} (h1 : 0 ≤ r1) (h2 : 0 ≤ r2) : htI (List.replicate (1 + r1).toNat 40 ++ List.replicate r2.toNat 41 ++ List.take r3.toNat [120, 121]) = 1 + r1 - r2 := by
  rw [ht_append, ht_append, ht_rep40, ht_rep41, ht_xy]; omega
theorem len_signs {r1 r2 r3 : Int} (h1 : 0 ≤ r1) (h1' : r1 < 3) (h2 : 0 ≤ r2) (h2' : r2 < 5) : 0 < (List.replicate (1 + r1).toNat (40 : Int) ++ List.replicate r2.toNat 41 ++ List.take r3.toNat [120, 121]).length ∧ (List.replicate (1 + r1).toNat (40 : Int) ++ List.replicate r2.toNat 41 ++ List.take r3.toNat [120, 121]).length ≤ 9 := by
  simp only [List.length_append, List.length_replicate, List.length_take, List.length_cons, List.length_nil]; omega
end

-- part V1
local macro_rules | `(tactic| kn_code) => `(tactic| (exact CodeHd.keeps (by assumption) (Fr.keep (by assumption))))
theorem mem_off {dx : Addr} {o : Obj} {pre post : List (Addr × Obj)} {p : Addr × Obj} (h : p ∈ pre ++ (dx, o) :: post) (hne : p ≠ (dx, o)) : p ∈ pre ++ post := by
  rcases List.mem_append.mp h with h | h
  · exact List.mem_append_left _ h
  · rcases List.mem_cons.mp h with h | h
    · exact (hne h).elim
    · exact List.mem_append_right _ h
theorem off_of {P : Prop} {c dx : Addr} {news : List (Addr × Obj)} (h : P ∧ AllLt c news) (hl : @LT.lt Nat _ c dx) : ∀ p ∈ news, p.1 ≠ dx := fun p hp => Nat.ne_of_lt (Nat.lt_trans (lt_of_all h.2 p hp) hl)
theorem off_of2 {c dx : Addr} {news : List (Addr × Obj)} (h : ∀ p ∈ news, @LT.lt Nat _ p.1 c) (hl : @LT.lt Nat _ c dx) : ∀ p ∈ news, p.1 ≠ dx := fun p hp => Nat.ne_of_lt (Nat.lt_trans (h p hp) hl)
theorem at_ne {c dx : Addr} {o : Obj} {news : List (Addr × Obj)} (h : ∀ p ∈ news, p.1 ≠ dx) (hm : (c, o) ∈ news) : @Ne Nat c dx := h _ hm
theorem fn_ne_dict {x dx : Addr} {fd : FuncData} {es : List DictEntry} {n : Nat} : (x, fnObj fd) ≠ (dx, dictOf es n) := by
  intro h
  have h2 : (fnObj fd).data = (dictOf es n).data := congrArg Obj.data (congrArg Prod.snd h)
  nomatch h2
theorem replaced_tellsU (w : World) {dp un : Nat} {gd : Option (List Code)} {cn : Str} {cs : Scope} {a : Addr} {ccd : Value} {cl : List (Str × Addr)} {outer : List Env} {A₀ : Around} {base h₀ : Heap} {L : Addr} {m : Str → Option Value} {news : List (Addr × Obj)} {s : Shared}
    {Q E : Value → Shared → Prop} {p : Program} {loose : List Str} {mean : ExcName → Option Value} {mg mb : Str → Option Value} {b : Array UInt8} {t : Tok} {ks : List Int}
    {x dx l1 l2 fe ge c c' cg' : Addr} {fd gfd : FuncData} {co oc ocg : Obj} {k1 k2 k3 k4 k5 k6 k7 k8 pt mt td tl t2 : Tok} {g : Obj → List (Addr × Obj)}
    (hE : EndsTells w b ks x dx fe c c' fd co oc t pt mt k1 k2 k3 k4 k5 k6 k7 k8) (hG : GiveTells w ge cg' gfd ocg)
    (B : Below A₀ base outer h₀) (F : Fr h₀ L s.heap m) (X : (hd.heap_1 w.params).In h₀) (N : News h₀ L s.heap news) (U : UpdF dx (mDict w.params k1 k2 k3 k4 k5 k6 k7 k8 b t pt mt 0 td tl l1 l2) news g) (T : Top p loose mean mg mb h₀) (hk : cs.kind = .function)
    (hdp : dp + 20 < recursionLimit) (hun : un + 600 < cLine) (hb : KBw.bInts b = ks) (hlen : ks.length ≤ 50)
    (hx : (x, instObj 267 dx) ∈ news) (hc : (c, co) ∈ news) (hf : (fe, fnObj fd) ∈ news) (hoc : (c', oc) ∈ news) (hg : (ge, fnObj gfd) ∈ news) (hog : (cg', ocg) ∈ news) (n1 : @Ne Nat c dx) (n2 : @Ne Nat c' dx) (n3 : @Ne Nat cg' dx)
    (ret : ∀ D b' t' tm tq h' tk' td' tl' l1' l2', Fr h₀ L h' m → News h₀ L h' ((D, { cls := .type "tuple", data := .seq #[.bytes b' t', .int ((repl ks).2 : Int) tm] tq }) :: g (mDict w.params k1 k2 k3 k4 k5 k6 k7 k8 b t pt mt 0 td' tl' l1' l2')) → KBw.bInts b' = (repl ks).1 → Q (.ref D) { s with heap := h', toks := tk' }) :
    wpC (model PySem.Challenge.rw_tk0056_01.row.prog w) (ktrTop dp un gd cn cs L a ccd cl outer) (call (.ref 28) [.bytes b t, .int 99 t2, .bool false, .ref fe, .ref ge]) Q E s := by
  obtain ⟨pre, post, rfl, hgg, h1, h2⟩ := U.split
  refine replaced_tells w (news := pre ++ post) (td := td) (tl := tl) (l1 := l1) (l2 := l2) B F X (news_sub N ?_) T hk hdp hun hb hlen (mem_off hx fun h => inst_ne_dict h) (mem_off hc fun h => n1 (congrArg Prod.fst h)) (mem_off hf fn_ne_dict) (mem_off hoc fun h => n2 (congrArg Prod.fst h)) (mem_off hg fn_ne_dict)
    (mem_off hog fun h => n3 (congrArg Prod.fst h)) ?_ hE hG fun D b' t' tm tq h' tk' td' tl' l1' l2' F' N' hv => ret D b' t' tm tq h' tk' td' tl' l1' l2' F' (news_sub N' ?_) hv
  · exact List.forall_mem_cons.mpr ⟨List.mem_append_right _ (.head _), fun q hq => by
      rcases List.mem_append.mp hq with hq | hq
      · exact List.mem_append_left _ hq
      · exact List.mem_append_right _ (.tail _ hq)⟩
  · intro q hq
    rcases List.mem_append.mp hq with hq | hq
    · exact h1 q hq
    · exact h2 q hq
  · rw [hgg]
    refine List.forall_mem_cons.mpr ⟨.head _, fun q hq => ?_⟩
    rcases List.mem_append.mp hq with hq | hq
    · exact .tail _ (.tail _ (List.mem_append_left _ hq))
    · rcases List.mem_cons.mp hq with rfl | hq
      · exact .tail _ (.head _)
      · exact .tail _ (.tail _ (List.mem_append_right _ hq))
abbrev tab287 (c' : Addr) : Obj := tabObj (#[] ++ #[rawInt ((341 : Nat) : Int), rawInt ((53 : Nat) : Int), .ref c'])
abbrev tupObj (b : Array UInt8) (t : Tok) (n : Int) (tm : Tok) (tq : Nat) : Obj := { cls := .type "tuple", data := .seq #[.bytes b t, .int n tm] tq }
def CodeOk (oc : Obj) (name : Str) : Prop := ∃ vs t, oc.data = .fields vs ∧ vs[1]? = some (.str name t)
local macro_rules | `(tactic| walk_at "call ref") => `(tactic| (
  k_dflt ((show wpAny _ _ (call (Value.ref 285) _ _) _ _ _); refine' law_end_first _ ?k1 ?k2 ?kX ?k4 ?k5 ?kK ?kd ?ku ?kb ?kl ?kc ?kh ?_; (case k1 => k_asm); (case k2 => k_asm); (case kX => k_asm); (case k4 => k_asm); (case k5 => k_asm); (case kK => first | exact rfl | assumption); (case kb => assumption); (case kl => omega); (case kc => kn_code); (case kh => exact List.forall_mem_cons.mpr ⟨by decide, by assumption⟩); (case kd => ktr_room); (case ku => ktr_units); intro fe9 fd9 c9 cc9 co9 oc9 vs9 tq9 x9 dx9 l19 l29 td9 tl9 pt9 mt9 q1 q2 q3 q4 q5 q6 q7 q8 h9 tk9 F9 N9 hR9 hR1 hR2 ho1 ho2 hE9; obtain ⟨r1, r2, r3, r4, r5, r6, r7⟩ := hR9; (k_lt r1); (have ho9 := off_of r1 r3); (try dsimp only); (try k_fold))))
theorem left_first (w : World) {dp un : Nat} {gd : Option (List Code)} {cn : Str} {cs : Scope} {a : Addr} {ccd : Value} {cl : List (Str × Addr)} {outer : List Env} {A₀ : Around} {base h₀ : Heap} {L : Addr} {m : Str → Option Value} {news : List (Addr × Obj)} {s : Shared}
    {Q E : Value → Shared → Prop} {p : Program} {loose : List Str} {mean : ExcName → Option Value} {mg mb : Str → Option Value} {b : Array UInt8} {t : Tok} {ks : List Int}
    (B : Below A₀ base outer h₀) (F : Fr h₀ L s.heap m) (X : (hd.heap_1 w.params).In h₀) (N : News h₀ L s.heap ((280, tabObj #[]) :: (287, tabObj #[]) :: news)) (T : Top p loose mean mg mb h₀) (hk : cs.kind = .function)
    (hdp : dp + 30 < recursionLimit) (hun : un + 900 < cLine) (hb : KBw.bInts b = ks) (hlen : ks.length ≤ 50)
    (codeHd1 : CodeHd h₀ 284 280) (codeHd2 : CodeHd h₀ 291 287) (h280 : ∀ p ∈ news, p.1 ≠ 280) (h287 : ∀ p ∈ news, p.1 ≠ 287)
    (ret : ∀ D b' t' tm tq cE cL ocE ocL h' tk', Fr h₀ L h' m → News h₀ L h' ((D, tupObj b' t' ((repl ks).2 : Int) tm tq) :: (280, tab280 cE) :: (287, tab287 cL) :: (cE, ocE) :: (cL, ocL) :: news) → CodeOk ocE "_law_end.<locals>.ends_at" → CodeOk ocL "_law_left.<locals>.<lambda>" →
      KBw.bInts b' = (repl ks).1 → Q (.ref D) { s with heap := h', toks := tk' }) :
    wpC (model PySem.Challenge.rw_tk0056_01.row.prog w) (ktrTop dp un gd cn cs L a ccd cl outer) (call (.ref 292) [.bytes b t]) Q E s := by
  revert X
  k_fill
  intro X
  refine wpC_call ?_
  w_on
  k_dflt (refine' codeD_C ?k1 ?k2 ?k3 ?k4 ?k5 ?kA ?kF ?kK ?k6 ?k7 ?k8 ?k9 ?kB ?_ ?c2 ?c3 ?c4 ?c5; (case kA => exact rfl); (case kF => exact rfl); (case kK => assumption); (case k1 => k_asm); (case k2 => k_asm); (case k3 => k_asm); (case k4 => k_asm); (case k5 => k_asm); (case k6 => k_is); (case k7 => k_is); (case k8 => ktr_room); (case k9 => exact BindsTo.of_eq rfl); (case c5 => decide); (case kB => exact locs rfl); (case c2 => exact rfl); (case c3 => exact rfl); (case c4 => exact rfl); k_whole; intro g' L' h' FG' F' N' B' X' T' lX; (try k_lt lX); (try dsimp only); (try k_fold))
  refine execs_C (return_C (evalCall_C ?_))
  k_steps
  refine callWithK_C (K := hd.heap_1 w.params) (by k_is) ?_
  k_steps
  (rename EndsTells _ _ _ _ _ _ _ _ _ _ _ _ _ _ _ _ _ _ _ _ _ _ => hE9)
  refine' replaced_tellsU _ hE9 ?hG ?k1 ?k2 ?kX ?k3 ?kU ?k5 ?kK ?kd ?ku hb hlen ?m1 ?m2 ?m3 ?m4 ?m5 ?m6 ?n1 ?n2 ?n3 ?_
  case k1 => k_asm
  case k2 => k_asm
  case kX => k_asm
  case k3 => k_asm
  case kU => k_updF
  case k5 => k_asm
  case kK => exact rfl
  case kd => ktr_room
  case ku => ktr_units
  case m1 => (repeat' (first | assumption | exact List.Mem.head _ | refine List.Mem.tail _ ?_))
  case m2 => (repeat' (first | assumption | exact List.Mem.head _ | refine List.Mem.tail _ ?_))
  case m3 => (repeat' (first | assumption | exact List.Mem.head _ | refine List.Mem.tail _ ?_))
  case m4 => (repeat' (first | assumption | exact List.Mem.head _ | refine List.Mem.tail _ ?_))
  case m5 => exact List.Mem.head _
  case m6 => exact List.Mem.tail _ (List.Mem.head _)
  case n1 => omega
  case n2 => omega
  case n3 => omega
  case hG =>
    clear ret
    unfold GiveTells
    intro dp un gd cn cs a ccd cl outer A₀ base h₀ L m news s Q E p loose mean mg mb i j ti tj B F X N T hk hdp hun hf hcc ret
    refine wpAny_call ?_
    k_dflt (refine' kla_code ?k1 ?k2 ?k3 ?k4 ?k5 ?kA ?kF ?kK ?k6 ?k7 ?k8 ?k9 ?kB ?_ ?c2 ?c3 ?c4 ?c5; (case kA => exact rfl); (case kF => exact rfl); (case kK => assumption); (case k1 => k_asm); (case k2 => k_asm); (case k3 => k_asm); (case k4 => k_asm); (case k5 => k_asm); (case k6 => exact hf); (case k7 => exact codeRec_news N hcc (by assumption) (by assumption)); (case k8 => k_room); (case k9 => exact rfl); (case c5 => decide); (case kB => exact locs rfl); (case c2 => exact rfl); (case c3 => exact rfl); (case c4 => exact rfl); k_whole; intro g' L' h' FG' F' N' B' X' T'; (try dsimp only); (try k_lift B'); (try k_fold))
    k_steps
    (rename Fr _ _ _ _ => F9); (rename News _ _ _ _ => N9)
    exact ret _ _ _ F9 N9
  intro D b' t' tm tq h9 tk9 td9 tl9 l19 l29 F9 N9 hv9
  dsimp only
  k_steps
  (rename Fr _ _ _ _ => F9); (rename News _ _ _ _ => N9)
  refine' ret _ _ _ _ _ _ _ _ _ _ _ F9 (news_sub N9 ?n1) ?q1 ?q2 hv9
  case n1 => exact List.forall_mem_cons.mpr ⟨by repeat' (first | exact List.Mem.head _ | refine List.Mem.tail _ ?_), List.forall_mem_cons.mpr ⟨by repeat' (first | exact List.Mem.head _ | refine List.Mem.tail _ ?_), List.forall_mem_cons.mpr ⟨by repeat' (first | exact List.Mem.head _ | refine List.Mem.tail _ ?_), List.forall_mem_cons.mpr ⟨by repeat' (first | exact List.Mem.head _ | refine List.Mem.tail _ ?_), List.forall_mem_cons.mpr ⟨by repeat' (first | exact List.Mem.head _ | refine List.Mem.tail _ ?_), fun p hp => by repeat' (first | exact hp | refine List.Mem.tail _ ?_)⟩⟩⟩⟩⟩
  case q1 => exact ⟨_, _, by assumption, by assumption⟩
  case q2 => exact ⟨_, _, by assumption, by assumption⟩
local macro_rules | `(tactic| walk_at "call ref") => `(tactic| (
  k_dflt ((show wpAny _ _ (call (Value.ref 285) _ _) _ _ _); refine' law_end_hit _ ?k1 ?k2 ?kX ?k4 ?k5 ?kK ?kd ?ku ?kb ?kl ?kc ?kh ?c1 ?c2 ?c3 ?_; (case k1 => k_asm); (case k2 => k_asm); (case kX => k_asm); (case k4 => k_asm); (case k5 => k_asm); (case kK => first | exact rfl | assumption); (case kb => assumption); (case kl => omega); (case kc => kn_code); (case kh => (repeat' (first | assumption | exact List.Mem.head _ | refine List.Mem.tail _ ?_))); (case c1 => (repeat' (first | assumption | exact List.Mem.head _ | refine List.Mem.tail _ ?_))); (case c2 => assumption); (case c3 => assumption); (case kd => ktr_room); (case ku => ktr_units); intro fe9 fd9 c9 co9 x9 dx9 l19 l29 td9 tl9 pt9 mt9 q1 q2 q3 q4 q5 q6 q7 q8 h9 tk9 F9 N9 hR9 hE9; obtain ⟨r1, r2, r3, r4, r5, r6, r7⟩ := hR9; (have ho9 := off_of2 r1 r3); (try k_lt r1); (try dsimp only); (try k_fold))))
theorem left_hit (w : World) {dp un : Nat} {gd : Option (List Code)} {cn : Str} {cs : Scope} {a : Addr} {ccd : Value} {cl : List (Str × Addr)} {outer : List Env} {A₀ : Around} {base h₀ : Heap} {L : Addr} {m : Str → Option Value} {news : List (Addr × Obj)} {s : Shared}
    {Q E : Value → Shared → Prop} {p : Program} {loose : List Str} {mean : ExcName → Option Value} {mg mb : Str → Option Value} {b : Array UInt8} {t : Tok} {ks : List Int} {cE cL : Addr} {ocE ocL : Obj} {vsE vsL : Array Value} {tE tL : Tok}
    (B : Below A₀ base outer h₀) (F : Fr h₀ L s.heap m) (X : (hd.heap_1 w.params).In h₀) (N : News h₀ L s.heap news) (T : Top p loose mean mg mb h₀) (hk : cs.kind = .function)
    (hdp : dp + 30 < recursionLimit) (hun : un + 900 < cLine) (hb : KBw.bInts b = ks) (hlen : ks.length ≤ 50)
    (codeHd1 : CodeHd h₀ 284 280) (codeHd2 : CodeHd h₀ 291 287) (m280 : (280, tab280 cE) ∈ news) (m287 : (287, tab287 cL) ∈ news) (mE : (cE, ocE) ∈ news) (mL : (cL, ocL) ∈ news) (vE1 : ocE.data = .fields vsE) (vE2 : vsE[1]? = some (.str "_law_end.<locals>.ends_at" tE)) (vL1 : ocL.data = .fields vsL) (vL2 : vsL[1]? = some (.str "_law_left.<locals>.<lambda>" tL))
    (ret : ∀ D b' t' tm tq h' tk', Fr h₀ L h' m → News h₀ L h' ((D, tupObj b' t' ((repl ks).2 : Int) tm tq) :: news) →
      KBw.bInts b' = (repl ks).1 → Q (.ref D) { s with heap := h', toks := tk' }) :
    wpC (model PySem.Challenge.rw_tk0056_01.row.prog w) (ktrTop dp un gd cn cs L a ccd cl outer) (call (.ref 292) [.bytes b t]) Q E s := by
  revert X
  k_fill
  intro X
  refine wpC_call ?_
  w_on
  k_dflt (refine' codeD_C ?k1 ?k2 ?k3 ?k4 ?k5 ?kA ?kF ?kK ?k6 ?k7 ?k8 ?k9 ?kB ?_ ?c2 ?c3 ?c4 ?c5; (case kA => exact rfl); (case kF => exact rfl); (case kK => assumption); (case k1 => k_asm); (case k2 => k_asm); (case k3 => k_asm); (case k4 => k_asm); (case k5 => k_asm); (case k6 => k_is); (case k7 => k_is); (case k8 => ktr_room); (case k9 => exact BindsTo.of_eq rfl); (case c5 => decide); (case kB => exact locs rfl); (case c2 => exact rfl); (case c3 => exact rfl); (case c4 => exact rfl); k_whole; intro g' L' h' FG' F' N' B' X' T' lX; (try k_lt lX); (try dsimp only); (try k_fold))
  refine execs_C (return_C (evalCall_C ?_))
  k_steps
  refine callWithK_C (K := hd.heap_1 w.params) (by k_is) ?_
  k_steps
  (rename EndsTells _ _ _ _ _ _ _ _ _ _ _ _ _ _ _ _ _ _ _ _ _ _ => hE9)
  refine' replaced_tellsU (cg' := cL) (c' := cE) (ocg := ocL) _ hE9 ?hG ?k1 ?k2 ?kX ?k3 ?kU ?k5 ?kK ?kd ?ku hb hlen ?m1 ?m2 ?m3 ?m4 ?m5 ?m6 ?n1 ?n2 ?n3 ?_
  case k1 => k_asm
  case k2 => k_asm
  case kX => k_asm
  case k3 => k_asm
  case kU => k_updF
  case k5 => k_asm
  case kK => exact rfl
  case kd => ktr_room
  case ku => ktr_units
  case m1 => (repeat' (first | assumption | exact List.Mem.head _ | refine List.Mem.tail _ ?_))
  case m2 => (repeat' (first | assumption | exact List.Mem.head _ | refine List.Mem.tail _ ?_))
  case m3 => (repeat' (first | assumption | exact List.Mem.head _ | refine List.Mem.tail _ ?_))
  case m4 => (repeat' (first | exact mE | refine List.Mem.tail _ ?_))
  case m5 => exact List.Mem.head _
  case m6 => (repeat' (first | exact mL | refine List.Mem.tail _ ?_))
  case n1 => omega
  case n2 => exact at_ne (by assumption) mE
  case n3 => exact at_ne (by assumption) mL
  case hG =>
    clear ret
    unfold GiveTells
    intro dp un gd cn cs a ccd cl outer A₀ base h₀ L m news s Q E p loose mean mg mb i j ti tj B F X N T hk hdp hun hf hcc ret
    refine wpAny_call ?_
    k_dflt (refine' kla_code ?k1 ?k2 ?k3 ?k4 ?k5 ?kA ?kF ?kK ?k6 ?k7 ?k8 ?k9 ?kB ?_ ?c2 ?c3 ?c4 ?c5; (case kA => exact rfl); (case kF => exact rfl); (case kK => assumption); (case k1 => k_asm); (case k2 => k_asm); (case k3 => k_asm); (case k4 => k_asm); (case k5 => k_asm); (case k6 => exact hf); (case k7 => exact codeRec_news N hcc vL1 vL2); (case k8 => k_room); (case k9 => exact rfl); (case c5 => decide); (case kB => exact locs rfl); (case c2 => exact rfl); (case c3 => exact rfl); (case c4 => exact rfl); k_whole; intro g' L' h' FG' F' N' B' X' T'; (try dsimp only); (try k_lift B'); (try k_fold))
    k_steps
    (rename Fr _ _ _ _ => F9); (rename News _ _ _ _ => N9)
    exact ret _ _ _ F9 N9
  intro D b' t' tm tq h9 tk9 td9 tl9 l19 l29 F9 N9 hv9
  dsimp only
  k_steps
  (rename Fr _ _ _ _ => F9); (rename News _ _ _ _ => N9)
  refine' ret _ _ _ _ _ _ _ F9 (news_sub N9 ?n1) hv9
  case n1 => exact List.forall_mem_cons.mpr ⟨by repeat' (first | exact List.Mem.head _ | refine List.Mem.tail _ ?_), fun p hp => by repeat' (first | exact hp | refine List.Mem.tail _ ?_)⟩

-- part W1
local macro_rules | `(tactic| walk_at "getMethod bytes") => `(tactic| ((with_reducible show wpAny _ _ (getMethod (Value.bytes _ _) (PySem.Str.ofString "find") _) _ _ _); refine getMethod_bytes Fc.slot_bytes_find Fc.type_bytes_find ?_))
local macro_rules | `(tactic| walk_at "getMethod bytes") => `(tactic| ((with_reducible show wpAny _ _ (getMethod (Value.bytes _ _) (PySem.Str.ofString "rfind") _) _ _ _); refine getMethod_bytes Fc.slot_bytes_rfind Fc.type_bytes_rfind ?_))
local macro_rules | `(tactic| walk_at "call builtin:bytes.find") => `(tactic| ((show wpAny _ _ (call (Value.builtin "bytes.find") [Value.bytes _ _, Value.bytes #[_] _]) _ _ _); refine find_K (by kba_ints2) ?_; intro _ _))
theorem ends_useU {w : World} {b : Array UInt8} {ks : List Int} {x dx fe c c' : Addr} {fd : FuncData} {co oc : Obj} {t pt mt k1 k2 k3 k4 k5 k6 k7 k8 : Tok} (hE : EndsTells w b ks x dx fe c c' fd co oc t pt mt k1 k2 k3 k4 k5 k6 k7 k8)
  {dp un : Nat} {gd : Option (List Code)} {cn : Str} {cs : Scope} {a : Addr} {ccd : Value} {cl : List (Str × Addr)} {outer : List Env} {A₀ : Around} {base h₀ : Heap} {L : Addr} {m : Str → Option Value} {news : List (Addr × Obj)} {s : Shared}
    {Q E : Value → Shared → Prop} {p : Program} {loose : List Str} {mean : ExcName → Option Value} {mg mb : Str → Option Value} {td tl : Tok} {l1 l2 : Addr} {i : Nat} {ti : Tok} {g : Obj → List (Addr × Obj)}
    (B : Below A₀ base outer h₀) (F : Fr h₀ L s.heap m) (X : (hd.heap_1 w.params).In h₀) (N : News h₀ L s.heap news) (U : UpdF dx (mDict w.params k1 k2 k3 k4 k5 k6 k7 k8 b t pt mt 0 td tl l1 l2) news g) (T : Top p loose mean mg mb h₀) (hk : cs.kind = .function)
    (hdp : dp + 15 < recursionLimit) (hun : un + 300 < cLine) (hi : i ≤ ks.length) (hx : (x, instObj 267 dx) ∈ news) (hc : (c, co) ∈ news) (hf : (fe, fnObj fd) ∈ news) (ho : (c', oc) ∈ news) (n1 : @Ne Nat c dx) (n2 : @Ne Nat c' dx)
    (ret : ∀ v h' tk' td' tl' l1' l2', Fr h₀ L h' m → News h₀ L h' (g (mDict w.params k1 k2 k3 k4 k5 k6 k7 k8 b t pt mt 0 td' tl' l1' l2')) → isOpt (balAt ks i) v → Q v { s with heap := h', toks := tk' }) :
    wpAny (model PySem.Challenge.rw_tk0056_01.row.prog w) (ktrTop dp un gd cn cs L a ccd cl outer) (call (.ref fe) [.int i ti]) Q E s := by
  obtain ⟨pre, post, rfl, hgg, h1, h2⟩ := U.split
  refine hE (news := pre ++ post) (td := td) (tl := tl) (l1 := l1) (l2 := l2) B F X (news_sub N ?_) T hk hdp hun hi (mem_off hx fun h => inst_ne_dict h) (mem_off hc fun h => n1 (congrArg Prod.fst h)) (mem_off hf fn_ne_dict) (mem_off ho fun h => n2 (congrArg Prod.fst h))
    ?_ fun v h' tk' td' tl' l1' l2' F' N' hv => ret v h' tk' td' tl' l1' l2' F' (news_sub N' ?_) hv
  · exact List.forall_mem_cons.mpr ⟨List.mem_append_right _ (.head _), fun q hq => by
      rcases List.mem_append.mp hq with hq | hq
      · exact List.mem_append_left _ hq
      · exact List.mem_append_right _ (.tail _ hq)⟩
  · intro q hq
    rcases List.mem_append.mp hq with hq | hq
    · exact h1 q hq
    · exact h2 q hq
  · rw [hgg]
    intro q hq
    rcases List.mem_append.mp hq with hq | hq
    · exact .tail _ (List.mem_append_left _ hq)
    · rcases List.mem_cons.mp hq with rfl | hq
      · exact .head _
      · exact .tail _ (List.mem_append_right _ hq)
theorem bytes_one {b : Array UInt8} {u : UInt8} : (b.toList == [u]) = decide (KBw.bInts b = [(u.toNat : Int)]) := by
  unfold KBw.bInts
  rcases h : b.toList with _ | ⟨x, r⟩
  · simp
  · rcases r with _ | ⟨y, r⟩
    · simp only [List.map_cons, List.map_nil, List.cons.injEq, and_true]
      by_cases e : x = u
      · subst e; simp
      · have e2 : ¬ ((x.toNat : Int) = (u.toNat : Int)) := fun q => e (UInt8.toNat_inj.mp (by omega))
        rw [decide_eq_false e2, Bool.eq_false_iff]
        intro q
        have := eq_of_beq q
        simp at this
        exact e this
    · simp
theorem bytes_40 {b : Array UInt8} : (b.toList == [40]) = decide (KBw.bInts b = [40]) := bytes_one (u := 40)
theorem take_clip {ks : List Int} : List.take (clipAt ks.length 1) ks = ks.take 1 := by
  unfold clipAt
  rcases ks with _ | ⟨x, r⟩
  · simp
  · have e : (max 0 (min (if (1 : Int) < 0 then 1 + ((x :: r).length : Int) else 1) ((x :: r).length : Int))).toNat = 1 := by
      rw [if_neg (by decide), List.length_cons]; omega
    rw [e]
theorem ahead_hit (w : World) {dp un : Nat} {gd : Option (List Code)} {cn : Str} {cs : Scope} {a : Addr} {ccd : Value} {cl : List (Str × Addr)} {outer : List Env} {A₀ : Around} {base h₀ : Heap} {L : Addr} {m : Str → Option Value} {news : List (Addr × Obj)} {s : Shared}
    {Q E : Value → Shared → Prop} {p : Program} {loose : List Str} {mean : ExcName → Option Value} {mg mb : Str → Option Value} {b b2 : Array UInt8} {t t2 : Tok} {ks ls : List Int} {cE : Addr} {ocE : Obj} {vsE : Array Value} {tE : Tok}
    (B : Below A₀ base outer h₀) (F : Fr h₀ L s.heap m) (X : (hd.heap_1 w.params).In h₀) (N : News h₀ L s.heap news) (T : Top p loose mean mg mb h₀) (hk : cs.kind = .function)
    (hdp : dp + 30 < recursionLimit) (hun : un + 900 < cLine) (hb : KBw.bInts b = ks) (hb2 : KBw.bInts b2 = ls) (hlen : ks.length ≤ 50) (hlen2 : ls.length ≤ 50)
    (codeHd1 : CodeHd h₀ 284 280) (m280 : (280, tab280 cE) ∈ news) (mE : (cE, ocE) ∈ news) (vE1 : ocE.data = .fields vsE) (vE2 : vsE[1]? = some (.str "_law_end.<locals>.ends_at" tE))
    (ret : ∀ h' tk', Fr h₀ L h' m → News h₀ L h' news → Q (.bool (decide (ks.take 1 = [40]) && (decide (findI ls 41 < 0) && (balAt ks 0).isNone))) { s with heap := h', toks := tk' }) :
    wpAny (model PySem.Challenge.rw_tk0056_01.row.prog w) (ktrTop dp un gd cn cs L a ccd cl outer) (call (.ref 311) [.bytes b t, .bytes b2 t2]) Q E s := by
  revert X
  k_fill
  intro X
  refine wpAny_call ?_
  w_on
  k_dflt ktr_enter
  k_steps
  · (rename EndsTells _ _ _ _ _ _ _ _ _ _ _ _ _ _ _ _ _ _ _ _ _ _ => hE9); (rename KBw.bInts _ = List.take _ _ => hP9); (rename (_ == _) = true => hQ9); (rename findI _ _ < 0 => hR9)
    refine' ends_useU (i := 0) (c' := cE) hE9 ?k1 ?k2 ?kX ?k3 ?kU ?k4 ?kK ?kd ?ku (Nat.zero_le _) ?m1 ?m2 ?m3 ?m4 ?n1 ?n2 ?_
    case k1 => k_asm
    case k2 => k_asm
    case kX => k_asm
    case k3 => k_asm
    case kU => k_updF
    case k4 => k_asm
    case kK => exact rfl
    case kd => ktr_room
    case ku => ktr_units
    case m1 => (repeat' (first | assumption | exact List.Mem.head _ | refine List.Mem.tail _ ?_))
    case m2 => (repeat' (first | assumption | exact List.Mem.head _ | refine List.Mem.tail _ ?_))
    case m3 => (repeat' (first | assumption | exact List.Mem.head _ | refine List.Mem.tail _ ?_))
    case m4 => (repeat' (first | exact mE | refine List.Mem.tail _ ?_))
    case n1 => omega
    case n2 => exact at_ne (by assumption) mE
    rw [take_clip] at hP9
    have w1 : decide (ks.take 1 = [40]) = true := by rw [← hP9, ← bytes_40]; exact hQ9
    have w2 : decide (findI ls 41 < 0) = true := decide_eq_true hR9
    rw [w1, w2] at ret
    intro v9 h9 tk9 td9 tl9 l19 l29 F9 N9 hv9
    dsimp only
    rcases isOpt_cases hv9 with ⟨e9, ev9⟩ | ⟨n9, t9, e9, ev9⟩ <;> subst ev9
    · k_steps
      (rename Fr _ _ _ _ => F9); (rename News _ _ _ _ => N9)
      rw [e9] at ret
      exact ret _ _ F9 (news_sub N9 fun p hp => by repeat' (first | exact hp | refine List.Mem.tail _ ?_))
    · k_steps
      (rename Fr _ _ _ _ => F9); (rename News _ _ _ _ => N9)
      rw [e9] at ret
      exact ret _ _ F9 (news_sub N9 fun p hp => by repeat' (first | exact hp | refine List.Mem.tail _ ?_))
  · (rename KBw.bInts _ = List.take _ _ => hP9); (rename (_ == _) = true => hQ9); (rename ¬ findI _ _ < 0 => hR9)
    (rename Fr _ _ _ _ => F9); (rename News _ _ _ _ => N9)
    rw [take_clip] at hP9
    have w1 : decide (ks.take 1 = [40]) = true := by rw [← hP9, ← bytes_40]; exact hQ9
    have w2 : decide (findI ls 41 < 0) = false := decide_eq_false hR9
    rw [w1, w2] at ret
    have w3 : decide (findI ls (UInt8.toNat 41 : Nat) < 0) = false := w2
    rw [w3]
    exact ret _ _ F9 N9
  · (rename KBw.bInts _ = List.take _ _ => hP9); (rename (_ == _) = false => hQ9)
    (rename Fr _ _ _ _ => F9); (rename News _ _ _ _ => N9)
    rw [take_clip] at hP9
    have w1 : decide (ks.take 1 = [40]) = false := by rw [← hP9, ← bytes_40]; exact hQ9
    rw [w1] at ret
    have w3 : ((KBy.picked b none (some 1)).toList == [40]) = false := hQ9
    rw [w3]
    exact ret _ _ F9 N9

section
-- part X1
theorem kpr_invA {prog : Program} {w : World} {A : Around} {E : Value → Shared → Prop} {s : Shared} {env : Env} {h₀ : Heap} {x : Str} {body : List Stmt} {Q : Flow → Shared → Prop}
    {r : Addr} {a₀ b₀ : Int} {t₀ u₀ v₀ : Tok} {n : Nat} {m₀ : Str → Option Value} {news : List (Addr × Obj)} (J : List Addr → Nat → (Str → Option Value) → List (Addr × Obj) → Prop)
    (hh : A.handled = none) (hr : IsRange s.heap r a₀ b₀ 1 t₀ u₀ v₀) (hsmall : Builtin.Range.small a₀ b₀ 1 = true) (hn : Builtin.Range.rangeSize a₀ b₀ 1 = (n : Int)) (F : Fr h₀ env.locals s.heap m₀) (N : News h₀ env.locals s.heap news) (hj : J (news.map (·.1)) 0 m₀ news)
    (turn : ∀ (i : Nat) t m₁ nx h tk own, i < n → OwnOff own (news.map (·.1)) → J (news.map (·.1)) i m₁ nx → Fr h₀ env.locals h (fun y => if y = x then some (.int (a₀ + (i : Int)) t) else m₁ y) → News h₀ env.locals h (nx ++ own) →
      wpAny (model prog w) A (execs body env) (InvPostN h₀ env.locals (J (news.map (·.1)) (i + 1)) own (news.map (·.1)) { s with heap := h, toks := tk } Q) E { s with heap := h, toks := tk })
    (done : ∀ m₁ nx h tk, J (news.map (·.1)) n m₁ nx → Fr h₀ env.locals h m₁ → News h₀ env.locals h nx → Q .next { s with heap := h, toks := tk }) :
    wpAny (model prog w) A (pyIter (.ref r)) (fun it s₂ => LoopAtV prog w A h₀ env x body Q E it s₂) E s := by
  refine kpr_invN (J (news.map (·.1))) hh hr hsmall hn F N hj (fun i k t m₁ nx h tk own hk hoff hJ F' N' => ?_) fun m₁ nx h tk hJ F' N' => done m₁ nx h tk (by rw [rangeKs_length] at hJ; exact hJ) F' N'
  have hi : i < n := by have := (List.getElem?_eq_some_iff.mp hk).1; rwa [rangeKs_length] at this
  have e : (rangeKs a₀ n)[i]? = some (a₀ + (i : Int)) := by simp [rangeKs, hi]
  rw [e] at hk
  cases hk
  exact turn i t m₁ nx h tk own hi hoff hJ F' N'
theorem slice_one {ks : List Int} {i : Nat} (h : i < ks.length) : List.take (clipAt ks.length ((i : Int) + 1) - min i ks.length) (List.drop (min i ks.length) ks) = [ks.getD i 0] := by
  have e1 : clipAt ks.length ((i : Int) + 1) = i + 1 := by
    unfold clipAt
    rw [if_neg (by omega)]
    omega
  have e2 : min i ks.length = i := by omega
  have e3 : ks.drop i = ks.getD i 0 :: ks.drop (i + 1) := by
    rw [List.drop_eq_getElem_cons h, List.getD_eq_getElem?_getD, List.getElem?_eq_getElem h]; rfl
  rw [e1, e2, e3, show i + 1 - i = 1 by omega]
  rfl
def DueJ (prog : Program) (w : World) (ks : List Int) (b : Array UInt8) (t : Tok) (news : List (Addr × Obj)) (adr : List Addr) (i : Nat) (m : Str → Option Value) (nx : List (Addr × Obj)) : Prop :=
  ∃ (P W : Addr) (o : Obj) (kvs : List (Int × Value)) (us : List Value) (e : Nat), nx = (P, o) :: (W, listOf us.toArray e) :: news ∧ IntsAre us (dueSt ks i).1.reverse ∧ us.length ≤ i ∧ (dueSt ks i).2.length ≤ i ∧
    o.IsDictOf (intKind prog w) kvs ∧ PyProof.V.FlatPairs PyData.int kvs (kdfD (dueSt ks i).2) ∧ adr = P :: W :: news.map (·.1) ∧ (P == sysModules) = false ∧ @LT.lt Nat _ W P ∧ (∀ p ∈ news, @LT.lt Nat _ p.1 W) ∧
    ∀ r ∈ [(Str.ofString "waiting", Value.ref W), (Str.ofString "partner", .ref P), (Str.ofString "text", .bytes b t)], m r.1 = some r.2
theorem due_end {prog : Program} {w : World} {ks : List Int} {b : Array UInt8} {t : Tok} {news own led : List (Addr × Obj)} {i : Nat} {h₀ h' : Heap} {L P W : Addr} {m' : Str → Option Value} {o : Obj} {kvs : List (Int × Value)} {us : List Value} {e : Nat} {s₁ : Shared} {tk : Nat}
    (F : Fr h₀ L h' m') (N : News h₀ L h' led) (sub : ∀ p ∈ (P, o) :: (W, listOf us.toArray e) :: (news ++ own), p ∈ led) (hI : IntsAre us (dueSt ks (i + 1)).1.reverse) (hus : us.length ≤ i + 1) (hcl : (dueSt ks (i + 1)).2.length ≤ i + 1)
    (hd : o.IsDictOf (intKind prog w) kvs) (hf : PyProof.V.FlatPairs PyData.int kvs (kdfD (dueSt ks (i + 1)).2)) (hlo : (P == sysModules) = false) (hWP : @LT.lt Nat _ W P) (hnW : ∀ p ∈ news, @LT.lt Nat _ p.1 W)
    (hm : ∀ r ∈ [(Str.ofString "waiting", Value.ref W), (Str.ofString "partner", .ref P), (Str.ofString "text", .bytes b t)], m' r.1 = some r.2) :
    InvEndN h₀ L (DueJ prog w ks b t news (P :: W :: news.map (·.1)) (i + 1)) own (P :: W :: news.map (·.1)) s₁ { s₁ with heap := h', toks := tk } :=
  ⟨h', tk, m', led, (P, o) :: (W, listOf us.toArray e) :: news, rfl, F, N, fun p hp => sub p (by
      rcases List.mem_cons.mp hp with rfl | hp
      · exact .head _
      · rcases List.mem_cons.mp hp with rfl | hp
        · exact .tail _ (.head _)
        · exact .tail _ (.tail _ (List.mem_append_left _ hp))), fun p hp => sub p (.tail _ (.tail _ (List.mem_append_right _ hp))), rfl, P, W, o, kvs, us, e, rfl, hI, hus, hcl, hd, hf, rfl, hlo, hWP, hnW, hm⟩
local macro_rules | `(tactic| walk_at "pyIter ref") => `(tactic| (refine stop_at ?_))
local macro_rules | `(tactic| walk_at "KswEnd") => `(tactic| (refine stop_p ?_))
local macro_rules | `(tactic| walk_at "exec While Compare cons nil") => `(tactic| (refine stop_at ?_))
theorem due_tells (w : World) {dp un : Nat} {gd : Option (List Code)} {cn : Str} {cs : Scope} {a : Addr} {ccd : Value} {cl : List (Str × Addr)} {outer : List Env} {A₀ : Around} {base h₀ : Heap} {L : Addr} {m : Str → Option Value} {news : List (Addr × Obj)} {s : Shared}
    {Q E : Value → Shared → Prop} {p : Program} {loose : List Str} {mean : ExcName → Option Value} {mg mb : Str → Option Value} {b : Array UInt8} {t : Tok} {ks : List Int}
    (B : Below A₀ base outer h₀) (F : Fr h₀ L s.heap m) (X : (hd.heap_1 w.params).In h₀) (N : News h₀ L s.heap news) (T : Top p loose mean mg mb h₀) (hk : cs.kind = .function)
    (hdp : dp + 30 < recursionLimit) (hun : un + 900 < cLine) (hb : KBw.bInts b = ks) (hlen : ks.length ≤ 50)
    (ret : ∀ D b' t' tm tq h' tk', Fr h₀ L h' m → News h₀ L h' ((D, tupObj b' t' ((repl ks).2 : Int) tm tq) :: news) → KBw.bInts b' = (repl ks).1 → Q (.ref D) { s with heap := h', toks := tk' }) :
    wpAny (model PySem.Challenge.rw_tk0056_01.row.prog w) (ktrTop dp un gd cn cs L a ccd cl outer) (call (.ref 299) [.bytes b t]) Q E s := by
  revert X
  k_fill
  intro X
  refine wpAny_call ?_
  w_on
  k_dflt ktr_enter
  k_steps
  unfold Stop
  (rename Fr _ _ _ _ => lF'); (rename News _ _ _ _ => lN'); (rename IsRange _ _ _ _ _ _ _ _ => rgX)
  with_unfolding_all refine' kpr_invA (DueJ PySem.Challenge.rw_tk0056_01.row.prog w ks b t news) (by rfl) rgX ?sm ?sz lF' (news_sub lN' (fun p hp => List.Mem.tail _ hp)) ?j0 ?turn ?done
  case sm => exact small_one (by l_bnd) (by l_bnd) (by l_bnd) (by l_bnd)
  case sz => exact rangeSize_nat _ _
  case j0 =>
    (rename Obj.IsDictOf (intKind _ _) _ [] => hi9); (rename _ ∧ AllLt _ _ => hA9)
    refine ⟨_, _, _, _, [], 0, rfl, .nil, Nat.le_refl _, Nat.le_refl _, hi9, by assumption, rfl, by assumption, ?_, ?_, ?_⟩
    · omega
    · assumption
    · intro r hr
      simp only [List.mem_cons, List.not_mem_nil, or_false] at hr
      rcases hr with rfl | rfl | rfl <;> rfl
  case done =>
    intro m₁ nx h tk hJ F9 N9
    rw [show ((ks.length : Int) - 0).toNat = ks.length by omega] at hJ
    obtain ⟨P, W, o, kvs, us, e, rfl, hI, hus, hcl, hd9, hf9, hadr, hlo, hWP, hnW, hm⟩ := hJ
    clear lF' lN' rgX
    have F8 := fr_put _ F9 hm
    dsimp only [putAll] at F8
    clear F9
    dsimp only
    k_steps
    unfold Stop
    (rename Fr _ _ _ _ => lF'); (rename News _ _ _ _ => lN')
    refine' ksw_while (σ := Nat × Nat × Array UInt8 × Tok × Tok × Tok) (fun _ => (P, o) :: (W, listOf us.toArray e) :: news) (fun c => [(Str.ofString "at", .int c.1 c.2.2.2.1), (Str.ofString "many", .int c.2.1 c.2.2.2.2.1), (Str.ofString "left", .bytes c.2.2.1 c.2.2.2.2.2)]) (fun _ => True) []
      (fun c => c.1 ≤ ks.length ∧ c.2.2.1.size ≤ c.1 ∧ c.2.1 ≤ c.1 ∧ KBw.bInts c.2.2.1 ++ (repl (ks.drop c.1)).1 = (repl ks).1 ∧ c.2.1 + (repl (ks.drop c.1)).2 = (repl ks).2) (fun c => ks.length - c.1) (0, 0, #[], _, _, _) lF' (fun p hp => lN' p (.tail _ hp)) trivial ?kk ?kp ?_
    case kk => intro q hq; simp only [List.mem_cons, List.not_mem_nil, or_false] at hq; rcases hq with rfl | rfl | rfl <;> rfl
    case kp => exact ⟨Nat.zero_le _, Nat.le_refl _, Nat.le_refl _, by simp [show KBw.bInts #[] = [] from rfl], by simp⟩
    rintro ⟨i, q, f, ti, tm, tf⟩ u h tk _ hP F' N'
    obtain ⟨hi, hfs, hq, e1, e2⟩ := hP
    dsimp only at hi hfs hq e1 e2
    clear lF' lN'
    k_fold
    k_steps
    · unfold Stop
      (rename kdfHas _ _ = true => hh9); (rename Fr _ _ _ _ => F6); (rename News _ _ _ _ => N6)
      dsimp only at hh9 F6
      have hs9 : (balAt ks i).isSome = true := by rw [← due_has]; exact hh9
      obtain ⟨e9, he9⟩ := Option.isSome_iff_exists.mp hs9
      have hlk := due_look he9
      rw [hlk] at F6
      rw [repl_some he9] at e1 e2
      have hgt := balAt_gt he9
      refine' ksw_end (e9, q + 1, f, _, _, _) F6 N6 (fun _ hp => List.Mem.tail _ hp) trivial ?kk1 ?kr1 ?kp1 ?km1
      case kk1 => intro q hq; simp only [List.mem_cons, List.not_mem_nil, or_false] at hq; rcases hq with rfl | rfl | rfl <;> rfl
      case kr1 =>
        intro z h2 h3
        have z1 : z ≠ Str.ofString "at" := h2 _ (.head _)
        have z2 : z ≠ Str.ofString "many" := h2 _ (.tail _ (.head _))
        have z3 : z ≠ Str.ofString "left" := h2 _ (.tail _ (.tail _ (.head _)))
        simp only [kstB, if_neg z1, if_neg z2, if_neg z3, h3, Bool.false_eq_true, if_false]
      case kp1 => exact ⟨hgt.2, by dsimp only; omega, by dsimp only; omega, e1, by dsimp only at e2 ⊢; omega⟩
      case km1 => dsimp only; omega
    · dsimp only
      k_steps
      (rename KBw.bInts _ = List.take _ _ => hP9); (rename kdfHas _ _ = false => hh9)
      dsimp only at hh9
      have hik : i < ks.length := by omega
      have hsl := hP9.trans (slice_one hik)
      have hbn : balAt ks i = none := by
        have := due_has (ks := ks) (i := i)
        rw [hh9] at this
        cases hz : balAt ks i with
        | none => rfl
        | some e => rw [hz] at this; cases this
      rw [repl_none hbn hik] at e1 e2
      refine KBa.add_K rfl hsl (by rw [KBw.ints_length]; simp; omega) fun t9 kk9 hap => ?_
      have hsz := KBw.ints_length (KBy.picked b (some (i : Int)) (some ((i : Int) + 1)))
      rw [hsl] at hsz
      k_steps
      unfold Stop
      (rename Fr _ _ _ _ => F6); (rename News _ _ _ _ => N6)
      refine' ksw_end (i + 1, q, _, _, _, _) F6 N6 (fun _ hp => List.Mem.tail _ hp) trivial ?kk2 ?kr2 ?kp2 ?km2
      case kk2 => intro q hq; simp only [List.mem_cons, List.not_mem_nil, or_false] at hq; rcases hq with rfl | rfl | rfl <;> rfl
      case kr2 =>
        intro z h2 h3
        have z1 : z ≠ Str.ofString "at" := h2 _ (.head _)
        have z2 : z ≠ Str.ofString "many" := h2 _ (.tail _ (.head _))
        have z3 : z ≠ Str.ofString "left" := h2 _ (.tail _ (.tail _ (.head _)))
        simp only [kstB, if_neg z1, if_neg z2, if_neg z3, h3, Bool.false_eq_true, if_false]
      case kp2 => exact ⟨by dsimp only; omega, by dsimp only; rw [Array.size_append, ← hsz]; simp; omega, by dsimp only; omega, by dsimp only; rw [hap, List.append_assoc]; exact e1, e2⟩
      case km2 => dsimp only; omega
    · (rename Fr _ _ _ _ => F6); (rename News _ _ _ _ => N6)
      have hi3 : i = ks.length := by omega
      subst hi3
      rw [List.drop_length, repl] at e1 e2
      rw [List.append_nil] at e1
      have e3 : q = (repl ks).2 := e2
      subst e3
      exact ret _ _ _ _ _ _ _ F6 (news_sub N6 (List.forall_mem_cons.mpr ⟨.head _, fun p hp => .tail _ (.tail _ (.tail _ hp))⟩)) e1
  case turn =>
    intro i t1 m₁ nx h tk own hk9 hoff hJ F9 N9
    obtain ⟨P, W, o, kvs, us, e, rfl, hI, hus, hcl, hd9, hf9, hadr, hlo, hWP, hnW, hm⟩ := hJ
    rw [hadr] at hoff ⊢
    clear hadr lF' lN' rgX
    have hik : i < ks.length := by omega
    rw [Int.zero_add] at F9
    have hwm := hm _ (.head _)
    have hpm := hm _ (.tail _ (.head _))
    have htm := hm _ (.tail _ (.tail _ (.head _)))
    have F8 := fr_put [(Str.ofString "at", .int (i : Int) t1), (Str.ofString "waiting", Value.ref W), (Str.ofString "partner", .ref P), (Str.ofString "text", .bytes b t)] F9 (by
      intro r hr
      simp only [List.mem_cons, List.not_mem_nil, or_false] at hr
      rcases hr with rfl | rfl | rfl | rfl
      · exact if_pos rfl
      · exact (if_neg (show Str.ofString "waiting" ≠ Str.ofString "at" by decide)).trans hwm
      · exact (if_neg (show Str.ofString "partner" ≠ Str.ofString "at" by decide)).trans hpm
      · exact (if_neg (show Str.ofString "text" ≠ Str.ofString "at" by decide)).trans htm)
    dsimp only [putAll] at F8
    clear F9
    simp only [List.cons_append] at N9
    have hPo : ∀ p ∈ news ++ own, p.1 ≠ P := fun p hp => by
      rcases List.mem_append.mp hp with hp | hp
      · exact Nat.ne_of_lt (Nat.lt_trans (hnW p hp) hWP)
      · exact hoff p hp P (.head _)
    have hWo : ∀ p ∈ news ++ own, p.1 ≠ W := fun p hp => by
      rcases List.mem_append.mp hp with hp | hp
      · exact Nat.ne_of_lt (hnW p hp)
      · exact hoff p hp W (.tail _ (.head _))
    have hgd : ks.getD (i : Int).toNat 0 = ks.getD i 0 := by rw [Int.toNat_natCast]
    k_steps
    · (rename _ = (40 : Int) => hc9)
      rw [hgd] at hc9
      have st9 : dueSt ks (i + 1) = ((i : Int) :: (dueSt ks i).1, (dueSt ks i).2) := by rw [dueSt, dueStep, if_pos hc9]
      (rename Fr _ _ _ _ => F9); (rename News _ _ _ _ => N9)
      refine append_K F9 N9 (by k_upd) (fun h8 F7 N7 => ?_) (by rw [List.size_toArray, sizeLine_eq]; omega)
      k_steps
      (rename Fr _ _ _ _ => F6); (rename News _ _ _ _ => N6)
      have e1 : us.toArray.push (Value.int i t1) = (us ++ [Value.int i t1]).toArray := by simp
      rw [e1] at N6
      refine due_end F6 N6 (fun p hp => hp) (by rw [st9]; simpa using ksk_snoc hI) (by simp; omega) (by rw [st9]; dsimp only; omega) hd9 (by rw [st9]; exact hf9) hlo hWP hnW (by
        intro r hr
        simp only [List.mem_cons, List.not_mem_nil, or_false] at hr
        rcases hr with rfl | rfl | rfl <;> rfl)
    · (rename _ = (41 : Int) => hc9); (rename decide (_ = []) = true => hn9)
      (rename Fr _ _ _ _ => F6); (rename News _ _ _ _ => N6)
      rw [hgd] at hc9
      have hn8 : (dueSt ks i).1 = [] := by simpa using hn9
      have st9 : dueSt ks (i + 1) = dueSt ks i := by rw [dueSt, dueStep, if_neg (by rw [hc9]; decide), if_pos hc9, hn8]
      refine due_end F6 N6 (by intro p hp; repeat' (first | exact hp | refine List.Mem.tail _ ?_)) (by rw [st9]; exact hI) (by omega) (by rw [st9]; omega) hd9 (by rw [st9]; exact hf9) hlo hWP hnW (by
        intro r hr
        simp only [List.mem_cons, List.not_mem_nil, or_false] at hr
        rcases hr with rfl | rfl | rfl <;> rfl)
    · (rename _ = (41 : Int) => hc9); (rename decide (_ = []) = false => hn9)
      (rename Fr _ _ _ _ => F6); (rename News _ _ _ _ => N6)
      rw [hgd] at hc9
      have hn8 : (dueSt ks i).1 ≠ [] := by simpa using hn9
      obtain ⟨x, tt, hxt⟩ := List.exists_cons_of_ne_nil hn8
      have st9 : dueSt ks (i + 1) = (tt, kdfPut (dueSt ks i).2 x i) := by rw [dueSt, dueStep, if_neg (by rw [hc9]; decide), if_pos hc9, hxt]
      have hl9 := IntsAre.length hI
      refine kpa_pop F6 N6 (by k_upd) hI (by rw [hl9, hxt]; simp) (by rw [sizeLine_eq]; omega) fun h8 t8 F7 N7 hI7 => ?_
      rw [hxt] at hI7
      have hx9 : ((dueSt ks i).1.reverse).getLastD 0 = x := by rw [hxt]; simp
      rw [hx9]
      have hI8 : IntsAre us.dropLast tt.reverse := by simpa using hI7
      clear F6 N6
      k_steps
      (rename Fr _ _ _ _ => F6); (rename News _ _ _ _ => N6); (rename Obj.IsDictOf (intKind _ _) _ _ => hd6); (rename PyProof.V.FlatPairs PyData.int _ _ => hf6)
      refine due_end F6 N6 (by intro p hp; repeat' (first | exact hp | refine List.Mem.tail _ ?_)) (by rw [st9]; exact hI8) (by rw [List.length_dropLast]; omega) (by rw [st9]; exact Nat.le_trans (kdfPut_len _ _ _) (by omega)) hd6 (by rw [st9]; exact hf6) hlo hWP hnW (by
        intro r hr
        simp only [List.mem_cons, List.not_mem_nil, or_false] at hr
        rcases hr with rfl | rfl | rfl <;> rfl)
    · (rename ¬ _ = (41 : Int) => hc9); (rename ¬ _ = (40 : Int) => hc8)
      (rename Fr _ _ _ _ => F6); (rename News _ _ _ _ => N6)
      rw [hgd] at hc9 hc8
      have st9 : dueSt ks (i + 1) = dueSt ks i := by rw [dueSt, dueStep, if_neg hc8, if_neg hc9]
      refine due_end F6 N6 (by intro p hp; repeat' (first | exact hp | refine List.Mem.tail _ ?_)) (by rw [st9]; exact hI) (by omega) (by rw [st9]; omega) hd9 (by rw [st9]; exact hf9) hlo hWP hnW (by
        intro r hr
        simp only [List.mem_cons, List.not_mem_nil, or_false] at hr
        rcases hr with rfl | rfl | rfl <;> rfl)
end

section
-- part Y1
theorem told_tells (w : World) {dp un : Nat} {gd : Option (List Code)} {cn : Str} {cs : Scope} {a : Addr} {ccd : Value} {cl : List (Str × Addr)} {outer : List Env} {A₀ : Around} {base h₀ : Heap} {L : Addr} {m : Str → Option Value} {news : List (Addr × Obj)} {s : Shared}
    {Q E : Value → Shared → Prop} {p : Program} {loose : List Str} {mean : ExcName → Option Value} {mg mb : Str → Option Value} {bag lst : Addr} {o : Obj} {ws : List Value} {xs : List Int} {e : Nat} {i n : Int} {ti tn ka kb : Tok}
    (B : Below A₀ base outer h₀) (F : Fr h₀ L s.heap m) (X : (hd.heap_1 w.params).In h₀) (N : News h₀ L s.heap ((bag, o) :: (lst, listOf ws.toArray e) :: news)) (T : Top p loose mean mg mb h₀) (hk : cs.kind = .function)
    (hdp : dp + 10 < recursionLimit) (hun : un + 300 < cLine) (hlo : (bag == sysModules) = false) (hd9 : o.IsDictOf (PySem.strKind PySem.Challenge.rw_tk0056_01.row.prog w) (strPairs [(Value.str "all" ka, Value.ref lst), (Value.str "at" kb, Value.int i ti)]))
    (hlb : @LT.lt Nat _ bag lst) (hI : IntsAre ws xs) (hxs : xs.length ≤ 20) (hoff : ∀ p ∈ news, p.1 ≠ bag) (hi0 : 0 ≤ i) (hi1 : i ≤ 100) (hn0 : 0 < n) (hn1 : n ≤ 100)
    (ret : ∀ r tr ti' o' h' tk', 0 ≤ r → r < n → Fr h₀ L h' m → News h₀ L h' ((bag, o') :: (lst, listOf ws.toArray e) :: news) → o'.IsDictOf (PySem.strKind PySem.Challenge.rw_tk0056_01.row.prog w) (strPairs [(Value.str "all" ka, Value.ref lst), (Value.str "at" kb, Value.int (i + 1) ti')]) →
      Q (.int r tr) { s with heap := h', toks := tk' }) :
    wpAny (model PySem.Challenge.rw_tk0056_01.row.prog w) (ktrTop dp un gd cn cs L a ccd cl outer) (call (.ref 278) [.ref bag, .int n tn]) Q E s := by
  revert X
  k_fill
  intro X
  refine wpAny_call ?_
  w_on
  k_dflt ktr_enter
  have hwl := IntsAre.length hI
  k_steps
  dsimp only at *
  k_steps
  all_goals ((rename Fr _ _ _ _ => F9); (rename News _ _ _ _ => N9); (rename Obj.IsDictOf (PySem.strKind _ _) _ _ => hd8); exact ret _ _ _ _ _ _ (Int.fmod_nonneg_of_pos _ hn0) (Int.fmod_lt_of_pos _ hn0) F9 N9 hd8)
theorem told_tellsU (w : World) {dp un : Nat} {gd : Option (List Code)} {cn : Str} {cs : Scope} {a : Addr} {ccd : Value} {cl : List (Str × Addr)} {outer : List Env} {A₀ : Around} {base h₀ : Heap} {L : Addr} {m : Str → Option Value} {news : List (Addr × Obj)} {s : Shared}
    {Q E : Value → Shared → Prop} {p : Program} {loose : List Str} {mean : ExcName → Option Value} {mg mb : Str → Option Value} {bag lst : Addr} {o : Obj} {ws : List Value} {xs : List Int} {e : Nat} {i n : Int} {ti tn ka kb : Tok} {g : Obj → List (Addr × Obj)}
    (B : Below A₀ base outer h₀) (F : Fr h₀ L s.heap m) (X : (hd.heap_1 w.params).In h₀) (N : News h₀ L s.heap news) (U : UpdF bag o news g) (hl : (lst, listOf ws.toArray e) ∈ news) (T : Top p loose mean mg mb h₀) (hk : cs.kind = .function)
    (hdp : dp + 10 < recursionLimit) (hun : un + 300 < cLine) (hlo : (bag == sysModules) = false) (hd9 : o.IsDictOf (PySem.strKind PySem.Challenge.rw_tk0056_01.row.prog w) (strPairs [(Value.str "all" ka, Value.ref lst), (Value.str "at" kb, Value.int i ti)]))
    (hlb : @LT.lt Nat _ bag lst) (hI : IntsAre ws xs) (hxs : xs.length ≤ 20) (hi0 : 0 ≤ i) (hi1 : i ≤ 100) (hn0 : 0 < n) (hn1 : n ≤ 100)
    (ret : ∀ r tr ti' o' h' tk', 0 ≤ r → r < n → Fr h₀ L h' m → News h₀ L h' (g o') → o'.IsDictOf (PySem.strKind PySem.Challenge.rw_tk0056_01.row.prog w) (strPairs [(Value.str "all" ka, Value.ref lst), (Value.str "at" kb, Value.int (i + 1) ti')]) →
      Q (.int r tr) { s with heap := h', toks := tk' }) :
    wpAny (model PySem.Challenge.rw_tk0056_01.row.prog w) (ktrTop dp un gd cn cs L a ccd cl outer) (call (.ref 278) [.ref bag, .int n tn]) Q E s := by
  obtain ⟨pre, post, rfl, hgg, h1, h2⟩ := U.split
  have hne : (lst, listOf ws.toArray e) ≠ (bag, o) := fun h => Nat.ne_of_gt hlb (congrArg Prod.fst h)
  refine told_tells w (news := pre ++ post) (e := e) (ka := ka) (kb := kb) (ti := ti) B F X (news_sub N ?_) T hk hdp hun hlo hd9 hlb hI hxs ?_ hi0 hi1 hn0 hn1 fun r tr ti' o' h' tk' r0 r1 F' N' hd8 => ret r tr ti' o' h' tk' r0 r1 F' (news_sub N' ?_) hd8
  · exact List.forall_mem_cons.mpr ⟨List.mem_append_right _ (.head _), List.forall_mem_cons.mpr ⟨hl, fun q hq => by
      rcases List.mem_append.mp hq with hq | hq
      · exact List.mem_append_left _ hq
      · exact List.mem_append_right _ (.tail _ hq)⟩⟩
  · intro q hq
    rcases List.mem_append.mp hq with hq | hq
    · exact h1 q hq
    · exact h2 q hq
  · rw [hgg]
    intro q hq
    rcases List.mem_append.mp hq with hq | hq
    · exact .tail _ (.tail _ (List.mem_append_left _ hq))
    · rcases List.mem_cons.mp hq with rfl | hq
      · exact .head _
      · exact .tail _ (.tail _ (List.mem_append_right _ hq))
end

section
-- part Z1
local macro_rules | `(tactic| walk_at "getMethod bytes") => `(tactic| ((with_reducible show wpAny _ _ (getMethod (Value.bytes _ _) (PySem.Str.ofString "join") _) _ _ _); refine getMethod_bytes Fc.slot_bytes_join Fc.type_bytes_join ?_))
theorem elt_ground {h₀ h8 h9 : Heap} {L D : Addr} {o : Obj} {m : Str → Option Value} {news : List (Addr × Obj)} (F : Fr h₀ L h8 m) (N : News h₀ L h8 ((D, o) :: news)) (l : ∀ p ∈ news, p.1 < D)
    (hk : ∀ b o, b ∉ [D] → h8.get? b = some o → h9.get? b = some o) : Fr h₀ L h9 m ∧ News h₀ L h9 news :=
  have hD := N _ (.head _)
  ⟨⟨F.ns.at' fun o e => hk _ o (by simpa using Ne.symm hD.2.1) e, fun b o e => hk b o (fun q => by rw [List.mem_singleton.mp q, hD.2.2] at e; cases e) (F.keep b o e), F.above⟩,
    fun p hp => ⟨hk _ _ (by simpa using Nat.ne_of_lt (l p hp)) (N p (.tail _ hp)).1, (N p (.tail _ hp)).2⟩⟩
theorem elt_made_int {prog : Program} {w : World} {h₀ h s₂ : Heap} {L C : Addr} {m m₃ : Str → Option Value} {news : List (Addr × Obj)} {vs : List (Value × Value)} {P : Heap → Prop} (E : InElt s₂ h) (hn : h.Ns C m₃) (F : Fr h₀ L h m) (N : News h₀ L h news) (hbig : h₀.NoLimit) (hk : allIntKeys vs = true) (hnd : ((intKeyPairs vs).map (·.1)).Nodup)
    (k : ∀ h' o, InElt s₂ h' → h'.Ns C m₃ → Fr h₀ L h' m → News h₀ L h' ((h.objs.size, o) :: news) → (∀ p ∈ news, p.1 < h.objs.size) → (h.objs.size == sysModules) = false → o.IsDictOf (PySem.intKind prog w) (intKeyPairs vs) → P h') :
    ∃ kvs, Carries (PySem.intKind prog w) vs kvs ∧ (h.push { cls := .type "dict", data := .dict #[] }).DictOf (PySem.intKind prog w) h.objs.size [] ∧
      ∀ h', h'.DictOf (PySem.intKind prog w) h.objs.size (merged [] kvs) → Heap.SameBut h.objs.size (h.push { cls := .type "dict", data := .dict #[] }) h' → P h' := by
  obtain ⟨kvs, a, b, c⟩ := made_int (P := fun h' => InElt h h' → P h') F N hk hnd fun h' o F' N' hd e => k h' o (fun b o x => e b o (E b o x)) (hn.at' fun o x => e _ o x) F' N' (fun p hp => Heap.lt_size (N p hp).1) (F.notModules (modules_low hbig)) hd
  exact ⟨kvs, a, b, fun h' hm hs => c h' hm hs fun b o e => by rw [hs.2 b (Nat.ne_of_lt (Heap.lt_size e))]; exact Heap.get?_push_of_some _ e⟩
local macro_rules | `(tactic| walk_at "Exists") => `(tactic| (k_here; (rename InElt _ _ => kE'); (refine elt_made_int kE' (by k_asm) (by k_asm) (by first | k_asm | exact News.nil) (Top.nolimit (by k_asm)) (by rfl) (of_decide_eq_true (by rfl)) ?_; intro h' o' E' n' F' N' l1 lo' hd'; (try k_lt l1))))
theorem nameB_K {M : Model} {A : Around} {E : Value → Shared → Prop} {s : Shared} {h₀ : Heap} {L : Addr} {m mg mb : Str → Option Value} {env : Env} {p : Program} {loose : List Str} {mean : ExcName → Option Value} {K : Frag} {x : Str} {pos : Pos} {v : Value} {Q : Value → Shared → Prop} (F : Fr h₀ L s.heap m) (X : K.In h₀) (T : Top p loose mean mg mb h₀)
    (e : nsIn K mainGlobals x = some none) (hv : bootBuiltins x = some v) (h : Q v s) (hg : env.globals = mainGlobals) (hb : env.builtins = builtinsNs) (hk : env.scope.kind = .function) (hx : env.kindOf x = some .globalImplicit) (hd : (x == ("__debug__" : Str)) = false)
    (hn : x ≠ "__name__") :
    wpAny M A (eval (.Name x pos) env) Q E s :=
  Name_function_global hk hx (loadGlobal_builtin (env := env) (by rw [hg]; exact T.g.keeps F.keep) (mg_none_of X T.g e) (by rw [hb]; exact T.b.keeps F.keep) ((T.builtins x hn).trans hv) h) hd
theorem elt_list {M : Model} {A : Around} {E : Value → Shared → Prop} {s : Shared} {h₀ s₂ : Heap} {L C : Addr} {m m₃ : Str → Option Value} {news : List (Addr × Obj)} {vs : List Value} {Q : Value → Shared → Prop} (kE : InElt s₂ s.heap) (hn : s.heap.Ns C m₃) (F : Fr h₀ L s.heap m) (N : News h₀ L s.heap news) (hz : vs.length ≤ sizeLine)
    (h : ∀ D h', InElt s₂ h' → h'.Ns C m₃ → Fr h₀ L h' m → News h₀ L h' ((D, listOf vs.toArray 0) :: news) → Q (.ref D) { s with heap := h' }) : wpAny M A (newList vs) Q E s :=
  newList_NK F N (fun h' F' N' hk => h _ h' (fun b o x => hk b o (kE b o x)) (hn.at' fun o x => hk _ o x) F' N') hz
theorem elt_bytes {prog : Program} {w : World} {A : Around} {E : Value → Shared → Prop} {s : Shared} {h₀ s₂ : Heap} {L C D : Addr} {m m₃ : Str → Option Value} {news : List (Addr × Obj)} {k : Int} {t : Tok} {Q : Value → Shared → Prop} (kE : InElt s₂ s.heap) (hn : s.heap.Ns C m₃) (F : Fr h₀ L s.heap m) (N : News h₀ L s.heap ((D, listOf #[.int k t] 0) :: news)) (hh : A.handled = none) (h0 : 0 ≤ k) (h1 : k < 256)
    (h : ∀ b t' h' tk, KBw.bInts b = [k] → InElt s₂ h' → h'.Ns C m₃ → Fr h₀ L h' m → News h₀ L h' ((D, listOf #[.int k t] 0) :: news) → Q (.bytes b t') { s with heap := h', toks := tk }) : wpAny (model prog w) A (call (.type "bytes") [.ref D]) Q E s :=
  call_bytes_ints (vs := [.int k t]) (ns := [k]) ⟨_, (N _ (.head _)).1, rfl, 0, rfl⟩ (.cons k t .nil) (fun n hn => by rw [List.mem_singleton.mp hn]; exact ⟨h0, h1⟩) (by rw [sizeLine_eq]; exact Nat.le_of_ble_eq_true rfl) hh fun h' t' tk hk => h _ t' h' tk (KBa.ints_make (fun n hn => by rw [List.mem_singleton.mp hn]; exact ⟨h0, h1⟩)) (fun b o x => hk b o (kE b o x)) (hn.at' fun o x => hk _ o x) (F.keptAll hk) (N.grown hk)
theorem elt_get {prog : Program} {w : World} {A : Around} {E : Value → Shared → Prop} {s : Shared} {d : Addr} {kvs : List (Int × Value)} {i : Int} {t : Tok} {dflt : Value} {Q : Value → Shared → Prop} (hd : s.heap.DictOf (PySem.intKind prog w) d kvs) (lo : (d == sysModules) = false)
    (h : Q ((valueAt kvs i).getD dflt) { s with toks := s.toks + 1 }) : wpAny (model prog w) A (call (.builtin "dict.get") [.ref d, .int i t, dflt]) Q E s :=
  call_meetsIn PySem.F.slot_dict_get hd.typeIs PySem.F.entry_dict_get (PySem.F.args_dict_get_3 _ _ _) (meets_dict_get_default (PySem.intKind prog w) d (intKind_is prog w i t) lo dflt) ⟨_, hd.mapOf, h⟩
local macro_rules | `(tactic| walk_at "eval Name") => `(tactic| (k_here; k_inBlock; k_dflt (refine' nameB_K ?F ?X ?T ?e PyProof.Rows.boot_bytes ?_ ?g ?b ?k ?x ?d ?n; (case g => rfl); (case b => rfl); (case k => rfl); (case x => rfl); (case d => decide); (case F => k_asm); (case X => k_asm); (case T => k_asm); (case e => rfl); (case n => decide))))
local macro_rules | `(tactic| walk_at "newList") => `(tactic| (k_here; (rename InElt _ _ => kE'); (refine elt_list kE' (by k_asm) (by k_asm) (by k_asm) (by size_fits) ?_; intro D' h' E' n' F' N')))
theorem swap_at (k : Int) (bb : Array UInt8) (tb t1 t2 t3 t4 : Tok) (hbb : KBw.bInts bb = [k]) : ∃ b2 u2, (valueAt (intKeyPairs [(Value.int 40 t1, Value.bytes #[41] t2), (Value.int 41 t3, Value.bytes #[40] t4)]) k).getD (.bytes bb tb) = .bytes b2 u2 ∧ KBw.bInts b2 = [swapI k] := by
  by_cases h40 : k = 40
  · subst h40; exact ⟨#[41], t2, rfl, rfl⟩
  by_cases h41 : k = 41
  · subst h41; exact ⟨#[40], t4, rfl, rfl⟩
  refine ⟨bb, tb, ?_, by rw [hbb, swapI, if_neg h40, if_neg h41]⟩
  show (valueAt [((40 : Int), Value.bytes #[41] t2), (41, Value.bytes #[40] t4)] k).getD (.bytes bb tb) = _
  simp [valueAt, List.find?, h40, h41, Ne.symm h40, Ne.symm h41]
theorem paired_signs : ∀ (vs ys : List Value), Paired (fun v y => ∃ k tk bb tb, v = Value.int k tk ∧ y = Value.bytes bb tb ∧ KBw.bInts bb = [swapI k]) vs ys → ∀ ks : List Int, vs.length = ks.length → (∀ j v, vs[j]? = some v → ∃ tv, v = Value.int (ks.getD j 0) tv) → SignsAre ys (ks.map swapI) := by
  intro vs ys h
  induction h with
  | nil => intro ks hl _; cases ks with
    | nil => exact .nil
    | cons _ _ => simp at hl
  | cons h r ih =>
    intro ks hl hv
    cases ks with
    | nil => simp at hl
    | cons k ks =>
      obtain ⟨k', tk, bb, tb, e1, e2, e3⟩ := h
      obtain ⟨tv, e4⟩ := hv 0 _ rfl
      subst e2
      rw [e1] at e4
      have e5 : k' = k := by cases e4; rfl
      subst e5
      exact .cons e3 (ih ks (by simpa using hl) fun j v hj => hv (j + 1) v hj)
theorem rev_at {b : Array UInt8} {ks : List Int} (hb : KBw.bInts b = ks) {j : Nat} (hj : j < b.size) : ((b.toList.getD (b.size - 1 - j) 0).toNat : Int) = ks.reverse.getD j 0 := by
  have h1 : b.size - 1 - j < b.size := by omega
  have e1 : ks[b.size - 1 - j]? = some ((b[b.size - 1 - j].toNat : Int)) := by rw [← hb]; exact KBw.ints_get (by simp [h1])
  have hl : ks.length = b.size := by rw [← hb, KBw.ints_length]
  have e2 : ks.reverse[j]? = some ((b[b.size - 1 - j].toNat : Int)) := by rw [List.getElem?_reverse (by omega), hl]; exact e1
  rw [List.getD_eq_getElem?_getD, List.getD_eq_getElem?_getD, e2]
  simp [h1]
theorem rv_K {prog : Program} {w : World} {A : Around} {E : Value → Shared → Prop} {s : Shared} {h₀ : Heap} {L : Addr} {m : Str → Option Value} {news : List (Addr × Obj)} {b : Array UInt8} {t : Tok} {Q : Value → Shared → Prop} (F : Fr h₀ L s.heap m) (N : News h₀ L s.heap news) (hz : b.size ≤ 1000)
    (h : ∀ D h' tk, Fr h₀ L h' m → News h₀ L h' ((D, rvObj b t ((b.size : Int) - 1)) :: news) → (∀ p ∈ news, p.1 < D) → Q (.ref D) { s with heap := h', toks := tk }) : wpAny (model prog w) A (call (.type "reversed") [.bytes b t]) Q E s :=
  call_rv hz fun tk => h _ _ tk (F.push _) (News.push F N _) fun p hp => Heap.lt_size (N p hp).1
theorem behind_tells (w : World) {dp un : Nat} {gd : Option (List Code)} {cn : Str} {cs : Scope} {a : Addr} {ccd : Value} {cl : List (Str × Addr)} {outer : List Env} {A₀ : Around} {base h₀ : Heap} {L : Addr} {m : Str → Option Value} {news : List (Addr × Obj)} {s : Shared}
    {Q E : Value → Shared → Prop} {p : Program} {loose : List Str} {mean : ExcName → Option Value} {mg mb : Str → Option Value} {b : Array UInt8} {t : Tok} {ks : List Int}
    (B : Below A₀ base outer h₀) (F : Fr h₀ L s.heap m) (X : (hd.heap_1 w.params).In h₀) (N : News h₀ L s.heap news) (T : Top p loose mean mg mb h₀) (hk : cs.kind = .function)
    (hdp : dp + 10 < recursionLimit) (hun : un + 300 < cLine) (hb : KBw.bInts b = ks) (hlen : ks.length ≤ 50)
    (ret : ∀ b' t' h' tk', KBw.bInts b' = behindI ks → Fr h₀ L h' m → News h₀ L h' news → Q (.bytes b' t') { s with heap := h', toks := tk' }) :
    wpAny (model PySem.Challenge.rw_tk0056_01.row.prog w) (ktrTop dp un gd cn cs L a ccd cl outer) (call (.ref 304) [.bytes b t]) Q E s := by
  revert X
  k_fill
  intro X
  refine wpAny_call ?_
  w_on
  k_dflt ktr_enter
  have hzb : b.size = ks.length := by rw [← hb, KBw.ints_length]
  k_steps
  (rename Fr _ _ _ _ => F9); (rename News _ _ _ _ => N9)
  refine rv_K F9 N9 (by omega) fun D h9 tk9 F8 N8 lD => ?_
  clear F9 N9
  have hD := N8 _ (.head _)
  have hit : IsRv h9 D b t ((b.size : Int) - 1) := ⟨_, hD.1, rfl, rfl⟩
  refine rv_iter hit ?_
  refine ⟨fun _ => true, fun v y => ∃ k tk bb tb, v = .int k tk ∧ y = .bytes bb tb ∧ KBw.bInts bb = [swapI k], D, [D], [D], b.size, _, _, rfl, rv_walks (t := t) rfl D (by omega), by rw [sizeLine_eq]; omega, ⟨Nat.zero_le _, by simpa using hit⟩, ?_, ⟨?_, ?_⟩, ?_⟩
  · intro a ha
    rw [List.mem_singleton.mp ha]
    exact Heap.lt_size hD.1
  · intro C i v s₃ m₃ E' hP hn hm hk ht
    exact wpAny_pure ⟨rfl, _, _, rfl, fun _ _ e => e⟩
  · rintro C i v s₃ m₃ E' ⟨tv, rfl⟩ - hn hm hk ht
    obtain ⟨F7, N7⟩ := elt_ground F8 N8 lD hk
    have cE9 := InElt.start s₃.heap
    clear F8 N8 hit hD
    k_steps
    have hlt : (0 : Int) ≤ ((b.toList.getD (b.size - 1 - i) 0).toNat : Int) ∧ ((b.toList.getD (b.size - 1 - i) 0).toNat : Int) < 256 := by have := UInt8.toNat_lt (b.toList.getD (b.size - 1 - i) 0); omega
    generalize ((b.toList.getD (b.size - 1 - i) 0).toNat : Int) = k at *
    (rename InElt _ _ => kE); (rename Heap.Ns _ _ _ => kn); (rename Fr _ _ _ _ => F9); (rename News _ _ _ _ => N9)
    refine elt_bytes kE kn F9 N9 rfl hlt.1 hlt.2 fun bb tb h5 tk5 hbb kE5 n5 F5 N5 => ?_
    clear kE kn F9 N9
    k_steps
    refine elt_get (kda_dict N5 (.tail _ (.head _)) (by assumption)) (by assumption) ?_
    obtain ⟨b2, u2, e2, hb2⟩ := swap_at k bb tb _ _ _ _ hbb
    exact ⟨⟨k, tv, b2, u2, rfl, e2, hb2⟩, _, _, rfl, kE5⟩
  · intro D2 h2 tk2 ys vs2 hnD hL hPL hvl hvP hpair hk2
    obtain ⟨F7, N7⟩ := elt_ground F8 N8 lD hk2
    clear F8 N8 hit hD
    have hft : vs2.filter (fun _ => true) = vs2 := by simp
    rw [hft] at hpair
    have hsg : SignsAre ys.toList (behindI ks) := by
      refine paired_signs _ _ hpair ks.reverse (by rw [hvl, List.length_reverse]; omega) fun j v hj => ?_
      obtain ⟨tv, e⟩ := hvP j v hj
      have hjl : j < b.size := by
        rw [← hvl]
        exact (List.getElem?_eq_some_iff.mp hj).1
      refine ⟨tv, e.trans ?_⟩
      rw [rev_at hb hjl]
    k_steps
    refine join_K hL hsg (by rw [behindI, List.length_map, List.length_reverse]; omega) fun b' t' tk' hb' => ?_
    k_steps
    (rename Fr _ _ _ _ => F9); (rename News _ _ _ _ => N9)
    exact ret b' t' _ _ hb' F9 N9
end

section
-- part M1
section
variable {prog : Program} {w : World} {A : Around} {E : Value → Shared → Prop} {s : Shared} {h₀ : Heap} {L l l2 : Addr} {m : Str → Option Value} {news : List (Addr × Obj)} {Q : Value → Shared → Prop}
theorem sl_mul {b : Array UInt8} {t u : Tok} {k x : Int} (F : Fr h₀ L s.heap m) (N : News h₀ L s.heap news) (hl : (l, listOf #[.bytes b t] 0) ∈ news) (hk : KBw.bInts b = [k]) (h0 : 0 ≤ x) (h1 : x ≤ 20)
    (h : ∀ D h' ws, Fr h₀ L h' m → News h₀ L h' ((D, listOf ws.toArray 0) :: news) → (∀ p ∈ news, p.1 < D) → SignsAre ws (List.replicate x.toNat k) → Q (.ref D) { s with heap := h' }) : wpAny (model prog w) A (binaryOp .Mult (.ref l) (.int x u)) Q E s :=
  KMa.mul (vs := [.bytes b t]) F N ⟨_, (N _ hl).1, rfl, 0, rfl⟩ (by omega) (by omega) (by simp; omega) rfl fun D h' F' N' l1 => h D h' _ F' N' l1 (SignsAre.rep hk _)
theorem sl_add {vs ws : List Value} {ks ls : List Int} (F : Fr h₀ L s.heap m) (N : News h₀ L s.heap news) (hl : (l, listOf vs.toArray 0) ∈ news) (hl2 : (l2, listOf ws.toArray 0) ∈ news) (hs : SignsAre vs ks) (ht : SignsAre ws ls) (hz : ks.length + ls.length ≤ 100)
    (h : ∀ D h' us, Fr h₀ L h' m → News h₀ L h' ((D, listOf us.toArray 0) :: news) → (∀ p ∈ news, p.1 < D) → SignsAre us (ks ++ ls) → Q (.ref D) { s with heap := h' }) : wpAny (model prog w) A (binaryOp .Add (.ref l) (.ref l2)) Q E s :=
  kmk_add_lit F N ⟨_, (N _ hl).1, rfl, 0, rfl⟩ ⟨_, (N _ hl2).1, rfl, 0, rfl⟩ rfl (fun D h' F' N' l1 => h D h' _ F' N' l1 (hs.append ht)) (by rw [sizeLine_eq]; show vs.length + ws.length ≤ _; rw [hs.length, ht.length]; omega)
theorem sl_slice {value slice : PySem.Expr} {vs : List Value} {ks : List Int} {n : Int} {t : Tok} (F : Fr h₀ L s.heap m) (N : News h₀ L s.heap news) (hl : (l, listOf vs.toArray 0) ∈ news) (hs : SignsAre vs ks) (h0 : 0 ≤ n) (hn : n ≤ ks.length) (hz : ks.length ≤ 100)
    (h : ∀ D h' us, Fr h₀ L h' m → News h₀ L h' ((D, listOf us.toArray 0) :: news) → (∀ p ∈ news, p.1 < D) → SignsAre us (ks.take n.toNat) → Q (.ref D) { s with heap := h' })
    (hsb : subscripted slice false (.ref l) (.ref s.heap.objs.size) = operate [.ref s.heap.objs.size, .ref l] (getItem (.ref l) (.ref s.heap.objs.size))) (ht : ∀ r, letTemporaryGo value (.ref l) r = pure ()) :
    wpAny (model prog w) A (subscriptTail value slice (.ref l) (.ref s.heap.objs.size)) Q E { s with heap := s.heap.push { cls := .type "slice", data := .fields #[.none, .int n t, .none] } } :=
  kms_slice_lit F N ⟨_, (N _ hl).1, rfl, 0, rfl⟩ .none (.int n t) (by
      show (vs.drop 0).take ((if n < 0 then _ else min n.toNat vs.length) - 0) = vs.take n.toNat
      rw [if_neg (by omega), List.drop_zero, Nat.sub_zero, hs.length, Nat.min_eq_left (by omega)])
    (fun D h' F' N' l1 => h D h' _ F' N' l1 (hs.take _)) hsb ht (by rw [sizeLine_eq, List.size_toArray, hs.length]; omega)
theorem sl_slice' {value slice : PySem.Expr} {vs : List Value} {ks : List Int} {n : Int} {t : Tok} {hp : Heap} {g : Array GenState} {d : Drawn} {tk : Nat} {os : OsState} (F : Fr h₀ L hp m) (N : News h₀ L hp news) (hl : (l, listOf vs.toArray 0) ∈ news) (hs : SignsAre vs ks) (h0 : 0 ≤ n) (hn : n ≤ ks.length) (hz : ks.length ≤ 100)
    (h : ∀ D h' us, Fr h₀ L h' m → News h₀ L h' ((D, listOf us.toArray 0) :: news) → (∀ p ∈ news, p.1 < D) → SignsAre us (ks.take n.toNat) → Q (.ref D) ⟨h', g, d, tk, os⟩)
    (hsb : subscripted slice false (.ref l) (.ref hp.objs.size) = operate [.ref hp.objs.size, .ref l] (getItem (.ref l) (.ref hp.objs.size))) (ht : ∀ r, letTemporaryGo value (.ref l) r = pure ()) :
    wpAny (model prog w) A (subscriptTail value slice (.ref l) (.ref hp.objs.size)) Q E ⟨hp.push { cls := .type "slice", data := .fields #[.none, .int n t, .none] }, g, d, tk, os⟩ :=
  sl_slice (s := ⟨hp, g, d, tk, os⟩) F N hl hs h0 hn hz h hsb ht
theorem seqIndex_in {r : Int} {n : Nat} (h0 : 0 ≤ r) (h1 : r < n) : seqIndex? r n = some r.toNat := by
  unfold seqIndex?
  rw [if_neg (Int.not_lt.mpr h0)]
  rw [if_pos (by rw [Bool.and_eq_true, decide_eq_true_eq, decide_eq_true_eq]; exact ⟨h0, h1⟩)]
theorem updF_at {d : Addr} {o : Obj} (o' : Obj) {l : List (Addr × Obj)} {g : Obj → List (Addr × Obj)} (U : UpdF d o l g) : Upd d o o' l (g o') := by
  induction U with
  | head h => exact .head h
  | tail h _ ih => exact .tail h ih
theorem sl_pop {vs : List Value} {ks : List Int} {e : Nat} {r : Int} {u : Tok} {g : Obj → List (Addr × Obj)} {o : Obj} (F : Fr h₀ L s.heap m) (N : News h₀ L s.heap news) (U : UpdF l o news g) (ho : o = listOf vs.toArray e) (hs : SignsAre vs ks) (h0 : 0 ≤ r) (h1 : r < ks.length) (hz : ks.length ≤ 100)
    (h : ∀ h' b t k us i, i < ks.length → KBw.bInts b = [k] → ks[i]? = some k → SignsAre us (ks.eraseIdx i) → Fr h₀ L h' m → News h₀ L h' (g (listOf us.toArray (e + 1))) → Q (.bytes b t) { s with heap := h' }) : wpAny (model prog w) A (call (.builtin "list.pop") [.ref l, .int r u]) Q E s := by
  subst ho
  have hr : r.toNat < vs.length := by rw [hs.length]; omega
  obtain ⟨p, q, b, t, k, e1, e2, e3, e4⟩ := hs.cut r.toNat hr
  exact kl_popAt F N (by unfold Builtin.List.listFitsIndex; simp; omega) (k := r.toNat) (seqIndex_in h0 (by rw [List.size_toArray, hs.length]; omega)) e1 (updF_at _ U) (by rw [sizeLine_eq]; show vs.length ≤ _; rw [hs.length]; omega) fun h' F' N' => h h' b t k _ r.toNat (by omega) e2 e4 e3 F' N'
end
end

section
-- part M2
section
variable {A : Around} {s : Shared}
theorem rc_bytes (b c : Array UInt8) (t u : Tok) : SeqAt.RcAt A s (.bytes b t) (.bytes c u) (b.toList == c.toList) := fun prog w E Q h =>
  richCompare_gives (typeIs_bytes s b t) (typeIs_bytes s c u) FB.slot_bytes_eq FB.entry_bytes_eq (FB.args_bytes_eq_2 _ _) (gives_bytes_eq b c t u) (fun x => nomatch x) h
theorem eq_bytesAt (b c : Array UInt8) (t u : Tok) : SeqAt.EqAt A s (.bytes b t) (.bytes c u) (b.toList == c.toList) := fun prog w E Q h => by
  unfold eqBool
  refine wpAny_holding ?_
  refine wpAny_ite_split (fun hab => ?_) (fun _ => ?_)
  · have e : b = c := by have := eq_of_beq hab; injection this
    subst e
    exact wpAny_bind (wpAny_rule (wpAny_pure (by simpa using h)))
  · exact wpAny_bind (rc_bytes b c t u prog w E _ (wpAny_truthy_bool h))
theorem bInts_inj {b c : Array UInt8} (h : KBw.bInts b = KBw.bInts c) : b = c := by
  have hl : b.size = c.size := by rw [← KBw.ints_length, ← KBw.ints_length, h]
  apply Array.ext hl
  intro i h1 h2
  have e1 : (KBw.bInts b)[i]? = some ((b[i].toNat : Int)) := KBw.ints_get (by simp [h1])
  have e2 : (KBw.bInts c)[i]? = some ((c[i].toNat : Int)) := KBw.ints_get (by simp [h2])
  rw [h, e2] at e1
  have := Option.some.inj e1
  exact UInt8.toNat_inj.mp (by omega)
variable {prog : Program} {w : World} {E : Value → Shared → Prop} {h₀ : Heap} {L D D2 : Addr} {m : Str → Option Value} {news : List (Addr × Obj)} {Q : Value → Shared → Prop}
theorem tup_ne {b c : Array UInt8} {t u : Tok} {n k : Int} {tn tk tq tr : Tok} (N : News h₀ L s.heap news) (hD : (D, tupObj b t n tn tq) ∈ news) (hD2 : (D2, tupObj c u k tk tr) ∈ news) (hu : A.units < cLine) (hb : KBw.bInts b = KBw.bInts c) (hk : n = k)
    (h : Q (.bool false) s) : wpAny (model prog w) A (compareOp .NotEq (.ref D) (.ref D2)) Q E s := by
  have e := bInts_inj hb
  subst e hk
  refine SeqAt.RcNeAt.tuples (items := #[.bytes b t, .int n tn]) (items2 := #[.bytes b u, .int n tk]) (e := fun _ => true) ⟨_, (N _ hD).1, rfl, _, rfl⟩ ⟨_, (N _ hD2).1, rfl, _, rfl⟩ hu (fun j h1 h2 => ?_) prog w E Q h
  match j, h1, h2 with
  | 0, _, _ => have := eq_bytesAt (A := A.in1) (s := s) b b t u; rw [show (b.toList == b.toList) = true by simp] at this; exact this
  | 1, _, _ => have := SeqAt.EqAt.int_int (A := A.in1) (s := s) n tn n tk; rw [show (n == n) = true by simp] at this; exact this
  | j + 2, h1, _ => exact absurd h1 (by simp)
end
end

section
-- part L1
local macro_rules | `(tactic| walk_at "call ref") => `(tactic| (
  k_dflt ((show wpAny _ _ (call (Value.ref 278) _ _) _ _ _); refine' told_tellsU _ ?k1 ?k2 ?kX ?k4 ?kU ?kl ?k5 ?kK ?kd ?ku ?ko ?kh ?kb ?ki ?kx ?m1 ?m2 ?m3 ?m4 ?_; (case k1 => k_asm); (case k2 => k_asm); (case kX => k_asm); (case k4 => k_asm); (case k5 => k_asm); (case kK => first | exact rfl | assumption); (case kU => k_updF); (case kh => assumption); (case kl => k_mem); (case ko => assumption); (case kb => first | assumption | exact And.left (by assumption)); (case ki => assumption); (case kx => omega); (case m1 => omega); (case m2 => omega); (case m3 => omega); (case m4 => omega); (case kd => ktr_room); (case ku => ktr_units); intro r9 tr9 ti9 o9 h9 tk9 q1 q2 F9 N9 hd9; (try dsimp only); (try k_fold))))
local macro_rules | `(tactic| walk_at "binaryOp Mult ref int") => `(tactic| (k_here; k_dflt (first | (refine' sl_mul (b := #[40]) (k := 40) ?F ?N ?l ?k ?a ?b ?_; (case F => k_asm); (case N => k_asm); (case l => k_mem); (case k => exact rfl); (case a => omega); (case b => omega)) | (refine' sl_mul (b := #[41]) (k := 41) ?F ?N ?l ?k ?a ?b ?_; (case F => k_asm); (case N => k_asm); (case l => k_mem); (case k => exact rfl); (case a => omega); (case b => omega))); intro D' h' ws' F' N' l1 hS'; (try k_lt l1)))
local macro_rules | `(tactic| walk_at "binaryOp Add ref ref") => `(tactic| (k_here; k_dflt (refine' sl_add ?F ?N ?l ?k ?a ?b ?z ?_; (case F => k_asm); (case N => k_asm); (case l => k_mem); (case k => k_mem); (case a => with_reducible assumption); (case b => with_reducible assumption); (case z => (simp only [List.length_append, List.length_replicate, List.length_take, List.length_cons, List.length_nil]; omega))); intro D' h' us' F' N' l1 hS'; (try k_lt l1)))
local macro_rules | `(tactic| walk_at "subscriptTail") => `(tactic| (k_here; k_dflt (refine' sl_slice' (ks := [120, 121]) ?F ?N ?l ?k ?a ?b ?z ?_ ?s ?t; (case F => k_asm); (case N => k_asm); (case l => k_mem); (case k => exact .cons rfl (.cons rfl .nil)); (case a => omega); (case b => (simp only [List.length_cons, List.length_nil]; omega)); (case z => decide); (case s => with_unfolding_all rfl); (case t => kmk_pure)); intro D' h' us' F' N' l1 hS'; (try k_lt l1)))
local macro_rules | `(tactic| walk_at "a key of no step") => `(tactic| fail)
theorem stageA (w : World) {dp un : Nat} {gd : Option (List Code)} {a : Addr} {ccd : Value} {outer : List Env} {A₀ : Around} {base h₀ : Heap} {L : Addr} {news : List (Addr × Obj)} {s : Shared}
    {Q : Flow → Shared → Prop} {E : Value → Shared → Prop} {p : Program} {loose : List Str} {mean : ExcName → Option Value} {mg mb : Str → Option Value} {sc : Addr} {vs : List Value} {zs : List Int}
    (B : Below A₀ base outer h₀) (F : Fr h₀ L s.heap (fun y => if y = "script" then some (.ref sc) else none)) (X : (hd.heap_1 w.params).In h₀) (N : News h₀ L s.heap news) (T : Top p loose mean mg mb h₀)
    (hdp : dp + 100 < recursionLimit) (hun : un + 3000 < cLine) (hsc : h₀.IsList sc vs.toArray) (hI : IntsAre vs zs) (hlen : zs.length ≤ 63)
    (next : ∀ (G J S : Addr) (oG : Obj) (ws us : List Value) (m' : Str → Option Value) (r1 r2 r3 : Int) (to tc tt ka kb ti : Tok) (h' : Heap) (tk' : Nat), Fr h₀ L h' m' →
      oG.IsDictOf (PySem.strKind PySem.Challenge.rw_tk0056_01.row.prog w) (strPairs [(Value.str "all" ka, Value.ref J), (Value.str "at" kb, Value.int 3 ti)]) →
      (∀ r ∈ [(Str.ofString "signs", Value.ref S), (Str.ofString "text", Value.bytes #[] tt), (Str.ofString "opened", .int (1 + r1) to), (Str.ofString "closed", .int r2 tc), (Str.ofString "bag", .ref G)], m' r.1 = some r.2) →
      News h₀ L h' ((G, oG) :: (J, listOf ws.toArray 0) :: (S, listOf us.toArray 0) :: news) → (G == sysModules) = false → @LT.lt Nat _ G J → @LT.lt Nat _ J S → (∀ p ∈ news, @LT.lt Nat _ p.1 G) → 0 ≤ r1 → r1 < 3 → 0 ≤ r2 → r2 < 5 → 0 ≤ r3 → r3 < 3 → IntsAre ws (zs.take 20) →
      SignsAre us (List.replicate (1 + r1).toNat 40 ++ List.replicate r2.toNat 41 ++ List.take r3.toNat [120, 121]) →
      wpC (model PySem.Challenge.rw_tk0056_01.row.prog w) (ktrTop dp un gd lawRec.name lawRec.scope L a ccd [] outer) (execs (lawRec.body.drop 3) (envX lawRec.name lawRec.scope L a ccd [])) Q E { s with heap := h', toks := tk' }) :
    wpC (model PySem.Challenge.rw_tk0056_01.row.prog w) (ktrTop dp un gd lawRec.name lawRec.scope L a ccd [] outer) (execs (lawRec.body.drop 0) (envX lawRec.name lawRec.scope L a ccd [])) Q E s := by
  dsimp only [lawRec, recOf, List.drop] at *
  revert X
  k_fill
  intro X
  w_on
  have hzl := IntsAre.length hI
  refine execs_A ?_
  k_steps
  refine execs_A ?_
  k_steps
  refine execs_A ?_
  k_steps
  (rename Fr _ _ _ _ => F9); (rename News _ _ _ _ => N9); (rename Obj.IsDictOf _ _ _ => hd9)
  refine' next _ _ _ _ _ _ _ _ _ _ _ _ _ _ _ _ _ _ F9 hd9 ?hm ?hN ?h1 ?h2 ?h3 ?h4 ?r1 ?r2 ?r3 ?r4 ?r5 ?r6 ?hi ?hs
  case hm =>
    intro r hr
    simp only [List.mem_cons, List.not_mem_nil, or_false] at hr
    rcases hr with rfl | rfl | rfl | rfl | rfl <;> rfl
  case hs => assumption
  case hi => assumption
  case hN => exact news_sub N9 (List.forall_mem_cons.mpr ⟨by (repeat' (first | exact List.Mem.head _ | refine List.Mem.tail _ ?_)), List.forall_mem_cons.mpr ⟨by (repeat' (first | exact List.Mem.head _ | refine List.Mem.tail _ ?_)), List.forall_mem_cons.mpr ⟨by (repeat' (first | exact List.Mem.head _ | refine List.Mem.tail _ ?_)), fun p hp => by repeat' (first | exact hp | refine List.Mem.tail _ ?_)⟩⟩⟩)
  case h1 => assumption
  case h2 => first | assumption | exact And.left (by assumption)
  case h3 => ((repeat (rename _ ∧ AllLt _ _ => hz; obtain ⟨_, _⟩ := hz)); omega)
  case h4 => assumption
  all_goals assumption
-- part L2
local macro_rules | `(tactic| walk_at "call builtin:list.pop") => `(tactic| (k_here; k_dflt (refine' sl_pop ?F ?N ?U ?o ?S ?a ?b ?z ?_; (case F => k_asm); (case N => k_asm); (case U => k_updF); (case o => exact rfl); (case S => assumption); (case a => omega); (case b => omega); (case z => omega)); intro h' b' t' k' us' i' q1 q2 q3 hS' F' N'))
local macro_rules | `(tactic| walk_at "pyIter ref") => `(tactic| (refine stop_at ?_))
theorem sl_len {prog : Program} {w : World} {A : Around} {E : Value → Shared → Prop} {s : Shared} {h₀ : Heap} {L D : Addr} {news : List (Addr × Obj)} {vs : List Value} {ks : List Int} {n : Nat} {Q : Value → Shared → Prop} (N : News h₀ L s.heap news) (hm : (D, listOf vs.toArray n) ∈ news) (hs : SignsAre vs ks) (hf : ks.length ≤ 100) (h : ∀ t k, Q (.int (ks.length : Nat) t) { s with toks := k }) :
    wpAny (model prog w) A (call (.builtin "len") [.ref D]) Q E s :=
  KM.len_K N hm (by rw [List.size_toArray]; exact hs.length) (by omega) (h _ _)
local macro_rules | `(tactic| walk_at "call builtin:len") => `(tactic| (k_here; k_dflt (refine' sl_len ?N ?l ?S ?z ?_; (case N => k_asm); (case l => k_mem); (case S => assumption); (case z => omega)); intro t' tk'))
def BagJ (prog : Program) (w : World) (n : Nat) (T0 : Int) (ws : List Value) (G J S : Addr) (ka kb to tc : Tok) (op cl : Int) (news : List (Addr × Obj)) (adr : List Addr) (i : Nat) (m : Str → Option Value) (nx : List (Addr × Obj)) : Prop :=
  ∃ (oG : Obj) (us : List Value) (e : Nat) (ks cs : List Int) (b : Array UInt8) (tb ti : Tok), nx = (G, oG) :: (J, listOf ws.toArray 0) :: (S, listOf us.toArray e) :: news ∧ SignsAre us ks ∧ ks.length + i = n ∧ cs.length = i ∧ KBw.bInts b = cs ∧ htI cs + htI ks = T0 ∧
    oG.IsDictOf (PySem.strKind prog w) (strPairs [(Value.str "all" ka, Value.ref J), (Value.str "at" kb, Value.int (3 + (i : Int)) ti)]) ∧ adr = G :: J :: S :: news.map (·.1) ∧
    ∀ r ∈ [(Str.ofString "signs", Value.ref S), (Str.ofString "text", Value.bytes b tb), (Str.ofString "opened", .int op to), (Str.ofString "closed", .int cl tc), (Str.ofString "bag", .ref G)], m r.1 = some r.2
theorem ht_erase : ∀ (ks : List Int) (i : Nat) (k : Int), ks[i]? = some k → htI (ks.eraseIdx i) + vI k = htI ks
  | [], _, _, h => by simp at h
  | c :: r, 0, k, h => by cases h; rw [List.eraseIdx_cons_zero, htI]; omega
  | c :: r, i + 1, k, h => by rw [List.eraseIdx_cons_succ, htI, htI, ← ht_erase r i k h]; omega
theorem bag_end {prog : Program} {w : World} {n i e : Nat} {T0 op cl : Int} {ws us : List Value} {G J S : Addr} {ka kb to tc tb ti : Tok} {news own led : List (Addr × Obj)} {h₀ h' : Heap} {L : Addr} {m' : Str → Option Value} {oG : Obj} {ks cs : List Int} {b : Array UInt8} {s₁ : Shared} {tk : Nat}
    (F : Fr h₀ L h' m') (N : News h₀ L h' led) (sub : ∀ p ∈ (G, oG) :: (J, listOf ws.toArray 0) :: (S, listOf us.toArray e) :: (news ++ own), p ∈ led) (hS : SignsAre us ks) (h1 : ks.length + (i + 1) = n) (hb : KBw.bInts b = cs) (h2 : cs.length = i + 1) (h4 : htI cs + htI ks = T0)
    (hd : oG.IsDictOf (PySem.strKind prog w) (strPairs [(Value.str "all" ka, Value.ref J), (Value.str "at" kb, Value.int (3 + (i : Int) + 1) ti)]))
    (hm : ∀ r ∈ [(Str.ofString "signs", Value.ref S), (Str.ofString "text", Value.bytes b tb), (Str.ofString "opened", .int op to), (Str.ofString "closed", .int cl tc), (Str.ofString "bag", .ref G)], m' r.1 = some r.2) :
    InvEndN h₀ L (BagJ prog w n T0 ws G J S ka kb to tc op cl news (G :: J :: S :: news.map (·.1)) (i + 1)) own (G :: J :: S :: news.map (·.1)) s₁ { s₁ with heap := h', toks := tk } :=
  ⟨h', tk, m', led, (G, oG) :: (J, listOf ws.toArray 0) :: (S, listOf us.toArray e) :: news, rfl, F, N, fun p hp => sub p (by
    rcases List.mem_cons.mp hp with rfl | hp
    · exact .head _
    · rcases List.mem_cons.mp hp with rfl | hp
      · exact .tail _ (.head _)
      · rcases List.mem_cons.mp hp with rfl | hp
        · exact .tail _ (.tail _ (.head _))
        · exact .tail _ (.tail _ (.tail _ (List.mem_append_left _ hp)))), fun p hp => sub p (.tail _ (.tail _ (.tail _ (List.mem_append_right _ hp)))), rfl, oG, us, e, ks, cs, b, tb, ti, rfl, hS, h1, h2, hb, h4, (by rw [show (3 : Int) + ((i + 1 : Nat) : Int) = 3 + (i : Int) + 1 by omega]; exact hd), rfl, hm⟩
theorem stageL (w : World) {dp un : Nat} {gd : Option (List Code)} {a : Addr} {ccd : Value} {outer : List Env} {A₀ : Around} {base h₀ : Heap} {L : Addr} {news : List (Addr × Obj)} {s : Shared}
    {Q : Flow → Shared → Prop} {p : Program} {loose : List Str} {mean : ExcName → Option Value} {mg mb : Str → Option Value} {zs : List Int} {G J S : Addr} {oG : Obj} {ws us : List Value} {ks : List Int} {m : Str → Option Value} {op cl : Int} {to tc tt ka kb ti : Tok}
    (B : Below A₀ base outer h₀) (F : Fr h₀ L s.heap m) (X : (hd.heap_1 w.params).In h₀) (N : News h₀ L s.heap ((G, oG) :: (J, listOf ws.toArray 0) :: (S, listOf us.toArray 0) :: news)) (T : Top p loose mean mg mb h₀)
    (hdp : dp + 100 < recursionLimit) (hun : un + 3000 < cLine) 
    (hd3 : oG.IsDictOf (PySem.strKind PySem.Challenge.rw_tk0056_01.row.prog w) (strPairs [(Value.str "all" ka, Value.ref J), (Value.str "at" kb, Value.int 3 ti)]))
    (hm : ∀ r ∈ [(Str.ofString "signs", Value.ref S), (Str.ofString "text", Value.bytes #[] tt), (Str.ofString "opened", .int op to), (Str.ofString "closed", .int cl tc), (Str.ofString "bag", .ref G)], m r.1 = some r.2)
    (hlo : (G == sysModules) = false) (hGJ : @LT.lt Nat _ G J) (hJS : @LT.lt Nat _ J S) (hnG : ∀ p ∈ news, @LT.lt Nat _ p.1 G) (hI : IntsAre ws zs) (hlen : zs.length ≤ 20) (hS : SignsAre us ks) (hks : ks.length ≤ 9)
    (next : ∀ (cs : List Int) (b : Array UInt8) (tb : Tok) (m' : Str → Option Value) (h' : Heap) (tk' : Nat), Fr h₀ L h' m' → KBw.bInts b = cs → cs.length = ks.length → htI cs = htI ks →
      (∀ r ∈ [(Str.ofString "text", Value.bytes b tb), (Str.ofString "opened", .int op to), (Str.ofString "closed", .int cl tc)], m' r.1 = some r.2) → News h₀ L h' news →
      wpC (model PySem.Challenge.rw_tk0056_01.row.prog w) (ktrTop dp un gd lawRec.name lawRec.scope L a ccd [] outer) (execs (lawRec.body.drop 4) (envX lawRec.name lawRec.scope L a ccd [])) Q (fun _ _ => False) { s with heap := h', toks := tk' }) :
    wpC (model PySem.Challenge.rw_tk0056_01.row.prog w) (ktrTop dp un gd lawRec.name lawRec.scope L a ccd [] outer) (execs (lawRec.body.drop 3) (envX lawRec.name lawRec.scope L a ccd [])) Q (fun _ _ => False) s := by
  have F8 := fr_put _ F hm
  dsimp only [putAll] at F8
  clear F
  dsimp only [lawRec, recOf, List.drop] at *
  revert X
  k_fill
  intro X
  w_on
  have hul := hS.length
  refine execs_A ?_
  k_steps
  unfold Stop
  (rename Fr _ _ _ _ => lF'); (rename News _ _ _ _ => lN'); (rename IsRange _ _ _ _ _ _ _ _ => rgX)
  with_unfolding_all refine' kpr_invA (BagJ PySem.Challenge.rw_tk0056_01.row.prog w ks.length (htI ks) ws G J S ka kb to tc op cl news) (by rfl) rgX ?sm ?sz lF' lN' ?j0 ?turn ?done
  case sm => exact small_one (by l_bnd) (by l_bnd) (by l_bnd) (by l_bnd)
  case sz => exact rangeSize_nat _ _
  case j0 => 
    exact ⟨oG, us, 0, ks, [], #[], tt, ti, rfl, hS, rfl, rfl, rfl, by simp [htI], hd3, rfl, by
      intro r hr
      simp only [List.mem_cons, List.not_mem_nil, or_false] at hr
      rcases hr with rfl | rfl | rfl | rfl | rfl <;> rfl⟩
  case done =>
    intro m₁ nx h tk hJ F9 N9
    rw [show ((ks.length : Int) - 0).toNat = ks.length by omega] at hJ
    obtain ⟨oG, us, e, ks2, cs, b, tb, ti, rfl, hS, h1, h2, h3, h4, hd9, hadr, hm9⟩ := hJ
    have hk0 : ks2 = [] := List.length_eq_zero_iff.mp (by omega)
    subst hk0
    refine next cs b tb m₁ h tk F9 h3 h2 (by simpa [htI] using h4) (fun r hr => ?_) (fun p hp => N9 p (.tail _ (.tail _ (.tail _ hp))))
    simp only [List.mem_cons, List.not_mem_nil, or_false] at hr
    rcases hr with rfl | rfl | rfl
    · exact hm9 _ (.tail _ (.head _))
    · exact hm9 _ (.tail _ (.tail _ (.head _)))
    · exact hm9 _ (.tail _ (.tail _ (.tail _ (.head _))))
  case turn =>
    intro i t1 m₁ nx h tk own hk9 hoff hJ F9 N9
    obtain ⟨oG2, us2, e, ks2, cs, b, tb, ti2, rfl, hS2, h1, h2, h3, h4, hd9, hadr, hm9⟩ := hJ
    rw [hadr] at hoff ⊢
    clear hadr lF' lN' rgX hS hd3 hul
    have hul := hS2.length
    have hik : i < ks.length := by omega
    rw [Int.zero_add] at F9
    have F8 := fr_put [(Str.ofString "turn", .int (i : Int) t1), (Str.ofString "signs", Value.ref S), (Str.ofString "text", Value.bytes b tb), (Str.ofString "opened", .int op to), (Str.ofString "closed", .int cl tc), (Str.ofString "bag", .ref G)] F9 (by
      intro r hr
      simp only [List.mem_cons, List.not_mem_nil, or_false] at hr
      rcases hr with rfl | rfl | rfl | rfl | rfl | rfl
      · exact if_pos rfl
      · exact (if_neg (show Str.ofString "signs" ≠ Str.ofString "turn" by decide)).trans (hm9 _ (.head _))
      · exact (if_neg (show Str.ofString "text" ≠ Str.ofString "turn" by decide)).trans (hm9 _ (.tail _ (.head _)))
      · exact (if_neg (show Str.ofString "opened" ≠ Str.ofString "turn" by decide)).trans (hm9 _ (.tail _ (.tail _ (.head _))))
      · exact (if_neg (show Str.ofString "closed" ≠ Str.ofString "turn" by decide)).trans (hm9 _ (.tail _ (.tail _ (.tail _ (.head _)))))
      · exact (if_neg (show Str.ofString "bag" ≠ Str.ofString "turn" by decide)).trans (hm9 _ (.tail _ (.tail _ (.tail _ (.tail _ (.head _)))))))
    dsimp only [putAll] at F8
    clear F9 hm9
    simp only [List.cons_append] at N9
    have hGo : ∀ p ∈ news ++ own, p.1 ≠ G := fun p hp => by
      rcases List.mem_append.mp hp with hp | hp
      · exact Nat.ne_of_lt (hnG p hp)
      · exact hoff p hp G (.head _)
    have hSo : ∀ p ∈ news ++ own, p.1 ≠ S := fun p hp => by
      rcases List.mem_append.mp hp with hp | hp
      · exact Nat.ne_of_lt (Nat.lt_trans (hnG p hp) (Nat.lt_trans hGJ hJS))
      · exact hoff p hp S (.tail _ (.tail _ (.head _)))
    have hGS : @LT.lt Nat _ G S := Nat.lt_trans hGJ hJS
    k_steps
    (rename Fr _ _ _ _ => F7); (rename News _ _ _ _ => N7); (rename SignsAre _ _ => hS7); (rename Obj.IsDictOf _ _ _ => hd7); (rename KBw.bInts _ = _ ++ _ => hb7); (rename _ = some _ => hk7); (rename @LT.lt Nat _ _ (List.length _) => hi7)
    refine' bag_end (tb := ?tb9) F7 N7 (fun p hp => hp) hS7 ?_ hb7 ?_ ?_ hd7 ?hm9
    case hm9 =>
      intro r hr
      simp only [List.mem_cons, List.not_mem_nil, or_false] at hr
      rcases hr with rfl | rfl | rfl | rfl | rfl <;> rfl
    · rw [List.length_eraseIdx_of_lt (by assumption)]; omega
    · rw [List.length_append, h2]; rfl
    · rw [ht_append]; have := ht_erase _ _ _ hk7; simp only [htI]; omega
end

-- part B1
/-- the ledger behind the first call of _law_left -/
abbrev ledB (D cE cL : Addr) (oD oE oL : Obj) : List (Addr × Obj) := [(D, oD), (280, tab280 cE), (287, tab287 cL), (cE, oE), (cL, oL)]
theorem stageB (w : World) {dp un : Nat} {gd : Option (List Code)} {a : Addr} {ccd : Value} {outer : List Env} {A₀ : Around} {base h₀ : Heap} {L : Addr} {s : Shared}
    {Q : Flow → Shared → Prop} {p : Program} {loose : List Str} {mean : ExcName → Option Value} {mg mb : Str → Option Value} {cs : List Int} {b : Array UInt8} {tb to tc : Tok} {op cl : Int} {m : Str → Option Value}
    (B : Below A₀ base outer h₀) (F : Fr h₀ L s.heap m) (X : (hd.heap_1 w.params).In h₀) (N : News h₀ L s.heap [(280, tabObj #[]), (287, tabObj #[])]) (T : Top p loose mean mg mb h₀)
    (hdp : dp + 100 < recursionLimit) (hun : un + 3000 < cLine) (hb : KBw.bInts b = cs) (hlen : cs.length ≤ 9) (codeHd1 : CodeHd h₀ 284 280) (codeHd2 : CodeHd h₀ 291 287)
    (hm : ∀ r ∈ [(Str.ofString "text", Value.bytes b tb), (Str.ofString "opened", .int op to), (Str.ofString "closed", .int cl tc)], m r.1 = some r.2)
    (next : ∀ D b1 t1 tm tq cE cL ocE ocL m' h' tk', Fr h₀ L h' m' → News h₀ L h' (ledB D cE cL (tupObj b1 t1 ((repl cs).2 : Int) tm tq) ocE ocL) → CodeOk ocE "_law_end.<locals>.ends_at" → CodeOk ocL "_law_left.<locals>.<lambda>" → KBw.bInts b1 = (repl cs).1 →
      (∀ r ∈ [(Str.ofString "left", Value.ref D), (Str.ofString "text", Value.bytes b tb), (Str.ofString "opened", .int op to), (Str.ofString "closed", .int cl tc)], m' r.1 = some r.2) →
      wpC (model PySem.Challenge.rw_tk0056_01.row.prog w) (ktrTop dp un gd lawRec.name lawRec.scope L a ccd [] outer) (execs (lawRec.body.drop 5) (envX lawRec.name lawRec.scope L a ccd [])) Q (fun _ _ => False) { s with heap := h', toks := tk' }) :
    wpC (model PySem.Challenge.rw_tk0056_01.row.prog w) (ktrTop dp un gd lawRec.name lawRec.scope L a ccd [] outer) (execs (lawRec.body.drop 4) (envX lawRec.name lawRec.scope L a ccd [])) Q (fun _ _ => False) s := by
  have F8 := fr_put _ F hm
  dsimp only [putAll] at F8
  clear F hm
  dsimp only [lawRec, recOf, List.drop] at *
  revert X
  k_fill
  intro X
  w_on
  refine execs_C (assign_C (evalCall_C ?_))
  k_steps
  refine callWithK_C (K := hd.heap_1 w.params) (by k_is) ?_
  k_steps
  refine' left_first w (news := []) ?k1 ?k2 ?kX ?kN ?kT rfl ?kd ?ku hb ?kl ?c1 ?c2 ?h1 ?h2 ?_
  case k1 => k_asm
  case k2 => k_asm
  case kX => k_asm
  case kN => k_asm
  case kT => k_asm
  case kd => ktr_room
  case ku => ktr_units
  case kl => omega
  case c1 => assumption
  case c2 => assumption
  case h1 => exact fun _ h => nomatch h
  case h2 => exact fun _ h => nomatch h
  intro D b1 t1 tm tq cE cL ocE ocL h9 tk9 F9 N9 hE hL hb1
  k_steps
  (rename Fr _ _ _ _ => F7); (rename News _ _ _ _ => N7)
  refine' next _ _ _ _ _ _ _ _ _ _ _ _ F7 N7 hE hL hb1 ?hm
  case hm =>
    intro r hr
    simp only [List.mem_cons, List.not_mem_nil, or_false] at hr
    rcases hr with rfl | rfl | rfl | rfl <;> rfl

-- part B2
local macro_rules | `(tactic| walk_at "call ref") => `(tactic| (
  k_dflt ((show wpAny _ _ (call (Value.ref 299) _ _) _ _ _); refine' due_tells _ ?k1 ?k2 ?kX ?k4 ?k5 ?kK ?kd ?ku ?kb ?kl ?_; (case k1 => k_asm); (case k2 => k_asm); (case kX => k_asm); (case k4 => k_asm); (case k5 => k_asm); (case kK => first | exact rfl | assumption); (case kb => assumption); (case kl => omega); (case kd => ktr_room); (case ku => ktr_units); intro D9 b9 t9 tm9 tq9 h9 tk9 F9 N9 hb9; (try dsimp only); (try k_fold))))
local macro_rules | `(tactic| walk_at "compareOp NotEq ref ref") => `(tactic| (k_here; k_dflt (refine' tup_ne ?N ?l ?k ?u ?b ?n ?_; (case N => k_asm); (case l => k_mem); (case k => k_mem); (case u => ktr_units); (case b => simp only [*]); (case n => rfl))))
theorem stageC (w : World) {dp un : Nat} {gd : Option (List Code)} {a : Addr} {ccd : Value} {outer : List Env} {A₀ : Around} {base h₀ : Heap} {L : Addr} {s : Shared}
    {Q : Flow → Shared → Prop} {p : Program} {loose : List Str} {mean : ExcName → Option Value} {mg mb : Str → Option Value} {cs : List Int} {b b1 : Array UInt8} {tb to tc t1 tm : Tok} {tq : Nat} {op cl : Int} {m : Str → Option Value} {D cE cL : Addr} {ocE ocL : Obj}
    (B : Below A₀ base outer h₀) (F : Fr h₀ L s.heap m) (X : (hd.heap_1 w.params).In h₀) (N : News h₀ L s.heap (ledB D cE cL (tupObj b1 t1 ((repl cs).2 : Int) tm tq) ocE ocL)) (T : Top p loose mean mg mb h₀)
    (hdp : dp + 100 < recursionLimit) (hun : un + 3000 < cLine) (hb : KBw.bInts b = cs) (hlen : cs.length ≤ 9) (codeHd1 : CodeHd h₀ 284 280) (codeHd2 : CodeHd h₀ 291 287)
    (hE : CodeOk ocE "_law_end.<locals>.ends_at") (hL : CodeOk ocL "_law_left.<locals>.<lambda>") (hb1 : KBw.bInts b1 = (repl cs).1)
    (hm : ∀ r ∈ [(Str.ofString "left", Value.ref D), (Str.ofString "text", Value.bytes b tb), (Str.ofString "opened", .int op to), (Str.ofString "closed", .int cl tc)], m r.1 = some r.2)
    (next : ∀ m' h' tk', Fr h₀ L h' m' → News h₀ L h' (ledB D cE cL (tupObj b1 t1 ((repl cs).2 : Int) tm tq) ocE ocL) → 
      (∀ r ∈ [(Str.ofString "left", Value.ref D), (Str.ofString "text", Value.bytes b tb), (Str.ofString "opened", .int op to), (Str.ofString "closed", .int cl tc)], m' r.1 = some r.2) →
      wpC (model PySem.Challenge.rw_tk0056_01.row.prog w) (ktrTop dp un gd lawRec.name lawRec.scope L a ccd [] outer) (execs (lawRec.body.drop 6) (envX lawRec.name lawRec.scope L a ccd [])) Q (fun _ _ => False) { s with heap := h', toks := tk' }) :
    wpC (model PySem.Challenge.rw_tk0056_01.row.prog w) (ktrTop dp un gd lawRec.name lawRec.scope L a ccd [] outer) (execs (lawRec.body.drop 5) (envX lawRec.name lawRec.scope L a ccd [])) Q (fun _ _ => False) s := by
  have F8 := fr_put _ F hm
  dsimp only [putAll] at F8
  clear F hm
  dsimp only [lawRec, recOf, List.drop] at *
  revert X
  k_fill
  intro X
  w_on
  refine execs_C (if_C (or_C (isTrue_compare_C (wpC_any ?_))))
  k_steps
  refine wpC_any ?_
  k_steps
  refine or_C (isTrue_compare_C (evalCall_C ?_))
  obtain ⟨vsE, tE, vE1, vE2⟩ := hE
  obtain ⟨vsL, tL, vL1, vL2⟩ := hL
  k_steps
  refine callWithK_C (K := hd.heap_1 w.params) (by k_is) ?_
  k_steps
  refine' left_hit w (cE := cE) (cL := cL) (ocE := ocE) (ocL := ocL) (ks := (repl cs).1) ?k1 ?k2 ?kX ?kN ?kT rfl ?kd ?ku hb1 ?kl codeHd1 codeHd2 ?m1 ?m2 ?m3 ?m4 vE1 vE2 vL1 vL2 ?_
  case k1 => k_asm
  case k2 => k_asm
  case kX => k_asm
  case kN => k_asm
  case kT => k_asm
  case kd => ktr_room
  case ku => ktr_units
  case kl => have := repl_len cs; omega
  case m1 => (repeat' (first | exact List.Mem.head _ | refine List.Mem.tail _ ?_))
  case m2 => (repeat' (first | exact List.Mem.head _ | refine List.Mem.tail _ ?_))
  case m3 => (repeat' (first | exact List.Mem.head _ | refine List.Mem.tail _ ?_))
  case m4 => (repeat' (first | exact List.Mem.head _ | refine List.Mem.tail _ ?_))
  intro D2 b2 t2 tm2 tq2 h9 tk9 F9 N9 hb2
  rw [repl_idem] at hb2 N9
  dsimp only at hb2 N9 ⊢
  refine wpC_any ?_
  k_steps
  refine orNil_C ?_
  rw [if_neg (by decide)]
  refine wpC_any ?_
  k_steps
  (rename Fr _ _ _ _ => F7); (rename News _ _ _ _ => N7)
  refine' next _ _ _ F7 (news_sub N7 ?hn) ?hm
  case hn => exact fun p hp => .tail _ (.tail _ (.tail _ hp))
  case hm =>
    intro r hr
    simp only [List.mem_cons, List.not_mem_nil, or_false] at hr
    rcases hr with rfl | rfl | rfl | rfl <;> rfl

-- part B3
local macro_rules | `(tactic| walk_at "call builtin:bytes.rfind") => `(tactic| ((show wpAny _ _ (call (Value.builtin "bytes.rfind") [Value.bytes _ _, Value.bytes #[_] _]) _ _ _); refine rfind_K (by kba_ints2) ?_; intro _ _))
theorem stageD (w : World) {dp un : Nat} {gd : Option (List Code)} {a : Addr} {ccd : Value} {outer : List Env} {A₀ : Around} {base h₀ : Heap} {L : Addr} {s : Shared}
    {Q : Flow → Shared → Prop} {p : Program} {loose : List Str} {mean : ExcName → Option Value} {mg mb : Str → Option Value} {cs : List Int} {b b1 : Array UInt8} {tb to tc t1 tm : Tok} {tq : Nat} {op cl : Int} {m : Str → Option Value} {D cE cL : Addr} {ocE ocL : Obj}
    (B : Below A₀ base outer h₀) (F : Fr h₀ L s.heap m) (X : (hd.heap_1 w.params).In h₀) (N : News h₀ L s.heap (ledB D cE cL (tupObj b1 t1 ((repl cs).2 : Int) tm tq) ocE ocL)) (T : Top p loose mean mg mb h₀)
    (hdp : dp + 100 < recursionLimit) (hun : un + 3000 < cLine) (hlen : cs.length ≤ 9) (hb1 : KBw.bInts b1 = (repl cs).1)
    (hm : ∀ r ∈ [(Str.ofString "left", Value.ref D), (Str.ofString "text", Value.bytes b tb), (Str.ofString "opened", .int op to), (Str.ofString "closed", .int cl tc)], m r.1 = some r.2)
    (next : ∀ m' h' tk', Fr h₀ L h' m' → News h₀ L h' (ledB D cE cL (tupObj b1 t1 ((repl cs).2 : Int) tm tq) ocE ocL) → 
      (∀ r ∈ [(Str.ofString "left", Value.ref D), (Str.ofString "text", Value.bytes b tb), (Str.ofString "opened", .int op to), (Str.ofString "closed", .int cl tc)], m' r.1 = some r.2) →
      wpC (model PySem.Challenge.rw_tk0056_01.row.prog w) (ktrTop dp un gd lawRec.name lawRec.scope L a ccd [] outer) (execs (lawRec.body.drop 7) (envX lawRec.name lawRec.scope L a ccd [])) Q (fun _ _ => False) { s with heap := h', toks := tk' }) :
    wpC (model PySem.Challenge.rw_tk0056_01.row.prog w) (ktrTop dp un gd lawRec.name lawRec.scope L a ccd [] outer) (execs (lawRec.body.drop 6) (envX lawRec.name lawRec.scope L a ccd [])) Q (fun _ _ => False) s := by
  have F8 := fr_put _ F hm
  dsimp only [putAll] at F8
  clear F hm
  dsimp only [lawRec, recOf, List.drop] at *
  revert X
  k_fill
  intro X
  w_on
  refine execs_A ?_
  k_steps
  · exact (good_order (repl_good cs) (by assumption) (by assumption)).elim
  all_goals (
    (rename Fr _ _ _ _ => F7); (rename News _ _ _ _ => N7)
    refine' next _ _ _ F7 N7 ?hm
    case hm =>
      intro r hr
      simp only [List.mem_cons, List.not_mem_nil, or_false] at hr
      rcases hr with rfl | rfl | rfl | rfl <;> rfl)

-- part B4
local macro_rules | `(tactic| walk_at "call ref") => `(tactic| (
  k_dflt ((show wpAny _ _ (call (Value.ref 304) _ _) _ _ _); refine' behind_tells _ ?k1 ?k2 ?kX ?k4 ?k5 ?kK ?kd ?ku ?kb ?kl ?_; (case k1 => k_asm); (case k2 => k_asm); (case kX => k_asm); (case k4 => k_asm); (case k5 => k_asm); (case kK => first | exact rfl | assumption); (case kb => assumption); (case kl => omega); (case kd => ktr_room); (case ku => ktr_units); intro b9 t9 h9 tk9 hb9 F9 N9; (try dsimp only); (try k_fold))))
theorem stageE (w : World) {dp un : Nat} {gd : Option (List Code)} {a : Addr} {ccd : Value} {outer : List Env} {A₀ : Around} {base h₀ : Heap} {L : Addr} {s : Shared}
    {Q : Flow → Shared → Prop} {p : Program} {loose : List Str} {mean : ExcName → Option Value} {mg mb : Str → Option Value} {cs : List Int} {b b1 : Array UInt8} {tb to tc t1 tm : Tok} {tq : Nat} {op cl : Int} {m : Str → Option Value} {D cE cL : Addr} {ocE ocL : Obj}
    (B : Below A₀ base outer h₀) (F : Fr h₀ L s.heap m) (X : (hd.heap_1 w.params).In h₀) (N : News h₀ L s.heap (ledB D cE cL (tupObj b1 t1 ((repl cs).2 : Int) tm tq) ocE ocL)) (T : Top p loose mean mg mb h₀)
    (hdp : dp + 100 < recursionLimit) (hun : un + 3000 < cLine) (hb : KBw.bInts b = cs) (hlen : cs.length ≤ 9) (codeHd1 : CodeHd h₀ 284 280) (codeHd2 : CodeHd h₀ 291 287)
    (hE : CodeOk ocE "_law_end.<locals>.ends_at") (hL : CodeOk ocL "_law_left.<locals>.<lambda>") (hb1 : KBw.bInts b1 = (repl cs).1)
    (hm : ∀ r ∈ [(Str.ofString "left", Value.ref D), (Str.ofString "text", Value.bytes b tb), (Str.ofString "opened", .int op to), (Str.ofString "closed", .int cl tc)], m r.1 = some r.2)
    (next : ∀ m' h' tk', Fr h₀ L h' m' → News h₀ L h' (ledB D cE cL (tupObj b1 t1 ((repl cs).2 : Int) tm tq) ocE ocL) → 
      (∀ r ∈ [(Str.ofString "left", Value.ref D), (Str.ofString "text", Value.bytes b tb), (Str.ofString "opened", .int op to), (Str.ofString "closed", .int cl tc)], m' r.1 = some r.2) →
      wpC (model PySem.Challenge.rw_tk0056_01.row.prog w) (ktrTop dp un gd lawRec.name lawRec.scope L a ccd [] outer) (execs (lawRec.body.drop 8) (envX lawRec.name lawRec.scope L a ccd [])) Q (fun _ _ => False) { s with heap := h', toks := tk' }) :
    wpC (model PySem.Challenge.rw_tk0056_01.row.prog w) (ktrTop dp un gd lawRec.name lawRec.scope L a ccd [] outer) (execs (lawRec.body.drop 7) (envX lawRec.name lawRec.scope L a ccd [])) Q (fun _ _ => False) s := by
  have F8 := fr_put _ F hm
  dsimp only [putAll] at F8
  clear F hm
  dsimp only [lawRec, recOf, List.drop] at *
  revert X
  k_fill
  intro X
  w_on
  have hl2 := repl_len cs
  have hl3 := behind_len cs
  refine execs_C (if_C (isTrue_compare_C (evalCall_C ?_)))
  obtain ⟨vsE, tE, vE1, vE2⟩ := hE
  obtain ⟨vsL, tL, vL1, vL2⟩ := hL
  k_steps
  refine callWithK_C (K := hd.heap_1 w.params) (by k_is) ?_
  k_steps
  refine' left_hit w (cE := cE) (cL := cL) (ocE := ocE) (ocL := ocL) (ks := behindI cs) ?k1 ?k2 ?kX ?kN ?kT rfl ?kd ?ku ?kb ?kl codeHd1 codeHd2 ?m1 ?m2 ?m3 ?m4 vE1 vE2 vL1 vL2 ?_
  case k1 => k_asm
  case k2 => k_asm
  case kX => k_asm
  case kN => k_asm
  case kT => k_asm
  case kd => ktr_room
  case ku => ktr_units
  case kb => assumption
  case kl => omega
  case m1 => (repeat' (first | exact List.Mem.head _ | refine List.Mem.tail _ ?_))
  case m2 => (repeat' (first | exact List.Mem.head _ | refine List.Mem.tail _ ?_))
  case m3 => (repeat' (first | exact List.Mem.head _ | refine List.Mem.tail _ ?_))
  case m4 => (repeat' (first | exact List.Mem.head _ | refine List.Mem.tail _ ?_))
  intro D2 b2 t2 tm2 tq2 h9 tk9 F9 N9 hb2
  rw [repl_behind] at hb2 N9
  dsimp only at hb2 N9 ⊢
  refine wpC_any ?_
  k_steps
  refine wpC_any ?_
  k_steps
  (rename Fr _ _ _ _ => F7); (rename News _ _ _ _ => N7)
  refine' next _ _ _ F7 (news_sub N7 ?hn) ?hm
  case hn => exact fun p hp => .tail _ (.tail _ hp)
  case hm =>
    intro r hr
    simp only [List.mem_cons, List.not_mem_nil, or_false] at hr
    rcases hr with rfl | rfl | rfl | rfl <;> rfl

-- part B5
theorem stageF (w : World) {dp un : Nat} {gd : Option (List Code)} {a : Addr} {ccd : Value} {outer : List Env} {A₀ : Around} {base h₀ : Heap} {L : Addr} {s : Shared}
    {Q : Flow → Shared → Prop} {p : Program} {loose : List Str} {mean : ExcName → Option Value} {mg mb : Str → Option Value} {cs : List Int} {b b1 : Array UInt8} {tb to tc t1 tm : Tok} {tq : Nat} {op cl : Int} {m : Str → Option Value} {D cE cL : Addr} {ocE ocL : Obj}
    (B : Below A₀ base outer h₀) (F : Fr h₀ L s.heap m) (X : (hd.heap_1 w.params).In h₀) (N : News h₀ L s.heap (ledB D cE cL (tupObj b1 t1 ((repl cs).2 : Int) tm tq) ocE ocL)) (T : Top p loose mean mg mb h₀)
    (hdp : dp + 100 < recursionLimit) (hun : un + 3000 < cLine) (hb : KBw.bInts b = cs) (hlen : cs.length ≤ 9)
    (hm : ∀ r ∈ [(Str.ofString "left", Value.ref D), (Str.ofString "text", Value.bytes b tb), (Str.ofString "opened", .int op to), (Str.ofString "closed", .int cl tc)], m r.1 = some r.2)
    (next : ∀ bt tt ta tb0 m' h' tk', Fr h₀ L h' m' → News h₀ L h' (ledB D cE cL (tupObj b1 t1 ((repl cs).2 : Int) tm tq) ocE ocL) → KBw.bInts bt = (if cl > op then behindI cs else cs) →
      (∀ r ∈ [(Str.ofString "text", Value.bytes bt tt), (Str.ofString "ahead", .int 0 ta), (Str.ofString "bare", .int 0 tb0), (Str.ofString "opened", .int op to), (Str.ofString "closed", .int cl tc)], m' r.1 = some r.2) →
      wpC (model PySem.Challenge.rw_tk0056_01.row.prog w) (ktrTop dp un gd lawRec.name lawRec.scope L a ccd [] outer) (execs (lawRec.body.drop 10) (envX lawRec.name lawRec.scope L a ccd [])) Q (fun _ _ => False) { s with heap := h', toks := tk' }) :
    wpC (model PySem.Challenge.rw_tk0056_01.row.prog w) (ktrTop dp un gd lawRec.name lawRec.scope L a ccd [] outer) (execs (lawRec.body.drop 8) (envX lawRec.name lawRec.scope L a ccd [])) Q (fun _ _ => False) s := by
  have F8 := fr_put _ F hm
  dsimp only [putAll] at F8
  clear F hm
  dsimp only [lawRec, recOf, List.drop] at *
  revert X
  k_fill
  intro X
  w_on
  have hl3 := behind_len cs
  refine execs_A ?_
  k_steps
  · (rename op < cl => hlt9)
    rw [if_pos (show cl > op from hlt9)] at next
    dsimp only
    refine execs_A ?_
    k_steps
    (rename Fr _ _ _ _ => F7); (rename News _ _ _ _ => N7)
    refine' next _ _ _ _ _ _ _ F7 (news_sub N7 fun p hp => List.Mem.tail _ hp) (by assumption) ?hm
    case hm =>
      intro r hr
      simp only [List.mem_cons, List.not_mem_nil, or_false] at hr
      rcases hr with rfl | rfl | rfl | rfl | rfl <;> rfl
  · (rename ¬ op < cl => hlt9)
    rw [if_neg (show ¬ cl > op from hlt9)] at next
    dsimp only
    refine execs_A ?_
    k_steps
    (rename Fr _ _ _ _ => F7); (rename News _ _ _ _ => N7)
    refine' next _ _ _ _ _ _ _ F7 (news_sub N7 fun p hp => List.Mem.tail _ hp) (by assumption) ?hm
    case hm =>
      intro r hr
      simp only [List.mem_cons, List.not_mem_nil, or_false] at hr
      rcases hr with rfl | rfl | rfl | rfl | rfl <;> rfl

-- part B6
local macro_rules | `(tactic| walk_at "call ref") => `(tactic| (
  k_dflt ((show wpAny _ _ (call (Value.ref 311) _ _) _ _ _); refine' ahead_hit _ ?k1 ?k2 ?kX ?k4 ?k5 ?kK ?kd ?ku ?kb ?kb2 ?kl ?kl2 ?c1 ?m1 ?m2 ?v1 ?v2 ?_; (case k1 => k_asm); (case k2 => k_asm); (case kX => k_asm); (case k4 => k_asm); (case k5 => k_asm); (case kK => first | exact rfl | assumption); (case kb => assumption); (case kb2 => assumption); (case kl => omega); (case kl2 => omega); (case c1 => assumption); (case m1 => k_mem); (case v2 => assumption); (case v1 => assumption); (case m2 => k_mem); (case kd => ktr_room); (case ku => ktr_units); intro h9 tk9 F9 N9; (try dsimp only); (try k_fold))))
local macro_rules | `(tactic| walk_at "pyIter ref") => `(tactic| (refine stop_at ?_))
def TurnJ (bt : Array UInt8) (tt to tc : Tok) (tx : List Int) (op cl : Int) (i : Nat) (m : Str → Option Value) : Prop :=
  ∃ ta tb, ∀ r ∈ [(Str.ofString "text", Value.bytes bt tt), (Str.ofString "ahead", .int (aheads tx i) ta), (Str.ofString "bare", .int (bares tx i) tb), (Str.ofString "opened", .int op to), (Str.ofString "closed", .int cl tc)], m r.1 = some r.2
theorem turn_end {h₀ h' : Heap} {L : Addr} {m' : Str → Option Value} {led own led' : List (Addr × Obj)} {bt : Array UInt8} {tt to tc ta tb : Tok} {tx : List Int} {op cl va vb : Int} {i : Nat} {s : Shared} {Q : Flow → Shared → Prop} {tk : Nat}
    (F : Fr h₀ L h' m') (N : News h₀ L h' led') (sub : ∀ p ∈ led ++ own, p ∈ led')
    (hm : ∀ r ∈ [(Str.ofString "text", Value.bytes bt tt), (Str.ofString "ahead", .int va ta), (Str.ofString "bare", .int vb tb), (Str.ofString "opened", .int op to), (Str.ofString "closed", .int cl tc)], m' r.1 = some r.2)
    (ha : va = aheads tx (i + 1)) (hb : vb = bares tx (i + 1)) : ForEnd h₀ L s (TurnJ bt tt to tc tx op cl (i + 1)) led own Q .next { s with heap := h', toks := tk } :=
  ⟨h', tk, m', rfl, F, fun p hp => N p (sub p hp), ta, tb, ha ▸ hb ▸ hm⟩
theorem stageG (w : World) {dp un : Nat} {gd : Option (List Code)} {a : Addr} {ccd : Value} {outer : List Env} {A₀ : Around} {base h₀ : Heap} {L : Addr} {s : Shared}
    {Q : Flow → Shared → Prop} {p : Program} {loose : List Str} {mean : ExcName → Option Value} {mg mb : Str → Option Value} {tx : List Int} {bt : Array UInt8} {tt ta tb to tc : Tok} {op cl : Int} {m : Str → Option Value} {D cE cL : Addr} {oD ocE ocL : Obj}
    (B : Below A₀ base outer h₀) (F : Fr h₀ L s.heap m) (X : (hd.heap_1 w.params).In h₀) (N : News h₀ L s.heap (ledB D cE cL oD ocE ocL)) (T : Top p loose mean mg mb h₀)
    (hdp : dp + 100 < recursionLimit) (hun : un + 3000 < cLine) (hb : KBw.bInts bt = tx) (hlen : tx.length ≤ 9) (codeHd1 : CodeHd h₀ 284 280) (codeHd2 : CodeHd h₀ 291 287)
    (hE : CodeOk ocE "_law_end.<locals>.ends_at") (hL : CodeOk ocL "_law_left.<locals>.<lambda>")
    (hm : ∀ r ∈ [(Str.ofString "text", Value.bytes bt tt), (Str.ofString "ahead", .int 0 ta), (Str.ofString "bare", .int 0 tb), (Str.ofString "opened", .int op to), (Str.ofString "closed", .int cl tc)], m r.1 = some r.2)
    (next : ∀ m' h' tk', Fr h₀ L h' m' → News h₀ L h' (ledB D cE cL oD ocE ocL) → TurnJ bt tt to tc tx op cl tx.length m' →
      wpC (model PySem.Challenge.rw_tk0056_01.row.prog w) (ktrTop dp un gd lawRec.name lawRec.scope L a ccd [] outer) (execs (lawRec.body.drop 11) (envX lawRec.name lawRec.scope L a ccd [])) Q (fun _ _ => False) { s with heap := h', toks := tk' }) :
    wpC (model PySem.Challenge.rw_tk0056_01.row.prog w) (ktrTop dp un gd lawRec.name lawRec.scope L a ccd [] outer) (execs (lawRec.body.drop 10) (envX lawRec.name lawRec.scope L a ccd [])) Q (fun _ _ => False) s := by
  have hJ0 : TurnJ bt tt to tc tx op cl 0 m := ⟨ta, tb, hm⟩
  have F8 := fr_put _ F hm
  dsimp only [putAll] at F8
  clear F
  dsimp only [lawRec, recOf, List.drop] at *
  revert X
  k_fill
  intro X
  w_on
  refine execs_C (for_C ?_)
  k_steps
  unfold Stop
  (rename Fr _ _ _ _ => lF'); (rename News _ _ _ _ => lN'); (rename IsRange _ _ _ _ _ _ _ _ => rgX)
  with_unfolding_all refine' forRange_C (TurnJ bt tt to tc tx op cl) (by rfl) (by rfl) (by rfl) rgX ?sm ?sz lF' lN' ?j0 ?turn ?done
  case sm => exact small_one (by l_bnd) (by l_bnd) (by l_bnd) (by l_bnd)
  case sz => exact rangeSize_nat _ _
  case j0 => 
    refine ⟨ta, tb, ?_⟩
    intro r hr
    simp only [List.mem_cons, List.not_mem_nil, or_false] at hr
    rcases hr with rfl | rfl | rfl | rfl | rfl <;> rfl
  case done =>
    intro m₁ h tk hJ F9 N9
    rw [show ((tx.length : Int) - 0).toNat = tx.length by omega] at hJ
    exact next m₁ h tk F9 N9 hJ
  case turn =>
    intro i t1 m₁ h tk own hi hoff hJ F9 N9
    obtain ⟨ta1, tb1, hm9⟩ := hJ
    clear lF' lN' rgX hm
    obtain ⟨vsE, tE, vE1, vE2⟩ := hE
    obtain ⟨vsL, tL, vL1, vL2⟩ := hL
    have hik : i < tx.length := by omega
    rw [Int.zero_add] at F9
    have F8 := fr_put [(Str.ofString "turn", .int (i : Int) t1), (Str.ofString "text", Value.bytes bt tt), (Str.ofString "ahead", .int (aheads tx i) ta1), (Str.ofString "bare", .int (bares tx i) tb1), (Str.ofString "opened", .int op to), (Str.ofString "closed", .int cl tc)] F9 (by
      intro r hr
      simp only [List.mem_cons, List.not_mem_nil, or_false] at hr
      rcases hr with rfl | rfl | rfl | rfl | rfl | rfl
      · exact if_pos rfl
      · exact (if_neg (show Str.ofString "text" ≠ Str.ofString "turn" by decide)).trans (hm9 _ (.head _))
      · exact (if_neg (show Str.ofString "ahead" ≠ Str.ofString "turn" by decide)).trans (hm9 _ (.tail _ (.head _)))
      · exact (if_neg (show Str.ofString "bare" ≠ Str.ofString "turn" by decide)).trans (hm9 _ (.tail _ (.tail _ (.head _))))
      · exact (if_neg (show Str.ofString "opened" ≠ Str.ofString "turn" by decide)).trans (hm9 _ (.tail _ (.tail _ (.tail _ (.head _)))))
      · exact (if_neg (show Str.ofString "closed" ≠ Str.ofString "turn" by decide)).trans (hm9 _ (.tail _ (.tail _ (.tail _ (.tail _ (.head _)))))))
    dsimp only [putAll] at F8
    clear F9 hm9
    simp only [List.cons_append, List.nil_append] at N9
    refine execs_A ?_
    k_steps
    (rename KBw.bInts _ = _ ++ _ => hr9)
    have hr8 := hr9.trans (show _ = rot tx i by unfold rot; rw [show min i tx.length = i by omega, List.take_of_length_le (by rw [List.length_drop]; omega)])
    clear hr9
    generalize KBy.picked bt (some (i : Int)) none ++ KBy.picked bt none (some (i : Int)) = bu at *
    have hrl := rot_len tx i
    have hrl2 := repl_len (rot tx i)
    dsimp only
    refine execs_C (assign_C (evalCall_C ?_))
    k_steps
    refine callWithK_C (K := hd.heap_1 w.params) (by k_is) ?_
    k_steps
    refine' left_hit w (cE := cE) (cL := cL) (ocE := ocE) (ocL := ocL) (ks := rot tx i) ?k1 ?k2 ?kX ?kN ?kT rfl ?kd ?ku hr8 ?kl codeHd1 codeHd2 ?m1 ?m2 ?m3 ?m4 vE1 vE2 vL1 vL2 ?_
    case k1 => k_asm
    case k2 => k_asm
    case kX => k_asm
    case kN => k_asm
    case kT => k_asm
    case kd => ktr_room
    case ku => ktr_units
    case kl => omega
    case m1 => (repeat' (first | exact List.Mem.head _ | refine List.Mem.tail _ ?_))
    case m2 => (repeat' (first | exact List.Mem.head _ | refine List.Mem.tail _ ?_))
    case m3 => (repeat' (first | exact List.Mem.head _ | refine List.Mem.tail _ ?_))
    case m4 => (repeat' (first | exact List.Mem.head _ | refine List.Mem.tail _ ?_))
    intro D2 b2 t2 tm2 tq2 h9 tk9 F9 N9 hb2
    k_steps
    dsimp only
    refine execs_A ?_
    k_steps
    dsimp only
    refine execs_A ?_
    k_steps
    refine execs_A ?_
    k_steps
    · (rename findI _ _ < 0 => hf9)
      have hf8 : findI (repl (rot tx i)).1 40 < 0 := hf9
      dsimp only
      refine wpC_any ?_
      k_steps
      (rename Fr _ _ _ _ => F7); (rename News _ _ _ _ => N7)
      refine' turn_end (ta := _) (tb := _) (va := _) (vb := _) F7 N7 ?sub9 ?hm9 ?ha9 ?hb9
      case hm9 =>
        intro r hr
        simp only [List.mem_cons, List.not_mem_nil, or_false] at hr
        rcases hr with rfl | rfl | rfl | rfl | rfl <;> rfl
      case sub9 => exact fun p hp => .tail _ (.tail _ hp)
      case ha9 => rfl
      case hb9 => rw [bares, bareB, decide_eq_true hf8, Bool.true_and]; rfl
    · (rename ¬ findI _ _ < 0 => hf9)
      have hf8 : ¬ findI (repl (rot tx i)).1 40 < 0 := hf9
      dsimp only
      refine wpC_any ?_
      k_steps
      (rename Fr _ _ _ _ => F7); (rename News _ _ _ _ => N7)
      refine' turn_end (ta := _) (tb := _) (va := _) (vb := _) F7 N7 ?sub9 ?hm9 ?ha9 ?hb9
      case hm9 =>
        intro r hr
        simp only [List.mem_cons, List.not_mem_nil, or_false] at hr
        rcases hr with rfl | rfl | rfl | rfl | rfl <;> rfl
      case sub9 => exact fun p hp => .tail _ (.tail _ hp)
      case ha9 => rfl
      case hb9 =>
        have hf7 : decide (findI (repl (rot tx i)).1 ((UInt8.toNat 40 : Nat) : Int) < 0) = false := decide_eq_false hf9
        rw [bares, bareB, decide_eq_false hf8, Bool.false_and, hf7]

-- part B7
theorem stageH (w : World) {dp un : Nat} {gd : Option (List Code)} {a : Addr} {ccd : Value} {outer : List Env} {A₀ : Around} {base h₀ : Heap} {L : Addr} {s : Shared}
    {Q : Flow → Shared → Prop} {p : Program} {loose : List Str} {mean : ExcName → Option Value} {mg mb : Str → Option Value} {bt : Array UInt8} {tt to tc : Tok} {op cl : Int} {tx : List Int} {m : Str → Option Value} {news : List (Addr × Obj)}
    (B : Below A₀ base outer h₀) (F : Fr h₀ L s.heap m) (X : (hd.heap_1 w.params).In h₀) (N : News h₀ L s.heap news) (T : Top p loose mean mg mb h₀)
    (hdp : dp + 100 < recursionLimit) (hun : un + 3000 < cLine) (hJ : TurnJ bt tt to tc tx op cl tx.length m) (hne : 0 < tx.length) (hht : htI tx = if cl > op then cl - op else op - cl) (ho1 : 0 ≤ op) (ho2 : op ≤ 3) (hc1 : 0 ≤ cl) (hc2 : cl ≤ 4)
    (next : ∀ m' h' tk', Fr h₀ L h' m' → News h₀ L h' news → Q (.ret (.bool true)) { s with heap := h', toks := tk' }) :
    wpC (model PySem.Challenge.rw_tk0056_01.row.prog w) (ktrTop dp un gd lawRec.name lawRec.scope L a ccd [] outer) (execs (lawRec.body.drop 11) (envX lawRec.name lawRec.scope L a ccd [])) Q (fun _ _ => False) s := by
  have hk0 : 0 ≤ htI tx := by rw [hht]; split <;> omega
  have e1 : aheads tx tx.length = htI tx := (aheads_ups tx _).trans (ups_all hk0)
  have e2 := bares_pos hne
  obtain ⟨ta, tb, hm⟩ := hJ
  rw [e1] at hm
  have F8 := fr_put _ F hm
  dsimp only [putAll] at F8
  clear F hm
  dsimp only [lawRec, recOf, List.drop] at *
  generalize bares tx tx.length = nb at *
  revert X
  k_fill
  intro X
  w_on
  refine execs_A ?_
  k_steps
  · have e3 : (decide (0 < nb) == (op == cl)) = true := by
      by_cases h : op = cl
      · have : htI tx = 0 := by rw [hht, h]; split <;> omega
        rw [decide_eq_true (e2.mpr this), beq_iff_eq.mpr h]; rfl
      · have : ¬ htI tx = 0 := by rw [hht]; split <;> omega
        rw [decide_eq_false (fun q => this (e2.mp q)), beq_eq_false_iff_ne.mpr h]; rfl
    rw [e3]
    exact next _ _ _ (by k_asm) (by k_asm)
  · (rename htI tx ≠ _ => hne9)
    exact absurd (hht.trans (by split <;> split <;> omega)) hne9

section
-- part E0
theorem enter_C {M : Model} {A : Around} {s : Shared} {f : Value} {pos : List Value} {kw : List (Str × Value)} {c : ClaimW} {cl : Str → Option Addr} {mean : ExcName → Option Value} {args : List WData} {s₁ : Shared}
    (h : codeC M A (.call f ⟨pos, kw⟩) (GoodWG c cl mean args s₁) s) : wpC M A (PySem.call f pos kw) (fun v s' => GoodWG c cl mean args s₁ (.ok (.ret v)) s') (fun e s' => GoodWG c cl mean args s₁ (.error e) s') s :=
  wpC_call (codeC_mono h fun res s' g => by rcases g.1 with ⟨v, _, _, rfl, _⟩ | ⟨e, _, _, rfl, _⟩ <;> exact g)
theorem post_C {M : Model} {A : Around} {cd : Code} {s s₁ : Shared} {cw : ClaimW} {cl : Str → Option Addr} {mean : ExcName → Option Value} {args : List WData} {tabs : List (Addr × Addr)} (hT : TabsAt tabs s₁.heap) (hr : ∀ a x, cw.raises a x = false)
    (h : codeC M A cd (fun r s' => GoodW cw cl mean args { s₁ with heap := ghostOf s₁.heap tabs } r s' ∧ GrownAll tabs s'.heap) s) : codeC M A cd (GoodWG cw cl mean args s₁) s :=
  codeC_mono h fun r s' ⟨⟨hc, hk, hos, hg⟩, hgr⟩ => by
    have keep : ∀ b o, b ∉ tabs.map (·.2) → s₁.heap.get? b = some o → s'.heap.get? b = some o := fun b o hb e => hk b o (ghost_ne e hb)
    have grown : ∀ b o, b ∈ tabs.map (·.2) → s₁.heap.get? b = some o → isCodeTable s₁.heap b ∧ o = tabObj #[] ∧ ∃ ps, s'.heap.get? b = some (tabObj ps) := fun b o hb e => by
      obtain ⟨q, hq, rfl⟩ := List.mem_map.mp hb
      have e2 := (hT q hq).2
      rw [e] at e2
      exact ⟨((hT q hq).1.tab (hT q hq).2).isCodeTable, Option.some.inj e2, hgr.get q hq⟩
    refine ⟨?_, ⟨fun b o e => ?_, fun b o e => ?_⟩, hos, .of_eq hg⟩
    · rcases hc with ⟨v, d, as, r1, r2, r3, r4, r5⟩ | ⟨e, ob, x, _, _, _, r4, _⟩
      · refine .inl ⟨v, d, as, r1, r2, r3, r4, fun q => ⟨(r5 q).1, fun a ha => ?_⟩⟩
        cases q1 : s₁.heap.get? a with
        | none => rfl
        | some o =>
          by_cases hb : a ∈ tabs.map (·.2)
          · obtain ⟨_, _, ps, hP⟩ := grown a o hb q1
            exact absurd ha (readsW_apart hP rfl r3)
          · have e3 := (r5 q).2 a ha
            rw [show (ghostOf s₁.heap tabs).get? a = some o from ghost_ne q1 hb] at e3
            cases e3
      · rw [hr] at r4; cases r4
    · by_cases hb : b ∈ tabs.map (·.2)
      · obtain ⟨ht, rfl, ps, hP⟩ := grown b o hb e
        exact .inr (.inl ⟨ht, rfl, #[], ps, rfl, by rw [Array.empty_append]; exact hP⟩)
      · exact .inl (keep b o hb e)
    · by_cases hb : b ∈ tabs.map (·.2)
      · obtain ⟨_, _, ps, hP⟩ := grown b o hb e
        exact ⟨_, hP⟩
      · exact ⟨o, keep b o hb e⟩
theorem call_full_C {prog : Program} {w : World} {A : Around} {R : Result → Shared → Prop} {s : Shared} {name : Str} {params : Arguments} {body : List Stmt} {scope : Scope}
    {dV kV pm cd doc : Value} {a : Addr} {o : Obj} {args : Args} {binds : List (Str × Value)}
    (hroom : A.depth < recursionLimit) (ho : s.heap.get? a = some o) (hdata : o.data = .func { docDef name params body scope pm cd doc with defaults := dV, kwdefaults := kV }) (hlim : s.heap.NoLimit) (hcd : s.heap.CodeRec cd name)
    (hbind : BindsTo s { docDef name params body scope pm cd doc with defaults := dV, kwdefaults := kV } args binds)
    (hloc : ∀ x ∈ binds, scope.names.lookup x.1 = some .local)
    (h : ∀ h₁, Fr s.heap s.heap.objs.size h₁ (fun x => binds.reverse.lookup x) →
      wpC (model prog w) (A.deeper (envOf name scope s.heap.objs.size a cd)) (execs body (envOf name scope s.heap.objs.size a cd))
        (fun f s' => R (.ok (.ret (match f with | .ret v => v | _ => .none))) s')
        (fun e s' => wpAny (model prog w) (A.deeper (envOf name scope s.heap.objs.size a cd)) (leaving (envOf name scope s.heap.objs.size a cd) e)
          (fun _ s'' => R (.error e) s'') (fun e' s'' => R (.error e') s'') s')
        { s with heap := h₁, toks := s.toks + binds.length })
    (hco : scope.isCoroutine = false := by rfl) (hgen : scope.isGenerator = false := by rfl) (hk : scope.kind = .function := by rfl)
    (hcell : ∀ x ∈ scope.names, x.2 ≠ .cell := by decide) :
    codeC (model prog w) A (.call (.ref a) args) R s := by
  refine codeC_function hroom ho hdata hco hgen rfl hcd (hbind _ _ _ _ ?_)
  refine wpAny_newFunctionEnv hcell hloc (fun h₁ hns hsb => ⟨hlim.fresh _ hsb, codeC_func ?_⟩) hk
  exact h h₁ ⟨hns, fun b o e => hsb.extBut b o (Nat.ne_of_lt (Heap.lt_size e)) (Heap.get?_push_of_some _ e), Nat.le_refl _⟩
end

section
-- part E2
theorem law_body (w : World) {dp un : Nat} {gd : Option (List Code)} {a : Addr} {ccd : Value} {outer : List Env} {A₀ : Around} {base h₀ : Heap} {L : Addr} {s : Shared}
    {Q : Flow → Shared → Prop} {p : Program} {loose : List Str} {mean : ExcName → Option Value} {mg mb : Str → Option Value} {sc : Addr} {vs : List Value} {zs : List Int}
    (B : Below A₀ base outer h₀) (F : Fr h₀ L s.heap (fun y => if y = "script" then some (.ref sc) else none)) (X : (hd.heap_1 w.params).In h₀) (N : News h₀ L s.heap [(280, tabObj #[]), (287, tabObj #[])]) (T : Top p loose mean mg mb h₀)
    (hdp : dp + 100 < recursionLimit) (hun : un + 3000 < cLine) (hsc : h₀.IsList sc vs.toArray) (hI : IntsAre vs zs) (hlen : zs.length ≤ 63) (codeHd1 : CodeHd h₀ 284 280) (codeHd2 : CodeHd h₀ 291 287)
    (done : ∀ h' tk' m' D oD cE cL ocE ocL, Fr h₀ L h' m' → News h₀ L h' (ledB D cE cL oD ocE ocL) → Q (.ret (.bool true)) { s with heap := h', toks := tk' }) :
    wpC (model PySem.Challenge.rw_tk0056_01.row.prog w) (ktrTop dp un gd lawRec.name lawRec.scope L a ccd [] outer) (execs lawRec.body (envX lawRec.name lawRec.scope L a ccd [])) Q (fun _ _ => False) s := by
  refine stageA w B F X N T hdp hun hsc hI hlen ?_
  intro G J S oG ws us m1 r1 r2 r3 to tc tt ka kb ti h1 tk1 F1 hd1 hm1 N1 hlo hGJ hJS hnG a1 a2 b1 b2 c1 c2 hws hus
  have hls := len_signs (r3 := r3) a1 a2 b1 b2
  have hts := ht_signs (r3 := r3) a1 b1
  refine stageL w (s := { s with heap := h1, toks := tk1 }) B F1 X N1 T hdp hun hd1 hm1 hlo hGJ hJS hnG hws (by rw [List.length_take]; omega) hus hls.2 ?_
  intro cs b tb m2 h2 tk2 F2 hb hcl hch hm2 N2
  rw [hts] at hch
  have hc9 : cs.length ≤ 9 := by omega
  refine stageB w (s := { s with heap := h2, toks := tk2 }) B F2 X N2 T hdp hun hb hc9 codeHd1 codeHd2 hm2 ?_
  intro D b1 t1 tm tq cE cL ocE ocL m3 h3 tk3 F3 N3 hE hL hb1 hm3
  refine stageC w (s := { s with heap := h3, toks := tk3 }) B F3 X N3 T hdp hun hb hc9 codeHd1 codeHd2 hE hL hb1 hm3 ?_
  intro m4 h4 tk4 F4 N4 hm4
  refine stageD w (s := { s with heap := h4, toks := tk4 }) B F4 X N4 T hdp hun hc9 hb1 hm4 ?_
  intro m5 h5 tk5 F5 N5 hm5
  refine stageE w (s := { s with heap := h5, toks := tk5 }) B F5 X N5 T hdp hun hb hc9 codeHd1 codeHd2 hE hL hb1 hm5 ?_
  intro m6 h6 tk6 F6 N6 hm6
  refine stageF w (s := { s with heap := h6, toks := tk6 }) B F6 X N6 T hdp hun hb hc9 hm6 ?_
  intro bt t7 ta tb7 m7 h7 tk7 F7 N7 hbt hm7
  have hlt : (if r2 > 1 + r1 then behindI cs else cs).length = cs.length := by split; exact behind_len cs; rfl
  refine stageG w (s := { s with heap := h7, toks := tk7 }) B F7 X N7 T hdp hun hbt (by rw [hlt]; exact hc9) codeHd1 codeHd2 hE hL hm7 ?_
  intro m8 h8 tk8 F8 N8 hJ8
  refine stageH w (s := { s with heap := h8, toks := tk8 }) B F8 X N8 T hdp hun hJ8 (by rw [hlt]; omega) ?_ (by omega) (by omega) (by omega) (by omega) ?_
  · split
    · rw [ht_behind]; omega
    · exact hch
  · intro m9 h9 tk9 F9 N9
    exact done h9 tk9 m9 _ _ _ _ _ _ F9 N9
theorem look_one {k : Str} {v : Value} : (fun x => List.lookup x [(k, v)]) = (fun y => if y = k then some v else none) := by
  funext y
  rw [List.lookup]
  by_cases h : y = k
  · subst h; rw [if_pos rfl, beq_self_eq_true]
  · rw [if_neg h, beq_eq_false_iff_ne.mpr h]; rfl
theorem law_holds : PySem.Challenge.rw_tk0056_01.Holds := by
  refine holds_law said fun _ => ?_
  w_on
  refine hd ⟨left0, ?_⟩
  k_fill
  intro w s₀ s₁ mg mb G Y fa o pm cd doc dV kV ho hd hcd hD hmg hg args vals as hpre hlay hrd hwl hlo
  have KX := km_in_of Y
  km_tabs Y
  have X := (Ground.X G).1
  have V := (Ground.X G).2
  refine Ground.open G ?_
  intro T B D TE TW
  try (refine guard_noD D (by decide +kernel) ?_; clear D)
  km_lay T hmg ho hd cd
  clear hmg
  wrow_args hpre hlay hrd hwl hlo
  all_goals (
    refine enter_C ?_
    w_top on
    refine post_C hT9 (fun _ _ => rfl) ?_
    (have he := Dflts.none hD rfl; subst he
     refine call_full_C (by decide) ho hd (Top.nolimit T) hcd (BindsTo.of_eq rfl) (locs rfl) fun h₁ F => ?_)
    w_binds F
    have N0 := (News.nil : News _ _ _ []).at F
    clear hd
    kn_ghosts F T
    k_drop)
  all_goals (try k_fold)
  refine wpC_mono (E := fun _ _ => False) ?_ (fun _ _ q => q) (fun _ _ q => q.elim)
  (rename Below _ _ _ _ => B9); (rename Fr _ _ _ _ => F9); (rename News _ _ _ _ => N9); (rename Top _ _ _ _ _ (ghostOf _ _) => T9); (rename Heap.IsList (ghostOf _ _) _ _ => L9); (rename Frag.In _ (ghostOf _ _) => X9)
  refine law_body w (zs := _) (s := { s₁ with heap := h₁, toks := _ }) B9 (look_one ▸ F9) X9 N9 T9 (by decide) (by decide) L9 (by assumption) (by omega) (by assumption) (by assumption) ?_
  intro h' tk' m' D oD cE cL ocE ocL F9' N9'
  k_drop
  dsimp only
  k_steps
end

end Mine
theorem PySem.Challenge.cw_tk0056_01_holds : PySem.Challenge.rw_tk0056_01.Holds := by
  exact Mine.law_holds
