import PyProof.Rows.All
import Wide.All
import OpenK.AllK
import Wide.FinOn
import PySem.Challenge.RW_nt0096_01
open PySem PySem.W PyProof.Rows
set_option Elab.async false
set_option maxRecDepth 100000
set_option maxHeartbeats 8000000
local macro_rules | `(tactic| walk_at "P1") => `(tactic| ((case k1 => k_asm); (case k2 => k_asm); (case k3 => k_asm); (case k4 => k_asm); (case k5 => k_asm); (case kK => first | exact rfl | assumption); (case kd => first | ktr_room | decide); (case ku => first | ktr_units | decide)))
local macro_rules | `(tactic| walk_at "om") => `(tactic| first | assumption | omega)
namespace Mine
theorem offN1 : True := by
  w_top off
  trivial
abbrev Led := List (Addr × Obj)
/-- a code of the stack that may hold a bytearray and that the library's logic does not see -/
def isDec : Code → Bool
  | .builtin id ⟨_ :: _, _⟩ => Builtin.Bytes.decodersThatHold.contains id
  | _ => false
def ClB (Γ : Ctx) : Prop := ∀ c ∈ Γ.below, isDec c.1 = false
def Cl (Γ : Ctx) : Prop := isDec Γ.code = false ∧ ClB Γ
theorem ClB.enter {Γ : Ctx} (h : Cl Γ) (c : Code) (hd : Option Value) (p : Pos) : ClB (Γ.enter c hd p) := fun x hx => by
  rcases List.mem_cons.mp hx with rfl | hx
  · exact h.1
  · exact h.2 x hx
/-- as wpAny, in contexts without decoders on the stack -/
def wpN {α : Type} (M : Model) (A : Around) (t : Sem α) (Q : α → Shared → Prop) (E : Value → Shared → Prop) (s : Shared) : Prop :=
  ∀ Γ p, Γ.In A → Cl Γ → Sem.wp M Γ t (fun a _ s' => Q a s') (fun e _ s' => E e s') p s
def codeN (M : Model) (A : Around) (c : Code) (R : Result → Shared → Prop) (s : Shared) : Prop :=
  ∀ Γ p, Γ.code = c → Γ.Below A → ClB Γ → wpCode M Γ R p s
section
variable {α β : Type} {M : Model} {A : Around} {E : Value → Shared → Prop} {s : Shared}
theorem wpN_of {t : Sem α} {Q : α → Shared → Prop} (h : wpAny M A t Q E s) : wpN M A t Q E s := fun Γ p hΓ _ => h Γ p hΓ
theorem codeN_of {c : Code} {R : Result → Shared → Prop} (h : codeAny M A c R s) : codeN M A c R s := fun Γ p hc hΓ _ => h Γ p hc hΓ
theorem wpN_pure {a : α} {Q : α → Shared → Prop} (h : Q a s) : wpN M A (pure a) Q E s := fun _ _ _ _ => h
theorem wpN_mono {t : Sem α} {Q Q' : α → Shared → Prop} {E' : Value → Shared → Prop} (h : wpN M A t Q E s) (hQ : ∀ a s, Q a s → Q' a s) (hE : ∀ e s, E e s → E' e s) : wpN M A t Q' E' s :=
  fun Γ p hΓ hC => Sem.wp_mono M Γ t (fun a _ s => hQ a s) (fun e _ s => hE e s) p s (h Γ p hΓ hC)
theorem wpN_bind {m : Sem α} {f : α → Sem β} {Q : β → Shared → Prop} (h : wpN M A m (fun a s' => wpN M A (f a) Q E s') E s) : wpN M A (m >>= f) Q E s := fun Γ p hΓ hC => by
  rw [Sem.wp_bind']
  exact Sem.wp_mono M Γ m (fun a p' s' h' => h' Γ p' hΓ hC) (fun _ _ _ h' => h') p s (h Γ p hΓ hC)
theorem wpN_of_eq {m : Sem α} {a : α} {Q : α → Shared → Prop} (e : m = pure a) (h : Q a s) : wpN M A m Q E s := by rw [e]; exact wpN_pure h
theorem wpN_holding {vs : List Value} {m : Sem α} {Q : α → Shared → Prop} (h : wpN M A m Q E s) : wpN M A (holding vs m) Q E s := fun Γ p hΓ hC => by rw [Sem.wp_holding]; exact h Γ p hΓ hC
theorem wpN_keep {vs : List Value} {m : Sem α} {Q : α → Shared → Prop} (h : wpN M A m Q E s) : wpN M A (m.keep vs) Q E s := fun Γ p hΓ hC => by rw [Sem.wp_keep]; exact h Γ p hΓ hC
theorem wpN_operate {vs : List Value} {m : Sem Value} {Q : Value → Shared → Prop} (h : wpN M A m Q E s) : wpN M A (operate vs m) Q E s := fun Γ p hΓ hC => by rw [Sem.wp_operate]; exact h Γ p hΓ hC
theorem wpN_onRaise {m : Sem α} {k : Value → Sem Unit} {Q : α → Shared → Prop} (h : wpN M A m Q (fun e s' => wpAny M A (k e) (fun _ s'' => E e s'') E s') s) : wpN M A (m.onRaise k) Q E s := fun Γ p hΓ hC => by
  rw [Sem.wp_onRaise]
  exact Sem.wp_mono M Γ m (fun _ _ _ h' => h') (fun e p' s' h' => h' Γ p' hΓ) p s (h Γ p hΓ hC)
theorem wpN_run {c : Code} {h : Option Value} {Q : Flow → Shared → Prop} (hd : isDec c = false) (hc : codeN M (A.mark h) c (fun r s' => match r with | .ok f => Q f s' | .error e => E e s') s) (hnb : h ≠ some byPass := by intro x; cases x) : wpN M A (run c h) Q E s :=
  fun Γ p hΓ hC => by rw [Sem.wp_run]; exact hc _ p rfl (hΓ.enter c h p hnb) (ClB.enter hC c h p)
theorem wpN_runOwn {c : Code} {env : Env} {Q : Flow → Shared → Prop} (hd : isDec c = false) (hc : codeN M A c (fun r s' => match r with | .ok f => Q f s' | .error e => cameBackBy M A env E e s') s) : wpN M A (runOwn c env) Q E s := by
  unfold runOwn
  exact wpN_onRaise (wpN_run hd hc)
theorem wpN_call {f : Value} {pos : List Value} {kw : List (Str × Value)} {Q : Value → Shared → Prop} (hc : codeN M A (.call f ⟨pos, kw⟩) (fun r s' => match r with | .ok (.ret v) => Q v s' | .ok _ => False | .error e => E e s') s) : wpN M A (call f pos kw) Q E s :=
  fun Γ p hΓ hC => by unfold PySem.call; rw [Sem.wp_runValue]; exact hc _ p rfl (hΓ.enter _ none p (by intro x; cases x)) (ClB.enter hC _ none p)
theorem codeN_of_tree {c : Code} {R : Result → Shared → Prop} (hd : isDec c = false)
    (h : wpN M (A.under c) (M.den c) (fun fin s' => match fin with | .done f => R (.ok f) s' | .again c' => c'.quiet = true ∧ codeN M A c' R s') (fun e s' => R (.error e) s') s) : codeN M A c R s := fun Γ p hc hΓ hB => by
  rw [wpCode_iff_wp, hc]
  refine Sem.wp_mono M Γ _ (fun fin p' s' h' => ?_) (fun _ _ _ h' => h') p s (h Γ p (hc ▸ hΓ.in) ⟨by rw [hc]; exact hd, hB⟩)
  cases fin with
  | done f => exact h'
  | again c' => exact ⟨h'.1, h'.2 (Γ.goto c') p' rfl (hΓ.goto c') hB⟩
theorem codeN_mono {c : Code} {R R' : Result → Shared → Prop} (h : codeN M A c R s) (hR : ∀ r s, R r s → R' r s) : codeN M A c R' s := fun Γ p hc hΓ hB => wpCode_mono hR (h Γ p hc hΓ hB)
end
section
variable {M : Model} {A : Around} {E : Value → Shared → Prop} {s : Shared} {env : Env}
theorem wpN_execs_cons {st : Stmt} {rest : List Stmt} {Q : Flow → Shared → Prop} (h : wpN M A (exec st env) (fun f s' => match f with | .next => wpN M A (execs rest env) Q E s' | f => Q f s') E s) : wpN M A (execs (st :: rest) env) Q E s := by
  rw [execs_cons]
  refine wpN_bind (wpN_mono h (fun f s' h' => ?_) fun _ _ x => x)
  cases f <;> first | exact h' | exact wpN_pure h'
theorem wpN_Assign_Name {x : Str} {pos' : Pos} {value : Expr} {pos : Pos} {Q : Flow → Shared → Prop} (h : wpN M A (eval value env) (fun v s₁ => wpAny M A (storeName env x v) (fun _ => Q .next) E s₁) E s)
    (hs : swapsWith value (some (.Name x pos')) pos.line env = pure false := by rfl) : wpN M A (exec (.Assign [.Name x pos'] value pos) env) Q E s := by
  rw [exec_Assign_Name env x pos' value pos hs]
  exact wpN_bind (wpN_of (wpAny_standAt (wpN_bind (wpN_mono h (fun v s₁ h₁ => wpN_of (wpAny_bind (wpAny_standAt (wpAny_bind (wpAny_bindName (wpAny_mono h₁ (fun _ _ q => wpAny_pure q) fun _ _ x => x)))))) fun _ _ x => x))))
theorem wpN_If {test : Expr} {body orelse : List Stmt} {pos : Pos} {Q : Flow → Shared → Prop} (h : wpN M A (isTrue test env (eval test env)) (fun b s₂ => if b then wpN M A (execs body env) Q E s₂ else wpN M A (execs orelse env) Q E s₂) E s) :
    wpN M A (exec (.If test body orelse pos) env) Q E s := by
  rw [exec_If]
  refine wpN_bind (wpN_of (wpAny_standAt (wpN_bind (wpN_mono h (fun b s₂ h₂ => ?_) fun _ _ x => x))))
  cases b <;> exact h₂
theorem wpN_BinOp {l r : Expr} {op : Operator} {pos : Pos} {Q : Value → Shared → Prop} (h : wpAny M A (eval l env) (fun a s₁ => wpN M A (eval r env) (fun b s₂ => wpAny M A (binaryOp op a b) Q E s₂) E s₁) E s) : wpN M A (eval (.BinOp l op r pos) env) Q E s := by
  rw [eval_BinOp]
  exact wpN_bind (wpN_of (wpAny_mono h (fun a s₁ h₁ => wpN_bind (wpN_holding (wpN_mono h₁ (fun b s₂ h₂ => wpN_bind (wpN_of (wpAny_standAt (wpN_operate (wpN_of h₂))))) fun _ _ x => x))) fun _ _ x => x))
theorem wpN_isTrue_not {x : Expr} {pos : Pos} {whole : Sem Value} {Q : Bool → Shared → Prop} (h : wpN M A (isTrue x env (eval x env)) (fun c s' => Q (!c) s') E s) : wpN M A (isTrue (.UnaryOp .Not x pos) env whole) Q E s := by
  show wpN M A (do return !(← isTrue x env (eval x env))) Q E s
  exact wpN_bind (wpN_mono h (fun c s' h' => wpN_pure h') fun _ _ x => x)
theorem wpN_isTrue_plain {e : Expr} {whole : Sem Value} {Q : Bool → Shared → Prop} (h : wpN M A whole (fun v s₁ => wpAny M A (truthy v) Q E s₁) E s)
    (he : isTrue e env whole = (do let v ← whole; standAt e.pos; holding [v] (truthy v)) := by rfl) : wpN M A (isTrue e env whole) Q E s := by
  rw [he]
  exact wpN_bind (wpN_mono h (fun v s₁ h₁ => wpN_of (wpAny_bind (wpAny_standAt (wpAny_holding h₁)))) fun _ _ x => x)
theorem wpN_callWith {pos : Pos} {f : Value} {first : List Value} {P : Heap → Prop} {args : List (Bool × Sem Value)} {Q : Value → Shared → Prop} (hplain : args.any (·.1) = false)
    (hk : ∀ h, P h → ∃ k, (k = Keeper.frame ∨ k = Keeper.machine ∨ k = Keeper.boundFrame) ∧ Looks M h (keeperOf f) k)
    (h : wpAny M A (evalArgs f true args []) (fun a s₁ => P s₁.heap ∧ wpN M A (call f (first ++ a.pos) a.kw) Q E s₁) E s) : wpN M A (callWith pos f first args []) Q E s := by
  unfold callWith
  refine wpN_bind (wpN_holding (wpN_of (wpAny_mono h (fun a s₁ h₁ => wpN_bind (wpN_of (wpAny_standAt ?_))) fun _ _ x => x)))
  obtain ⟨k, hk', L⟩ := hk _ h₁.1
  have hp : (args.any (·.1) || ([] : List (Option Str × Sem Value)).any (·.1.isNone)) = false := by rw [hplain]; rfl
  simp only [hp]
  refine wpN_bind (wpN_of (L.here ?_))
  have tail : ∀ {t : Sem Value}, wpN M A t Q E s₁ → wpN M A (t >>= fun r => holding [r] point >>= fun _ => pure r) Q E s₁ :=
    fun ht => wpN_bind (wpN_mono ht (fun r s₂ hr => wpN_of (wpAny_bind (wpAny_holding (wpAny_point (wpAny_pure hr))))) fun _ _ x => x)
  have marked (mk : Value) : wpN M A (callMarked mk f (first ++ a.pos) a.kw) Q E s₁ := by unfold callMarked; exact wpN_keep h₁.2
  rcases hk' with rfl | rfl | rfl <;> dsimp only <;> first | exact tail h₁.2 | (split <;> first | exact tail h₁.2 | exact tail (marked _))
/-- a call by a name -/
theorem wpN_CallName {g : Str} {gp : Pos} {args : List Expr} {pos : Pos} {Q : Value → Shared → Prop} (h : wpAny M A (eval (.Name g gp) env) (fun f s₁ => wpN M A (callWith pos f [] (backTo pos (starEach args env)) []) Q E s₁) E s) :
    wpN M A (eval (.Call (.Name g gp) args [] pos) env) Q E s := by
  show wpN M A (eval (.Name g gp) env >>= fun f => callWith pos f [] (backTo pos (starEach args env)) (backToKw pos (keywordEach [] env))) Q E s
  exact wpN_bind (wpN_of h)
end
theorem offN2 : True := by
  w_top off
  trivial
section
variable {M : Model} {A : Around} {E : Value → Shared → Prop} {s : Shared} {env : Env}
theorem wpN_noted {α : Type} {m : Sem α} {Q : α → Shared → Prop} (h : wpN M A m Q (notedBy M A env E) s) : wpN M A (m.onRaise fun x => do noteFrame x env; theTreesLotGoes x) Q E s :=
  wpN_onRaise (wpN_mono h (fun _ _ q => q) fun _ _ hx => wpAny_bind (wpAny_mono hx (fun _ _ e => wpAny_theTreesLotGoes e) fun _ _ e => e))
theorem wpN_For {target iter : Expr} {body orelse : List Stmt} {pos : Pos} {Q : Flow → Shared → Prop}
    (h : wpAny M A (eval iter env) (fun x s₁ => wpAny M A (pyIter x) (fun it s₂ => codeN M A (.forLoop target it body orelse env) (fun r s' => match r with | .ok f => Q f s' | .error e => cameBackBy M A env E e s') s₂) E s₁) E s)
    (hs : ∀ x, foldedSetIterable iter env x = pure x := by intro _; rfl) : wpN M A (exec (.For target iter body orelse pos) env) Q E s := by
  rw [exec_For]
  exact wpN_bind (wpN_of (wpAny_standAt (wpN_bind (wpN_of (wpAny_mono h (fun x s₁ h₁ => wpN_bind (wpN_of_eq (hs x) (wpN_bind (wpN_of (wpAny_standAt (wpN_bind (wpN_holding (wpN_of
    (wpAny_mono h₁ (fun it s₂ h₂ => wpN_runOwn rfl h₂) fun _ _ h' => h'))))))))) fun _ _ h' => h')))))
end
section
variable {prog : Program} {w : World} {A : Around} {R : Result → Shared → Prop} {s : Shared}
theorem codeN_func {body : List Stmt} {env : Env}
    (h : wpN (model prog w) (A.deeper env) (execs body env) (fun f s' => R (.ok (.ret (match f with | .ret v => v | _ => .none))) s')
      (fun e s' => wpAny (model prog w) (A.deeper env) (leaving env e) (fun _ s'' => R (.error e) s'') (fun e' s'' => R (.error e') s'') s') s) :
    codeN (model prog w) A (.func body env) R s := by
  refine codeN_of_tree rfl ?_
  show wpN _ (A.deeper env) (do point; match ← (execs body env).onRaise (leaving env) with | .ret v => ret v | _ => ret .none) _ _ s
  refine wpN_bind (wpN_of (wpAny_point (wpN_bind (wpN_onRaise (wpN_mono h (fun f s' h' => ?_) fun _ _ h' => h')))))
  cases f <;> exact wpN_pure h'
theorem codeN_def {a : Addr} {o : Obj} {fd : FuncData} {body : List Stmt} {args : Args} {binds : List (Str × Value)}
    (hroom : A.depth < recursionLimit) (ho : s.heap.get? a = some o) (hdata : o.data = .func fd) (hlim : s.heap.NoLimit) (hcd : s.heap.CodeRec fd.code fd.qualname)
    (hbody : fd.body = .stmts body) (hbind : BindsTo s fd args binds)
    (hcell : ∀ x ∈ fd.scope.names, x.2 ≠ .cell) (hloc : ∀ x ∈ binds, fd.scope.names.lookup x.1 = some .local)
    (h : ∀ h₀, h₀.Ns s.heap.objs.size (fun x => binds.reverse.lookup x) → (∀ b o, s.heap.get? b = some o → h₀.get? b = some o) →
      wpN (model prog w) (A.deeper (callEnv fd s.heap.objs.size a)) (execs body (callEnv fd s.heap.objs.size a)) (fun f s' => R (.ok (.ret (match f with | .ret v => v | _ => .none))) s')
        (fun e s' => wpAny (model prog w) (A.deeper (callEnv fd s.heap.objs.size a)) (leaving (callEnv fd s.heap.objs.size a) e) (fun _ s'' => R (.error e) s'') (fun e' s'' => R (.error e') s'') s')
        { s with heap := h₀, toks := s.toks + binds.length })
    (hco : fd.scope.isCoroutine = false) (hgen : fd.scope.isGenerator = false) (hk : fd.scope.kind = .function) : codeN (model prog w) A (.call (.ref a) args) R s := by
  refine codeN_of_tree rfl (wpN_of ?_)
  show wpAny _ A.in1 (callAny (.ref a) args) _ _ s
  simp only [callAny]
  refine wpAny_bind (wpAny_load ho ?_)
  obtain ⟨c, oc, vs, tq, hc, hoc, hdc, hq⟩ := hcd
  simp only [hdata, callFunction, hco, hgen, hbody, hc]
  refine wpAny_bind (m := field (.ref c) 1) (wpAny_field hoc hdc hq (wpAny_bind (wpAny_pure ?_)))
  refine wpAny_bind (hbind _ _ _ _ ?_)
  rw [← hc]
  refine wpAny_bind (wpAny_newFunctionEnv hcell hloc (fun h₀ hns₀ hsb₀ => ?_) hk)
  refine wpAny_bind (wpAny_enterFrame (hlim.fresh _ hsb₀) hroom (wpAny_pure (And.intro rfl (codeN_func (h h₀ hns₀ fun b o e => ?_)))))
  exact hsb₀.extBut b o (Nat.ne_of_lt (Heap.lt_size e)) (Heap.get?_push_of_some _ e)
theorem codeN_turn {target : Expr} {it : Value} {body orelse : List Stmt} {env : Env}
    (h : wpAny (model prog w) A (pyNext it) (fun r s₁ => match r with
      | none => wpAny (model prog w) A (execs orelse env) (fun f s₃ => R (.ok f) s₃) (notedBy (model prog w) A env fun e s' => R (.error e) s') s₁
      | some v => wpAny (model prog w) A (assign target env v) (fun _ s₂ => wpN (model prog w) A (execs body env) (fun f s₃ => match f with
          | .next | .cont => codeN (model prog w) A (.forLoop target it body orelse env) R s₃
          | .brk => R (.ok .next) s₃
          | .ret v => R (.ok (.ret v)) s₃) (notedBy (model prog w) A env fun e s' => R (.error e) s') s₂) (notedBy (model prog w) A env fun e s' => R (.error e) s') s₁) (notedBy (model prog w) A env fun e s' => R (.error e) s') s)
    (ht : ∀ v, letOwnedTupleGo target it v = pure () := by intro _; rfl) : codeN (model prog w) A (.forLoop target it body orelse env) R s := by
  refine codeN_of_tree rfl ?_
  show wpN _ _ ((forTurn target it body orelse env).onRaise (fun x => do noteFrame x env; theTreesLotGoes x)) _ _ s
  refine wpN_noted ?_
  simp only [forTurn]
  refine wpN_bind (wpN_of (wpAny_standAt (wpN_bind (wpN_of (wpAny_onRaise (wpAny_mono h (fun r s₁ h₁ => ?_) fun _ _ h' => wpAny_standAt h'))))))
  cases r with
  | none => exact wpN_pure ⟨rfl, codeN_of (codeAny_block h₁)⟩
  | some v =>
    refine wpN_bind (wpN_of_eq (ht v) ?_)
    refine wpN_bind (wpN_of (wpAny_mono h₁ (fun _ s₂ h₂ => wpN_bind (wpN_mono h₂ (fun f s₃ h₃ => ?_) fun _ _ h' => h')) fun _ _ h' => h'))
    cases f with
    | next => exact wpN_pure ⟨rfl, h₃⟩
    | cont => exact wpN_pure ⟨rfl, h₃⟩
    | brk => exact wpN_pure h₃
    | ret v => exact wpN_pure h₃
/-- for x in range(n), turn by turn, over an invariant of the turn's number, the frame's map and the ledger -/
theorem codeN_range {env : Env} {h₀ : Heap} {x : Str} {px : Pos} {body : List Stmt} {I : Addr} {n : Nat} (hh : A.handled = none) (hx : env.kindOf x = some .local)
    (hp : (env.scope.kind == .class || (env.scope.kind == .module && env.locals != env.globals)) = false) (J : Nat → (Str → Option Value) → Led → Prop)
    (turn : ∀ i t m₁ news₁ h tk, i < n → J i m₁ news₁ → (∀ p ∈ news₁, p.1 ≠ I) → Fr h₀ env.locals h (fun y => if y = x then some (.int (i : Int) t) else m₁ y) → News h₀ env.locals h ((I, itR ((i + 1 : Nat) : Int) ((n : Int) - ((i + 1 : Nat) : Int))) :: news₁) →
      wpN (model prog w) A (execs body env) (fun f s₂ => f = .next ∧ ∃ h' tk' m₂ news₂, s₂ = { s with heap := h', toks := tk' } ∧ Fr h₀ env.locals h' m₂ ∧ News h₀ env.locals h' ((I, itR ((i + 1 : Nat) : Int) ((n : Int) - ((i + 1 : Nat) : Int))) :: news₂) ∧ (∀ p ∈ news₂, p.1 ≠ I) ∧ J (i + 1) m₂ news₂)
        (notedBy (model prog w) A env fun e s' => R (.error e) s') { s with heap := h, toks := tk })
    (done : ∀ h' tk m' news', Fr h₀ env.locals h' m' → News h₀ env.locals h' news' → J n m' news' → R (.ok .next) { s with heap := h', toks := tk }) :
    ∀ (k i : Nat) (m : Str → Option Value) (news : Led) (h : Heap) (tk : Nat), n - i = k → i ≤ n → Fr h₀ env.locals h m → News h₀ env.locals h ((I, itR (i : Int) ((n : Int) - (i : Int))) :: news) → (∀ p ∈ news, p.1 ≠ I) → J i m news →
      codeN (model prog w) A (.forLoop (.Name x px) (.ref I) body [] env) R { s with heap := h, toks := tk } := by
  intro k
  induction k with
  | zero =>
    intro i m news h tk hk hi F N off hJ
    have hin : i = n := by omega
    subst hin
    have NI := N _ (.head _)
    refine codeN_turn (wpAny_pyNext_range_end (x := (i : Int)) (left := (i : Int) - (i : Int)) (step := 1) hh NI.1 (by omega) fun h₁ he₁ => wpAny_execs_nil ?_)
    refine done h₁ tk m news ⟨F.ns.extBut he₁ (Ne.symm NI.2.1), fun b o e => he₁ b o (fun q => ?_) (F.keep b o e), F.above⟩ (fun p hp => ⟨he₁ _ _ (off p hp) (N p (.tail _ hp)).1, (N p (.tail _ hp)).2⟩) hJ
    rw [q, NI.2.2] at e; cases e
  | succ k ih =>
    intro i m news h tk hk hi F N off hJ
    have hlt : i < n := by omega
    have NI := N _ (.head _)
    refine codeN_turn (wpAny_pyNext_range_item (x := (i : Int)) (left := (n : Int) - (i : Int)) (step := 1) NI.1 (by omega) fun h₁ hit₁ hs₁ => ?_)
    have F₁ : Fr h₀ env.locals h₁ m := F.change hs₁ NI.2.1 NI.2.2
    have N₁ : News h₀ env.locals h₁ ((I, itR ((i + 1 : Nat) : Int) ((n : Int) - ((i + 1 : Nat) : Int))) :: news) := fun p hp => by
      rcases List.mem_cons.mp hp with rfl | hp
      · refine ⟨?_, NI.2⟩
        have e1 : ((i + 1 : Nat) : Int) = (i : Int) + 1 := by omega
        have e2 : (n : Int) - ((i : Int) + 1) = (n : Int) - (i : Int) - 1 := by omega
        show h₁.get? I = some (itR ((i + 1 : Nat) : Int) ((n : Int) - ((i + 1 : Nat) : Int)))
        rw [e1, e2]
        exact hit₁
      · exact ⟨(hs₁.2 _ (off p hp)).trans (N p (.tail _ hp)).1, (N p (.tail _ hp)).2⟩
    refine wpAny_assign_Name (wpAny_storeName_local hx F₁.ns (fun h₂ hn₂ hs₂ => ?_) hp)
    refine wpN_mono (turn i _ m news h₂ _ hlt hJ off (F₁.set hn₂ hs₂) (N₁.set hs₂)) (fun f s₂ hf => ?_) fun _ _ e => e
    obtain ⟨rfl, h', tk', m₂, news₂, rfl, F', N', off', hJ'⟩ := hf
    exact ih (i + 1) m₂ news₂ h' tk' (by omega) hlt F' N' off' hJ'
end
section
variable {prog : Program} {w : World} {A₀ A : Around} {s : Shared} {K : Frag} {base h₀ : Heap} {L : Addr} {m mg mb : Str → Option Value} {news : Led} {p : Program} {loose : List Str} {mean : ExcName → Option Value}
/-- the entry into a def, in the logic without decoders -/
theorem enter_keepN {env : Env} {outer : List Env} {R : Result → Shared → Prop} {name qual : Str} {params : Arguments} {body : List Stmt} {scope : Scope} {dV kV doc pm cdv ct oc : Value} {an od : Option Addr} {osl : Array (Option Value)} {f : Addr} {args : Args} {binds : List (Str × Value)}
    (B : Below A₀ base outer h₀) (F : Fr h₀ L s.heap m) (X₀ : K.In h₀) (N : News h₀ L s.heap news) (T : Top p loose mean mg mb h₀) (hA : A.frames = some (env :: outer)) (hf : env.frame = some L) (hke : env.scope.kind = .function)
    (ho : K.lookup f = some ⟨oc, od, .func (fnOf name qual params body scope dV kV doc pm an cdv ct), osl⟩) (hcd : codeIn K cdv qual = true) (hroom : A.depth < recursionLimit)
    (hbind : BindsTo s (fnOf name qual params body scope dV kV doc pm an cdv ct) args binds) (hloc : ∀ y ∈ binds, scope.names.lookup y.1 = some .local)
    (h : ∀ g L' h₁, Fr h₀ L g m → Fr g L' h₁ (fun y => binds.reverse.lookup y) → News g L' h₁ news → Below A base (env :: outer) g → K.In g → Top p loose mean mg mb g →
      (∀ b o, s.heap.get? b = some o → b ∉ news.map (·.1) → g.get? b = some o) → (∀ p ∈ news, p.1 < L') →
      wpN (model prog w) (A.deeper (envOf qual scope L' f cdv)) (execs body (envOf qual scope L' f cdv))
        (fun fl s' => LeaveK h₀ L m g R (match fl with | .ret v => v | _ => .none) s')
        (fun e s' => wpAny (model prog w) (A.deeper (envOf qual scope L' f cdv)) (leaving (envOf qual scope L' f cdv) e) (fun _ s'' => R (.error e) s'') (fun e' s'' => R (.error e') s'') s')
        { s with heap := h₁, toks := s.toks + binds.length })
    (hco : scope.isCoroutine = false) (hgen : scope.isGenerator = false) (hk : scope.kind = .function)
    (hcell : ∀ x ∈ scope.names, x.2 ≠ .cell) : codeN (model prog w) A (.call (.ref f) args) R s := by
  obtain ⟨FG, BG, st, lv⟩ := groundX (R := R) B F N hA hf hke
  have X := X₀.keeps F.keep
  refine codeN_def (fd := fnOf name qual params body scope dV kV doc pm an cdv ct) (body := body) (binds := binds) hroom (X _ _ ho) rfl (T.nolimit.keeps F.keep) (codeRec_of X hcd) rfl hbind hcell hloc (fun h₁ hns hk₁ => ?_) hco hgen hk
  have F' : Fr (hideAll s.heap (news.map (·.1))) s.heap.objs.size h₁ (fun y => binds.reverse.lookup y) := ⟨hns, fun b o e => hk₁ b o (of_hideAll _ e), Nat.le_of_eq (hideAll_size _ _)⟩
  have N' : News (hideAll s.heap (news.map (·.1))) s.heap.objs.size h₁ news := fun p hp => ⟨hk₁ _ _ (N p hp).1, Nat.ne_of_lt (Heap.lt_size (N p hp).1), hideAll_none _ (List.mem_map_of_mem hp)⟩
  have main := h _ s.heap.objs.size h₁ FG F' N' BG (X₀.keeps st) (T.keeps st) (fun b o e hb => hideAll_get _ e hb) fun p hp => Heap.lt_size (N p hp).1
  exact wpN_mono main (fun fl s' hl => lv _ _ hl) fun _ _ y => y
end
theorem offNT : True := by
  w_top off
  trivial
open PySem.Calls
/-- a tree that first looks at the stack: where a decoder stands on it, it hands back True at once -/
def lookedV (t : Sem Value) : Sem Value := stack >>= fun st => if (st.all fun c => !isDec c.1) = true then t else pure (.bool true)
def lookedF (t : Sem Fin) : Sem Fin := stack >>= fun st => if (st.all fun c => !isDec c.1) = true then t else ret (.bool true)
theorem cl_iff {Γ : Ctx} {p : Pos} : (((Γ.code, p) :: Γ.below).all fun c => !isDec c.1) = true ↔ Cl Γ := by
  rw [List.all_cons, Bool.and_eq_true, List.all_eq_true, Bool.not_eq_true']
  exact ⟨fun h => ⟨h.1, fun c hc => by have := h.2 c hc; rwa [Bool.not_eq_true'] at this⟩, fun h => ⟨h.1, fun c hc => by rw [Bool.not_eq_true']; exact h.2 c hc⟩⟩
theorem wpAny_lookedV {M : Model} {A : Around} {t : Sem Value} {Q : Value → Shared → Prop} {E : Value → Shared → Prop} {s : Shared} (h : wpN M A t Q E s) (hb : Q (.bool true) s) : wpAny M A (lookedV t) Q E s := fun Γ p hΓ => by
  show Sem.wp M Γ (if (((Γ.code, p) :: Γ.below).all fun c => !isDec c.1) = true then t else pure (.bool true)) (fun a _ s' => Q a s') (fun e _ s' => E e s') p s
  by_cases hc : (((Γ.code, p) :: Γ.below).all fun c => !isDec c.1) = true
  · rw [if_pos hc]; exact h Γ p hΓ (cl_iff.mp hc)
  · rw [if_neg hc]; exact hb
theorem lookedF_of {prog : Program} {w : World} {name : Str} {f : Value} {vs : List Value} {mg : Str → Option Value} {Q : Fin → Shared → Prop} {E : Value → Shared → Prop} {s : Shared} (hg : s.heap.Ns mainGlobals mg) (hf : mg name = some f)
    (h : wpAny (model prog w) callerA (lookedV (PySem.call f vs)) (fun v s' => Q (.done (.ret v)) s') E s) :
    wpAny (model prog w) callerA (lookedF (do match ← nsGet mainNs name with
      | some f => do ret (← PySem.call f vs)
      | none => unsupported "claim.caller:no-such-global")) Q E s := by
  have hN : wpN (model prog w) callerA (PySem.call f vs) (fun v s' => Q (.done (.ret v)) s') E s := fun Γ p hΓ hC => by
    have x : Sem.wp (model prog w) Γ (if (((Γ.code, p) :: Γ.below).all fun c => !isDec c.1) = true then PySem.call f vs else pure (.bool true)) (fun v _ s' => Q (.done (.ret v)) s') (fun e _ s' => E e s') p s := h Γ p hΓ
    rw [if_pos (cl_iff.mpr hC)] at x
    exact x
  have hT : wpN (model prog w) callerA (do match ← nsGet mainNs name with
      | some f => do ret (← PySem.call f vs)
      | none => unsupported "claim.caller:no-such-global") Q E s :=
    wpN_bind (wpN_of (wpAny_nsGet hg (by rw [hf]; exact wpN_bind (wpN_mono hN (fun _ _ x => wpN_pure x) fun _ _ x => x))))
  intro Γ p hΓ
  show Sem.wp (model prog w) Γ (if (((Γ.code, p) :: Γ.below).all fun c => !isDec c.1) = true then _ else ret (.bool true)) (fun a _ s' => Q a s') (fun e _ s' => E e s') p s
  by_cases hc : (((Γ.code, p) :: Γ.below).all fun c => !isDec c.1) = true
  · rw [if_pos hc]; exact hT Γ p hΓ (cl_iff.mp hc)
  · have x : Sem.wp (model prog w) Γ (if (((Γ.code, p) :: Γ.below).all fun c => !isDec c.1) = true then PySem.call f vs else pure (.bool true)) (fun v _ s' => Q (.done (.ret v)) s') (fun e _ s' => E e s') p s := h Γ p hΓ
    rw [if_neg hc] at x ⊢
    exact x
theorem looked_step {prog : Program} {w : World} {t : Sem Fin} {s s' : Shared} {o : Outcome} {n : Nat} (hr : s.asleep) (h : schedN (denote table) prog w n (.single s ⟨lookedF t, .builtin "claim.caller" {}, default, []⟩) = .halted o s') :
    ∃ m, schedN (denote table) prog w m (.single s ⟨t, .builtin "claim.caller" {}, default, []⟩) = .halted o s' := by
  cases n with
  | zero => cases h
  | succ n =>
    have e1 : step (denote table) prog w s ⟨lookedF t, .builtin "claim.caller" {}, default, []⟩ = .go s ⟨t, .builtin "claim.caller" {}, default, []⟩ := rfl
    rcases sstep_single (den := denote table) (prog := prog) (w := w) s ⟨lookedF t, .builtin "claim.caller" {}, default, []⟩ rfl hr with e | e
    · rw [e1] at e
      unfold schedN at h
      rw [e] at h
      exact ⟨n, h⟩
    · rw [e1] at e
      cases e
theorem holds_looked {c : ClaimW} {tree : List Value → Sem Fin} {defs keeps : List Str} {writes : Bool} (H : c.HoldsOpenBy (fun vs => ⟨lookedF (tree vs), .builtin "claim.caller" {}, default, []⟩) defs keeps writes) : c.HoldsOpenBy (fun vs => ⟨tree vs, .builtin "claim.caller" {}, default, []⟩) defs keeps writes := by
  obtain ⟨a, b, k⟩ := H
  refine ⟨a, b, fun w => ⟨(k w).1, fun s hs => ?_⟩⟩
  obtain ⟨s₀, h1, h2, s₁, h3, h4, h5, h6, h7⟩ := (k w).2 s hs
  refine ⟨s₀, h1, h2, s₁, h3, h4, h5, h6, fun args p1 p2 ord p3 => ?_⟩
  obtain ⟨vs, s₂, l, n, o, s', r, rest⟩ := h7 args p1 p2 ord p3
  have z : s₂.asleep := Shared.asleep_of_life (layAllW_rest _ _ _ l).2.2.2 (Shared.asleep_of_life h3.2.1 (Shared.asleep_of_life (fence_lifeW h1) (AfterImport.life hs)))
  obtain ⟨m, r'⟩ := looked_step z r
  exact ⟨vs, s₂, l, m, o, s', r', rest⟩
/-- what the walk has to show of the law, in the logic without decoders -/
abbrev WalkON (q : Program) (loose : List Str) (XP : (Str → Option Value) → Heap → Prop) (YP : World → Heap → Prop) (r : RowW) (d : DefRec) (kwd : List (Str × Expr)) : Prop :=
  ∀ (w : World) (s₀ s₁ : Shared) (mg mb : Str → Option Value), Ground q loose r.records XP w s₀ mg mb s₁.heap → YP w s₁.heap → ∀ (a : Addr) (o : Obj) (pm cd doc dV kV : Value), s₁.heap.get? a = some o →
    o.data = .func { docDef d.name d.params d.body d.scope pm cd doc with defaults := dV, kwdefaults := kV } → s₁.heap.CodeRec cd d.name → Dflts mg s₁.heap d.params kwd dV kV → mg d.name = some (.ref a) → s₁.gens = #[] →
    ∀ (args : List WData) (vals : List Value) (as : List Addr), r.claim.pre args = true → WData.layableAll args = true → ReadsAllW r.records (classAt s₀.heap) s₁.heap vals args as → WellAll w.params s₁.heap vals args → (∀ a ∈ as, (a == sysModules) = false) →
      wpN (model r.prog w) callerA (PySem.call (.ref a) vals) (fun v s' => GoodWG r.claim (classAt s₀.heap) (ExcName.means s₀.heap) args s₁ (.ok (.ret v)) s')
        (fun e s' => GoodWG r.claim (classAt s₀.heap) (ExcName.means s₀.heap) args s₁ (.error e) s') s₁ ∧ GoodWG r.claim (classAt s₀.heap) (ExcName.means s₀.heap) args s₁ (.ok (.ret (.bool true))) s₁
theorem PySem.W.holds_open {r : OpenRow} {q : Program} {loose : List Str} {Xt : Shared → Bool} {XP : (Str → Option Value) → Heap → Prop} {α : Type} {Yf : Shared → α} {Ya : World → α} {YP : World → Heap → Prop} {d : DefRec} {kwd : List (Str × Expr)} {N : Nat}
    (left : ∀ w, (openEnds treeTable r.prog w N).map (fun s => (openSeen q loose (importedModules r.prog.main.body) Xt true s, Yf s)) = some (openGood q loose, Ya w)) (hY : ∀ w s, Yf s = Ya w → YP w s.heap) (hYk : ∀ w h h', YP w h → (∀ b o, h.get? b = some o → h'.get? b = some o) → YP w h')
    (hX : ∀ s, Xt s = true → XP (s.heap.nsMap mainGlobals) s.heap) (hXk : ∀ mg h h', XP mg h → (∀ b o, h.get? b = some o → h'.get? b = some o) → XP mg h')
    (hdef : defOf q r.name = some (d, kwd)) (hp : r.prog.theDef r.name = some (d.params, d.body, d.scope)) (hk : kwWritten? d.params.kwonlyargs d.params.kw_defaults = some kwd) (hRf : ∀ s, Xt s = true → RecFacts r.records s.heap) (hwr : (!r.writes || r.records.isEmpty) = true)
    (k1 : r.wellSaid = true) (ok : (chainsOk q && opensWell r.prog && (frees r.toRowW && r.within.isEmpty)) = true) (hb : r.prog.bare) (hw : r.toRowW.promised)
    (call : WalkON q loose XP YP r.toRowW d kwd) : r.Holds :=
  ⟨k1, hw, holds_looked (open_anyG (r := r.toRowW) (run := fun f vs => lookedV (PySem.call f vs)) (tree := fun vs => lookedF (do match ← nsGet mainNs r.name with
      | some f => do ret (← PySem.call f vs)
      | none => unsupported "claim.caller:no-such-global")) left hY hYk hX hXk hRf hwr ok hb hw
    (fun vs w s mg f Q E hg hf h => lookedF_of hg hf h)
    (fun w s hg G n hn => by
      obtain rfl : n = r.name := by split at hn <;> simp_all
      exact pinned_of_view hg G hdef hp hk)
    fun w s₀ s₁ mg mb G Y args vs as hpre hlay L low => by
      obtain ⟨a, o, pm, cd, doc, dV, kV, h1, h2, h3, h4, h5⟩ := G.fn hdef
      have z := call w s₀ s₁ mg mb G Y a o pm cd doc dV kV h2 h3 h4 h5 (defOf_name hdef ▸ h1) L.gens args vs as hpre hlay L.reads L.well (L.low low)
      exact ⟨.ref a, h1, wpAny_lookedV z.1 z.2⟩)⟩
open_top hd for PySem.Challenge.rw_nt0096_01
theorem offHdr : True := by
  w_top off
  trivial
section
variable {prog : Program} {w : World} {A₀ A : Around} {s : Shared} {K : Frag} {base h₀ : Heap} {L : Addr} {m mg mb : Str → Option Value} {news : Led} {p : Program} {loose : List Str} {mean : ExcName → Option Value}
/-- the entry into a def; besides the frame it tells that all that stood (but the ledger's own objects) stands in the ground of the new frame -/
theorem enter_keep {env : Env} {outer : List Env} {R : Result → Shared → Prop} {name qual : Str} {params : Arguments} {body : List Stmt} {scope : Scope} {dV kV doc pm cdv ct oc : Value} {an od : Option Addr} {osl : Array (Option Value)} {f : Addr} {args : Args} {binds : List (Str × Value)}
    (B : Below A₀ base outer h₀) (F : Fr h₀ L s.heap m) (X₀ : K.In h₀) (N : News h₀ L s.heap news) (T : Top p loose mean mg mb h₀) (hA : A.frames = some (env :: outer)) (hf : env.frame = some L) (hke : env.scope.kind = .function)
    (ho : K.lookup f = some ⟨oc, od, .func (fnOf name qual params body scope dV kV doc pm an cdv ct), osl⟩) (hcd : codeIn K cdv qual = true) (hroom : A.depth < recursionLimit)
    (hbind : BindsTo s (fnOf name qual params body scope dV kV doc pm an cdv ct) args binds) (hloc : ∀ y ∈ binds, scope.names.lookup y.1 = some .local)
    (h : ∀ g L' h₁, Fr h₀ L g m → Fr g L' h₁ (fun y => binds.reverse.lookup y) → News g L' h₁ news → Below A base (env :: outer) g → K.In g → Top p loose mean mg mb g →
      (∀ b o, s.heap.get? b = some o → b ∉ news.map (·.1) → g.get? b = some o) → (∀ p ∈ news, p.1 < L') →
      wpAny (model prog w) (A.deeper (envOf qual scope L' f cdv)) (execs body (envOf qual scope L' f cdv))
        (fun fl s' => LeaveK h₀ L m g R (match fl with | .ret v => v | _ => .none) s')
        (fun e s' => wpAny (model prog w) (A.deeper (envOf qual scope L' f cdv)) (leaving (envOf qual scope L' f cdv) e) (fun _ s'' => R (.error e) s'') (fun e' s'' => R (.error e') s'') s')
        { s with heap := h₁, toks := s.toks + binds.length })
    (hco : scope.isCoroutine = false) (hgen : scope.isGenerator = false) (hk : scope.kind = .function)
    (hcell : ∀ x ∈ scope.names, x.2 ≠ .cell) : codeAny (model prog w) A (.call (.ref f) args) R s := by
  obtain ⟨FG, BG, st, lv⟩ := groundX (R := R) B F N hA hf hke
  have X := X₀.keeps F.keep
  refine codeAny_call_def (fd := fnOf name qual params body scope dV kV doc pm an cdv ct) (body := body) (binds := binds) hroom (X _ _ ho) rfl (T.nolimit.keeps F.keep) (codeRec_of X hcd) rfl hbind hcell hloc (fun h₁ hns hk₁ => ?_) hco hgen hk
  have F' : Fr (hideAll s.heap (news.map (·.1))) s.heap.objs.size h₁ (fun y => binds.reverse.lookup y) := ⟨hns, fun b o e => hk₁ b o (of_hideAll _ e), Nat.le_of_eq (hideAll_size _ _)⟩
  have N' : News (hideAll s.heap (news.map (·.1))) s.heap.objs.size h₁ news := fun p hp => ⟨hk₁ _ _ (N p hp).1, Nat.ne_of_lt (Heap.lt_size (N p hp).1), hideAll_none _ (List.mem_map_of_mem hp)⟩
  have main := h _ s.heap.objs.size h₁ FG F' N' BG (X₀.keeps st) (T.keeps st) (fun b o e hb => hideAll_get _ e hb) fun p hp => Heap.lt_size (N p hp).1
  exact wpAny_mono main (fun fl s' hl => lv _ _ hl) fun _ _ y => y
end
/-- the contract of a def of the text that changes nothing that stood: from any frame whose ledger holds `own`, the call hands back a value and new objects as `post` says -/
def FnR (w : World) (mean : ExcName → Option Value) (mg mb : Str → Option Value) (dk : Nat) (f : Addr) (vs : List Value) (own : Led) (post : Value → Led → Prop) : Prop :=
  ∀ (dp un : Nat) (gd : Option (List Code)) (cn : Str) (cs : Scope) (a : Addr) (ccd : Value) (cl : List (Str × Addr)) (outer : List Env) (A₀ : Around) (base h₀ : Heap) (L : Addr) (m : Str → Option Value) (s : Shared) (Q E : Value → Shared → Prop),
    Below A₀ base outer h₀ → Fr h₀ L s.heap m → (hd.heap_39 w.params).In h₀ → News h₀ L s.heap own → Top hd.view_39 (looseW hd.view_39 [Str.ofString "WORD"]) mean mg mb h₀ → cs.kind = .function → dp + dk < recursionLimit → un + 8 * dk < cLine →
    (∀ v new h' tk', post v new → Fr h₀ L h' m → News h₀ L h' new → (∀ p ∈ new, s.heap.get? p.1 = none) → (∀ b o, s.heap.get? b = some o → h'.get? b = some o) → Q v { s with heap := h', toks := tk' }) →
    wpAny (model PySem.Challenge.rw_nt0096_01.row.prog w) (ktrTop dp un gd cn cs L a ccd cl outer) (call (.ref f) vs) Q E s
/-- the contract of a def that changes one object of the ledger -/
def FnU (w : World) (mean : ExcName → Option Value) (mg mb : Str → Option Value) (dk : Nat) (f : Addr) (vs : List Value) (l : Addr) (o : Obj) (post : Value → Obj → Prop) : Prop :=
  ∀ (dp un : Nat) (gd : Option (List Code)) (cn : Str) (cs : Scope) (a : Addr) (ccd : Value) (cl : List (Str × Addr)) (outer : List Env) (A₀ : Around) (base h₀ : Heap) (L : Addr) (m : Str → Option Value) (s : Shared) (Q E : Value → Shared → Prop),
    Below A₀ base outer h₀ → Fr h₀ L s.heap m → (hd.heap_39 w.params).In h₀ → News h₀ L s.heap [(l, o)] → Top hd.view_39 (looseW hd.view_39 [Str.ofString "WORD"]) mean mg mb h₀ → cs.kind = .function → dp + dk < recursionLimit → un + 8 * dk < cLine →
    (∀ v o' h' tk', post v o' → Fr h₀ L h' m → News h₀ L h' [(l, o')] → (∀ b o, b ≠ l → s.heap.get? b = some o → h'.get? b = some o) → Q v { s with heap := h', toks := tk' }) →
    wpAny (model PySem.Challenge.rw_nt0096_01.row.prog w) (ktrTop dp un gd cn cs L a ccd cl outer) (call (.ref f) vs) Q E s
section
variable {w : World} {mean : ExcName → Option Value} {mg mb : Str → Option Value} {dk : Nat} {f : Addr} {vs : List Value} {own : Led}
    {dp un : Nat} {gd : Option (List Code)} {cn : Str} {cs : Scope} {a : Addr} {ccd : Value} {cl : List (Str × Addr)} {outer : List Env} {A₀ : Around} {base h₀ : Heap} {L : Addr} {m : Str → Option Value} {s : Shared} {Q E : Value → Shared → Prop} {news : Led}
theorem fnR_use {post : Value → Led → Prop} (H : FnR w mean mg mb dk f vs own post)
    (B : Below A₀ base outer h₀) (F : Fr h₀ L s.heap m) (X : (hd.heap_39 w.params).In h₀) (N : News h₀ L s.heap news) (T : Top hd.view_39 (looseW hd.view_39 [Str.ofString "WORD"]) mean mg mb h₀) (hk : cs.kind = .function) (hd' : dp + dk < recursionLimit) (hu : un + 8 * dk < cLine)
    (sub : ∀ p ∈ own, p ∈ news)
    (k : ∀ v new h' tk', post v new → Fr h₀ L h' m → News h₀ L h' (new ++ news) → (∀ p ∈ new, ∀ q ∈ news, q.1 ≠ p.1) → Q v { s with heap := h', toks := tk' }) :
    wpAny (model PySem.Challenge.rw_nt0096_01.row.prog w) (ktrTop dp un gd cn cs L a ccd cl outer) (call (.ref f) vs) Q E s := by
  refine H _ _ _ _ _ _ _ _ _ _ _ _ _ _ _ _ _ B F X (fun p hp => N p (sub p hp)) T hk hd' hu fun v new h' tk' hp F' N' fresh keep => ?_
  refine k v new h' tk' hp F' (fun p hm => ?_) fun p hm q hq e => ?_
  · rcases List.mem_append.mp hm with hm | hm
    · exact N' p hm
    · exact ⟨keep _ _ (N p hm).1, (N p hm).2⟩
  · have h1 := fresh p hm
    rw [← e, (N q hq).1] at h1
    cases h1
theorem fnU_use {l : Addr} {o : Obj} {post : Value → Obj → Prop} {news' : Obj → Led} (H : FnU w mean mg mb dk f vs l o post)
    (B : Below A₀ base outer h₀) (F : Fr h₀ L s.heap m) (X : (hd.heap_39 w.params).In h₀) (N : News h₀ L s.heap news) (T : Top hd.view_39 (looseW hd.view_39 [Str.ofString "WORD"]) mean mg mb h₀) (hk : cs.kind = .function) (hd' : dp + dk < recursionLimit) (hu : un + 8 * dk < cLine)
    (U : ∀ o', Upd l o o' news (news' o'))
    (k : ∀ v o' h' tk', post v o' → Fr h₀ L h' m → News h₀ L h' (news' o') → Q v { s with heap := h', toks := tk' }) :
    wpAny (model PySem.Challenge.rw_nt0096_01.row.prog w) (ktrTop dp un gd cn cs L a ccd cl outer) (call (.ref f) vs) Q E s := by
  obtain ⟨pre₀, post₀, e₀, _, _, _⟩ := (U o).split
  have hm : (l, o) ∈ news := by rw [e₀]; simp
  refine H _ _ _ _ _ _ _ _ _ _ _ _ _ _ _ _ _ B F X (fun p hp => by rw [List.mem_singleton.mp hp]; exact N _ hm) T hk hd' hu fun v o' h' tk' hp F' N' keep => ?_
  refine k v o' h' tk' hp F' fun p hq => ?_
  obtain ⟨pre, post', e1, e2, h1, h2⟩ := (U o').split
  rw [e2] at hq
  have hN : ∀ q ∈ pre ++ (l, o) :: post', s.heap.get? q.1 = some q.2 ∧ q.1 ≠ L ∧ h₀.get? q.1 = none := fun q hq => N q (by rw [e1]; exact hq)
  rcases List.mem_append.mp hq with hq | hq
  · have := hN p (List.mem_append_left _ hq)
    exact ⟨keep _ _ (h1 p hq) this.1, this.2⟩
  · rcases List.mem_cons.mp hq with rfl | hq
    · exact N' _ (.head _)
    · have := hN p (List.mem_append_right _ (.tail _ hq))
      exact ⟨keep _ _ (h2 p hq) this.1, this.2⟩
end
section
variable {h₀ g : Heap} {L L' : Addr} {m m' : Str → Option Value} {own led led' : Led} {s : Shared} {Q : Value → Shared → Prop} {h' : Heap} {tk' : Nat}
theorem retR {post : Value → Led → Prop} {v : Value} (new : Led)
    (k : ∀ v new h' tk', post v new → Fr h₀ L h' m → News h₀ L h' new → (∀ p ∈ new, s.heap.get? p.1 = none) → (∀ b o, s.heap.get? b = some o → h'.get? b = some o) → Q v { s with heap := h', toks := tk' })
    (N₀ : News h₀ L s.heap own) (gk : ∀ b o, s.heap.get? b = some o → b ∉ own.map (·.1) → g.get? b = some o)
    (F : Fr h₀ L h' m) (N : News h₀ L h' led) (F' : Fr g L' h' m') (N' : News g L' h' led')
    (hn : ∀ p ∈ new, p ∈ led) (hn' : ∀ p ∈ new, p ∈ led') (ho : ∀ p ∈ own, p ∈ led) (off : ∀ p ∈ new, ∀ q ∈ own, q.1 ≠ p.1) (hp : post v new) : Q v { s with heap := h', toks := tk' } := by
  refine k v new h' tk' hp F (fun p hm => N p (hn p hm)) (fun p hm => ?_) fun b o e => ?_
  · cases q : s.heap.get? p.1 with
    | none => rfl
    | some o =>
      have h1 : p.1 ∉ own.map (·.1) := fun hq => by
        obtain ⟨r, hr, e⟩ := List.mem_map.mp hq
        exact off p hm r hr e
      have h2 := gk _ _ q h1
      rw [(N' p (hn' p hm)).2.2] at h2
      cases h2
  · by_cases hb : b ∈ own.map (·.1)
    · obtain ⟨r, hr, rfl⟩ := List.mem_map.mp hb
      rw [(N₀ r hr).1] at e
      rw [(N r (ho r hr)).1]
      exact e
    · exact F'.keep _ _ (gk _ _ e hb)
theorem retU {l : Addr} {o o' : Obj} {post : Value → Obj → Prop} {v : Value}
    (k : ∀ v o' h' tk', post v o' → Fr h₀ L h' m → News h₀ L h' [(l, o')] → (∀ b o, b ≠ l → s.heap.get? b = some o → h'.get? b = some o) → Q v { s with heap := h', toks := tk' })
    (gk : ∀ b x, s.heap.get? b = some x → b ∉ [(l, o)].map (·.1) → g.get? b = some x)
    (F : Fr h₀ L h' m) (N : News h₀ L h' led) (F' : Fr g L' h' m')
    (hn : (l, o') ∈ led) (hp : post v o') : Q v { s with heap := h', toks := tk' } := by
  refine k v o' h' tk' hp F (fun p hm => by rw [List.mem_singleton.mp hm]; exact N _ hn) fun b x hb e => F'.keep _ _ (gk _ _ e ?_)
  simpa using hb
end
def PI (x : Int) : Value → Led → Prop := fun v new => new = [] ∧ ∃ t, v = .int x t
def PF (P : Prop) (x : Int) : Value → Led → Prop := fun v new => new = [] ∧ P ∧ ∃ t, v = .int x t
def PB (x : Bool) : Value → Led → Prop := fun v new => new = [] ∧ v = .bool x
def PT2 (x y : Int) : Value → Led → Prop := fun v new => ∃ D t u, v = .ref D ∧ new = [(D, { cls := .type "tuple", data := .seq #[.int x t, .int y u] })]
def PY (ks : List Int) : Value → Led → Prop := fun v new => new = [] ∧ ∃ b t, v = .bytes b t ∧ KBw.bInts b = ks
section
variable {w : World} {mean : ExcName → Option Value} {mg mb : Str → Option Value} {dk : Nat} {f : Addr} {vs : List Value} {own : Led}
    {dp un : Nat} {gd : Option (List Code)} {cn : Str} {cs : Scope} {a : Addr} {ccd : Value} {cl : List (Str × Addr)} {outer : List Env} {A₀ : Around} {base h₀ : Heap} {L : Addr} {m : Str → Option Value} {s : Shared} {Q E : Value → Shared → Prop} {news : Led}
theorem fnI_use {x : Int} (H : FnR w mean mg mb dk f vs own (PI x))
    (B : Below A₀ base outer h₀) (F : Fr h₀ L s.heap m) (X : (hd.heap_39 w.params).In h₀) (N : News h₀ L s.heap news) (T : Top hd.view_39 (looseW hd.view_39 [Str.ofString "WORD"]) mean mg mb h₀) (hk : cs.kind = .function) (hd' : dp + dk < recursionLimit) (hu : un + 8 * dk < cLine) (sub : ∀ p ∈ own, p ∈ news) (k : ∀ t h' tk', Fr h₀ L h' m → News h₀ L h' news → Q (.int x t) { s with heap := h', toks := tk' }) :
    wpAny (model PySem.Challenge.rw_nt0096_01.row.prog w) (ktrTop dp un gd cn cs L a ccd cl outer) (call (.ref f) vs) Q E s :=
  fnR_use H B F X N T hk hd' hu sub fun v new h' tk' hp F' N' _ => by obtain ⟨rfl, t, rfl⟩ := hp; exact k t h' tk' F' N'
theorem fnF_use {P : Prop} {x : Int} (H : FnR w mean mg mb dk f vs own (PF P x))
    (B : Below A₀ base outer h₀) (F : Fr h₀ L s.heap m) (X : (hd.heap_39 w.params).In h₀) (N : News h₀ L s.heap news) (T : Top hd.view_39 (looseW hd.view_39 [Str.ofString "WORD"]) mean mg mb h₀) (hk : cs.kind = .function) (hd' : dp + dk < recursionLimit) (hu : un + 8 * dk < cLine) (sub : ∀ p ∈ own, p ∈ news) (k : ∀ t h' tk', P → Fr h₀ L h' m → News h₀ L h' news → Q (.int x t) { s with heap := h', toks := tk' }) :
    wpAny (model PySem.Challenge.rw_nt0096_01.row.prog w) (ktrTop dp un gd cn cs L a ccd cl outer) (call (.ref f) vs) Q E s :=
  fnR_use H B F X N T hk hd' hu sub fun v new h' tk' hp F' N' _ => by obtain ⟨rfl, p, t, rfl⟩ := hp; exact k t h' tk' p F' N'
theorem fnB_use {x : Bool} (H : FnR w mean mg mb dk f vs own (PB x))
    (B : Below A₀ base outer h₀) (F : Fr h₀ L s.heap m) (X : (hd.heap_39 w.params).In h₀) (N : News h₀ L s.heap news) (T : Top hd.view_39 (looseW hd.view_39 [Str.ofString "WORD"]) mean mg mb h₀) (hk : cs.kind = .function) (hd' : dp + dk < recursionLimit) (hu : un + 8 * dk < cLine) (sub : ∀ p ∈ own, p ∈ news) (k : ∀ h' tk', Fr h₀ L h' m → News h₀ L h' news → Q (.bool x) { s with heap := h', toks := tk' }) :
    wpAny (model PySem.Challenge.rw_nt0096_01.row.prog w) (ktrTop dp un gd cn cs L a ccd cl outer) (call (.ref f) vs) Q E s :=
  fnR_use H B F X N T hk hd' hu sub fun v new h' tk' hp F' N' _ => by obtain ⟨rfl, rfl⟩ := hp; exact k h' tk' F' N'
theorem fnT_use {x y : Int} (H : FnR w mean mg mb dk f vs own (PT2 x y))
    (B : Below A₀ base outer h₀) (F : Fr h₀ L s.heap m) (X : (hd.heap_39 w.params).In h₀) (N : News h₀ L s.heap news) (T : Top hd.view_39 (looseW hd.view_39 [Str.ofString "WORD"]) mean mg mb h₀) (hk : cs.kind = .function) (hd' : dp + dk < recursionLimit) (hu : un + 8 * dk < cLine) (sub : ∀ p ∈ own, p ∈ news)
    (k : ∀ D t u h' tk', Fr h₀ L h' m → News h₀ L h' ((D, { cls := .type "tuple", data := .seq #[.int x t, .int y u] }) :: news) → (∀ q ∈ news, q.1 ≠ D) → Q (.ref D) { s with heap := h', toks := tk' }) :
    wpAny (model PySem.Challenge.rw_nt0096_01.row.prog w) (ktrTop dp un gd cn cs L a ccd cl outer) (call (.ref f) vs) Q E s :=
  fnR_use H B F X N T hk hd' hu sub fun v new h' tk' hp F' N' ne => by obtain ⟨D, t, u, rfl, rfl⟩ := hp; exact k D t u h' tk' F' N' (ne _ (.head _))
theorem fnY_use {ks : List Int} (H : FnR w mean mg mb dk f vs own (PY ks))
    (B : Below A₀ base outer h₀) (F : Fr h₀ L s.heap m) (X : (hd.heap_39 w.params).In h₀) (N : News h₀ L s.heap news) (T : Top hd.view_39 (looseW hd.view_39 [Str.ofString "WORD"]) mean mg mb h₀) (hk : cs.kind = .function) (hd' : dp + dk < recursionLimit) (hu : un + 8 * dk < cLine) (sub : ∀ p ∈ own, p ∈ news) (k : ∀ b t h' tk', KBw.bInts b = ks → Fr h₀ L h' m → News h₀ L h' news → Q (.bytes b t) { s with heap := h', toks := tk' }) :
    wpAny (model PySem.Challenge.rw_nt0096_01.row.prog w) (ktrTop dp un gd cn cs L a ccd cl outer) (call (.ref f) vs) Q E s :=
  fnR_use H B F X N T hk hd' hu sub fun v new h' tk' hp F' N' _ => by obtain ⟨rfl, b, t, rfl, e⟩ := hp; exact k b t h' tk' e F' N'
end
section
variable {h₀ g : Heap} {L L' : Addr} {m m' : Str → Option Value} {own led led' : Led} {s : Shared} {Q : Value → Shared → Prop} {h' : Heap} {tk' : Nat}
theorem retI {x y : Int} {t : Tok} (k : ∀ v new h' tk', PI x v new → Fr h₀ L h' m → News h₀ L h' new → (∀ p ∈ new, s.heap.get? p.1 = none) → (∀ b o, s.heap.get? b = some o → h'.get? b = some o) → Q v { s with heap := h', toks := tk' }) (N₀ : News h₀ L s.heap own) (gk : ∀ b o, s.heap.get? b = some o → b ∉ own.map (·.1) → g.get? b = some o) (F : Fr h₀ L h' m) (N : News h₀ L h' led) (F' : Fr g L' h' m') (N' : News g L' h' led') (ho : ∀ p ∈ own, p ∈ led) (e : y = x) : Q (.int y t) { s with heap := h', toks := tk' } :=
  retR [] k N₀ gk F N F' N' (fun _ h => nomatch h) (fun _ h => nomatch h) ho (fun _ h => nomatch h) ⟨rfl, t, by rw [e]⟩
theorem retF {P : Prop} {x y : Int} {t : Tok} (k : ∀ v new h' tk', PF P x v new → Fr h₀ L h' m → News h₀ L h' new → (∀ p ∈ new, s.heap.get? p.1 = none) → (∀ b o, s.heap.get? b = some o → h'.get? b = some o) → Q v { s with heap := h', toks := tk' }) (N₀ : News h₀ L s.heap own) (gk : ∀ b o, s.heap.get? b = some o → b ∉ own.map (·.1) → g.get? b = some o) (F : Fr h₀ L h' m) (N : News h₀ L h' led) (F' : Fr g L' h' m') (N' : News g L' h' led') (ho : ∀ p ∈ own, p ∈ led) (p : P) (e : y = x) : Q (.int y t) { s with heap := h', toks := tk' } :=
  retR [] k N₀ gk F N F' N' (fun _ h => nomatch h) (fun _ h => nomatch h) ho (fun _ h => nomatch h) ⟨rfl, p, t, by rw [e]⟩
theorem retB {x y : Bool} (k : ∀ v new h' tk', PB x v new → Fr h₀ L h' m → News h₀ L h' new → (∀ p ∈ new, s.heap.get? p.1 = none) → (∀ b o, s.heap.get? b = some o → h'.get? b = some o) → Q v { s with heap := h', toks := tk' }) (N₀ : News h₀ L s.heap own) (gk : ∀ b o, s.heap.get? b = some o → b ∉ own.map (·.1) → g.get? b = some o) (F : Fr h₀ L h' m) (N : News h₀ L h' led) (F' : Fr g L' h' m') (N' : News g L' h' led') (ho : ∀ p ∈ own, p ∈ led) (e : y = x) : Q (.bool y) { s with heap := h', toks := tk' } :=
  retR [] k N₀ gk F N F' N' (fun _ h => nomatch h) (fun _ h => nomatch h) ho (fun _ h => nomatch h) ⟨rfl, by rw [e]⟩
theorem retY {ks : List Int} {b : Array UInt8} {t : Tok} (k : ∀ v new h' tk', PY ks v new → Fr h₀ L h' m → News h₀ L h' new → (∀ p ∈ new, s.heap.get? p.1 = none) → (∀ b o, s.heap.get? b = some o → h'.get? b = some o) → Q v { s with heap := h', toks := tk' }) (N₀ : News h₀ L s.heap own) (gk : ∀ b o, s.heap.get? b = some o → b ∉ own.map (·.1) → g.get? b = some o) (F : Fr h₀ L h' m) (N : News h₀ L h' led) (F' : Fr g L' h' m') (N' : News g L' h' led') (ho : ∀ p ∈ own, p ∈ led) (e : KBw.bInts b = ks) : Q (.bytes b t) { s with heap := h', toks := tk' } :=
  retR [] k N₀ gk F N F' N' (fun _ h => nomatch h) (fun _ h => nomatch h) ho (fun _ h => nomatch h) ⟨rfl, b, t, rfl, e⟩
theorem retT {x y x' y' : Int} {D : Addr} {t u : Tok} (k : ∀ v new h' tk', PT2 x y v new → Fr h₀ L h' m → News h₀ L h' new → (∀ p ∈ new, s.heap.get? p.1 = none) → (∀ b o, s.heap.get? b = some o → h'.get? b = some o) → Q v { s with heap := h', toks := tk' }) (N₀ : News h₀ L s.heap own) (gk : ∀ b o, s.heap.get? b = some o → b ∉ own.map (·.1) → g.get? b = some o) (F : Fr h₀ L h' m) (N : News h₀ L h' led) (F' : Fr g L' h' m') (N' : News g L' h' led') (ho : ∀ p ∈ own, p ∈ led) (off : ∀ q ∈ own, q.1 ≠ D)
    (hn : (D, ({ cls := .type "tuple", data := .seq #[.int x' t, .int y' u] } : Obj)) ∈ led) (hn' : (D, ({ cls := .type "tuple", data := .seq #[.int x' t, .int y' u] } : Obj)) ∈ led') (e1 : x' = x) (e2 : y' = y) : Q (.ref D) { s with heap := h', toks := tk' } :=
  retR [(D, { cls := .type "tuple", data := .seq #[.int x' t, .int y' u] })] k N₀ gk F N F' N' (fun p hp => by rw [List.mem_singleton.mp hp]; exact hn) (fun p hp => by rw [List.mem_singleton.mp hp]; exact hn') ho (fun p hp q hq => by rw [List.mem_singleton.mp hp]; exact off q hq) ⟨D, t, u, rfl, by rw [e1, e2]⟩
end
theorem offL1 : True := by
  w_top off
  trivial
def mostV (kind usable : Int) : Int := if kind = 13 then usable - 35 else max 1 ((usable - 12) / 4 - 12)
def leastV (usable : Int) : Int := max 0 ((usable - 12) / 8 - 12)
def surV (usable size : Int) : Int := leastV usable + (size - leastV usable) % (usable - 4)
def manyV (kind usable size : Int) : Int := if size ≤ mostV kind usable then size else if surV usable size ≤ mostV kind usable then surV usable size else leastV usable
def signedV (n : Int) : Int := if 9223372036854775808 ≤ n then n - 18446744073709551616 else n
theorem is_leaf_spec (w : World) (mean : ExcName → Option Value) (mg mb : Str → Option Value) (kind : Int) (tk : Tok) :
    FnR w mean mg mb 2 109 [.int kind tk] [] (PB (kind == 13 || kind == 10)) := by
  unfold FnR
  intros
  rename_i hN₀ _ _ _ _ hret
  refine wpAny_call ?_
  k_dflt (refine' enter_keep ?k1 ?k2 ?k3 ?k4 ?k5 ?kA ?kF ?kK ?k6 ?k7 ?k8 ?k9 ?kB ?_ ?c2 ?c3 ?c4 ?c5; (case kA => exact rfl); (case kF => exact rfl); (case kK => assumption); (case k1 => k_asm); (case k2 => k_asm); (case k3 => k_asm); (case k4 => k_asm); (case k5 => k_asm); (case k6 => k_is); (case k7 => k_is); (case k8 => ktr_room); (case k9 => exact BindsTo.of_eq rfl); (case c5 => decide); (case kB => exact locs rfl); (case c2 => exact rfl); (case c3 => exact rfl); (case c4 => exact rfl); k_whole; intro g' L' h' FG' F' N' B' X' T' gk lt'; (try dsimp only); (try k_lt lt'); (try k_lift B'); (try k_fold))
  k_steps
  all_goals (refine retB hret hN₀ gk (by k_asm) (by k_asm) (by assumption) (by assumption) (fun _ h => nomatch h) ?_; simp [*])
local macro_rules | `(tactic| walk_at "call ref") => `(tactic| (k_here; (with_reducible show wpAny _ _ (call (Value.ref 109) _) _ _ _); k_dflt (refine' fnB_use (is_leaf_spec _ _ _ _ _ _) ?k1 ?k2 ?k3 ?k4 ?k5 ?kK ?kd ?ku ?sub ?_; walk_at "P1"; (case sub => exact fun _ h => nomatch h)); intro h9 tk9 F9 N9; (try dsimp only); (try k_fold)))
theorem max_local_spec (w : World) (mean : ExcName → Option Value) (mg mb : Str → Option Value) (kind usable : Int) (tk tk2 : Tok) :
    FnR w mean mg mb 2 116 [.int kind tk, .int usable tk2] [] (PI (mostV kind usable)) := by
  unfold FnR
  intros
  rename_i hN₀ _ _ _ _ hret
  refine wpAny_call ?_
  k_dflt (refine' enter_keep ?k1 ?k2 ?k3 ?k4 ?k5 ?kA ?kF ?kK ?k6 ?k7 ?k8 ?k9 ?kB ?_ ?c2 ?c3 ?c4 ?c5; (case kA => exact rfl); (case kF => exact rfl); (case kK => assumption); (case k1 => k_asm); (case k2 => k_asm); (case k3 => k_asm); (case k4 => k_asm); (case k5 => k_asm); (case k6 => k_is); (case k7 => k_is); (case k8 => ktr_room); (case k9 => exact BindsTo.of_eq rfl); (case c5 => decide); (case kB => exact locs rfl); (case c2 => exact rfl); (case c3 => exact rfl); (case c4 => exact rfl); k_whole; intro g' L' h' FG' F' N' B' X' T' gk lt'; (try dsimp only); (try k_lt lt'); (try k_lift B'); (try k_fold))
  k_steps
  all_goals (refine retI hret hN₀ gk (by k_asm) (by k_asm) (by assumption) (by assumption) (fun _ h => nomatch h) ?_; simp only [mostV, *, if_true, if_false, Int.fdiv_eq_ediv_of_nonneg _ (by decide : (0 : Int) ≤ 4)]; try omega)
theorem min_local_spec (w : World) (mean : ExcName → Option Value) (mg mb : Str → Option Value) (usable : Int) (tk2 : Tok) :
    FnR w mean mg mb 2 123 [.int usable tk2] [] (PI (leastV usable)) := by
  unfold FnR
  intros
  rename_i hN₀ _ _ _ _ hret
  refine wpAny_call ?_
  k_dflt (refine' enter_keep ?k1 ?k2 ?k3 ?k4 ?k5 ?kA ?kF ?kK ?k6 ?k7 ?k8 ?k9 ?kB ?_ ?c2 ?c3 ?c4 ?c5; (case kA => exact rfl); (case kF => exact rfl); (case kK => assumption); (case k1 => k_asm); (case k2 => k_asm); (case k3 => k_asm); (case k4 => k_asm); (case k5 => k_asm); (case k6 => k_is); (case k7 => k_is); (case k8 => ktr_room); (case k9 => exact BindsTo.of_eq rfl); (case c5 => decide); (case kB => exact locs rfl); (case c2 => exact rfl); (case c3 => exact rfl); (case c4 => exact rfl); k_whole; intro g' L' h' FG' F' N' B' X' T' gk lt'; (try dsimp only); (try k_lt lt'); (try k_lift B'); (try k_fold))
  k_steps
  all_goals (refine retI hret hN₀ gk (by k_asm) (by k_asm) (by assumption) (by assumption) (fun _ h => nomatch h) ?_; simp only [leastV, *, Int.fdiv_eq_ediv_of_nonneg _ (by decide : (0 : Int) ≤ 8)]; try omega)
local macro_rules | `(tactic| walk_at "call ref") => `(tactic| (k_here; (with_reducible show wpAny _ _ (call (Value.ref 116) _) _ _ _); k_dflt (refine' fnI_use (max_local_spec _ _ _ _ _ _ _ _) ?k1 ?k2 ?k3 ?k4 ?k5 ?kK ?kd ?ku ?sub ?_; walk_at "P1"; (case sub => exact fun _ h => nomatch h)); intro t9 h9 tk9 F9 N9; (try dsimp only); (try k_fold)))
local macro_rules | `(tactic| walk_at "call ref") => `(tactic| (k_here; (with_reducible show wpAny _ _ (call (Value.ref 123) _) _ _ _); k_dflt (refine' fnI_use (min_local_spec _ _ _ _ _ _) ?k1 ?k2 ?k3 ?k4 ?k5 ?kK ?kd ?ku ?sub ?_; walk_at "P1"; (case sub => exact fun _ h => nomatch h)); intro t9 h9 tk9 F9 N9; (try dsimp only); (try k_fold)))
theorem local_size_spec (w : World) (mean : ExcName → Option Value) (mg mb : Str → Option Value) (kind usable size : Int) (tk tk2 tk3 : Tok) (hu : 64 ≤ usable) (hu2 : usable ≤ 512) :
    FnR w mean mg mb 3 130 [.int kind tk, .int usable tk2, .int size tk3] [] (PI (manyV kind usable size)) := by
  unfold FnR
  intros
  rename_i hN₀ _ _ _ _ hret
  refine wpAny_call ?_
  k_dflt (refine' enter_keep ?k1 ?k2 ?k3 ?k4 ?k5 ?kA ?kF ?kK ?k6 ?k7 ?k8 ?k9 ?kB ?_ ?c2 ?c3 ?c4 ?c5; (case kA => exact rfl); (case kF => exact rfl); (case kK => assumption); (case k1 => k_asm); (case k2 => k_asm); (case k3 => k_asm); (case k4 => k_asm); (case k5 => k_asm); (case k6 => k_is); (case k7 => k_is); (case k8 => ktr_room); (case k9 => exact BindsTo.of_eq rfl); (case c5 => decide); (case kB => exact locs rfl); (case c2 => exact rfl); (case c3 => exact rfl); (case c4 => exact rfl); k_whole; intro g' L' h' FG' F' N' B' X' T' gk lt'; (try dsimp only); (try k_lt lt'); (try k_lift B'); (try k_fold))
  k_steps
  all_goals (refine retI hret hN₀ gk (by k_asm) (by k_asm) (by assumption) (by assumption) (fun _ h => nomatch h) ?_; have hm : Int.fmod (size - leastV usable) (usable - 4) = (size - leastV usable) % (usable - 4) := Int.fmod_eq_emod_of_nonneg _ (by omega); unfold manyV surV; simp only [hm] at *; (repeat' split) <;> omega)
theorem signed_spec (w : World) (mean : ExcName → Option Value) (mg mb : Str → Option Value) (n : Int) (tk : Tok) :
    FnR w mean mg mb 2 67 [.int n tk] [] (PI (signedV n)) := by
  unfold FnR
  intros
  rename_i hN₀ _ _ _ _ hret
  refine wpAny_call ?_
  k_dflt (refine' enter_keep ?k1 ?k2 ?k3 ?k4 ?k5 ?kA ?kF ?kK ?k6 ?k7 ?k8 ?k9 ?kB ?_ ?c2 ?c3 ?c4 ?c5; (case kA => exact rfl); (case kF => exact rfl); (case kK => assumption); (case k1 => k_asm); (case k2 => k_asm); (case k3 => k_asm); (case k4 => k_asm); (case k5 => k_asm); (case k6 => k_is); (case k7 => k_is); (case k8 => ktr_room); (case k9 => exact BindsTo.of_eq rfl); (case c5 => decide); (case kB => exact locs rfl); (case c2 => exact rfl); (case c3 => exact rfl); (case c4 => exact rfl); k_whole; intro g' L' h' FG' F' N' B' X' T' gk lt'; (try dsimp only); (try k_lt lt'); (try k_lift B'); (try k_fold))
  k_steps
  all_goals (refine retI hret hN₀ gk (by k_asm) (by k_asm) (by assumption) (by assumption) (fun _ h => nomatch h) ?_; have hw : Int.fdiv 18446744073709551616 2 = 9223372036854775808 := (by decide); unfold signedV; split <;> omega)
local macro_rules | `(tactic| walk_at "call ref") => `(tactic| (k_here; (with_reducible show wpAny _ _ (call (Value.ref 130) _) _ _ _); k_dflt (refine' fnI_use (local_size_spec _ _ _ _ _ _ _ _ _ _ ?j1 ?j2) ?k1 ?k2 ?k3 ?k4 ?k5 ?kK ?kd ?ku ?sub ?_; walk_at "P1"; (case sub => exact fun _ h => nomatch h); (case j1 => walk_at "om"); (case j2 => walk_at "om")); intro t9 h9 tk9 F9 N9; (try dsimp only); (try k_fold)))
local macro_rules | `(tactic| walk_at "call ref") => `(tactic| (k_here; (with_reducible show wpAny _ _ (call (Value.ref 67) _) _ _ _); k_dflt (refine' fnI_use (signed_spec _ _ _ _ _ _) ?k1 ?k2 ?k3 ?k4 ?k5 ?kK ?kd ?ku ?sub ?_; walk_at "P1"; (case sub => exact fun _ h => nomatch h)); intro t9 h9 tk9 F9 N9; (try dsimp only); (try k_fold)))
theorem two_at_spec (w : World) (mean : ExcName → Option Value) (mg mb : Str → Option Value) (b : Array UInt8) (tb : Tok) (ks : List Int) (i : Int) (ti : Tok) (hb : KBw.bInts b = ks) (hi : 0 ≤ i) (hi2 : i + 2 ≤ (ks.length : Int)) (hz : ks.length ≤ 100000) :
    FnR w mean mg mb 2 74 [.bytes b tb, .int i ti] [] (PF (0 ≤ ks.getD i.toNat 0 * 256 + ks.getD (i + 1).toNat 0 ∧ ks.getD i.toNat 0 * 256 + ks.getD (i + 1).toNat 0 < 65536) (ks.getD i.toNat 0 * 256 + ks.getD (i + 1).toNat 0)) := by
  unfold FnR
  intros
  rename_i hN₀ _ _ _ _ hret
  refine wpAny_call ?_
  k_dflt (refine' enter_keep ?k1 ?k2 ?k3 ?k4 ?k5 ?kA ?kF ?kK ?k6 ?k7 ?k8 ?k9 ?kB ?_ ?c2 ?c3 ?c4 ?c5; (case kA => exact rfl); (case kF => exact rfl); (case kK => assumption); (case k1 => k_asm); (case k2 => k_asm); (case k3 => k_asm); (case k4 => k_asm); (case k5 => k_asm); (case k6 => k_is); (case k7 => k_is); (case k8 => ktr_room); (case k9 => exact BindsTo.of_eq rfl); (case c5 => decide); (case kB => exact locs rfl); (case c2 => exact rfl); (case c3 => exact rfl); (case c4 => exact rfl); k_whole; intro g' L' h' FG' F' N' B' X' T' gk lt'; (try dsimp only); (try k_lt lt'); (try k_lift B'); (try k_fold))
  k_steps
  all_goals (refine retF hret hN₀ gk (by k_asm) (by k_asm) (by assumption) (by assumption) (fun _ h => nomatch h) ?_ ?_; (constructor <;> omega); rfl)
local macro_rules | `(tactic| walk_at "call ref") => `(tactic| (k_here; (with_reducible show wpAny _ _ (call (Value.ref 74) _) _ _ _); k_dflt (refine' fnF_use (two_at_spec _ _ _ _ _ _ _ _ _ ?j1 ?j2 ?j3 ?j4) ?k1 ?k2 ?k3 ?k4 ?k5 ?kK ?kd ?ku ?sub ?_; walk_at "P1"; (case sub => exact fun _ h => nomatch h); (case j1 => kba_ints); (case j2 => walk_at "om"); (case j3 => walk_at "om"); (case j4 => walk_at "om")); intro t9 h9 tk9 p9 F9 N9; (try dsimp only); (try k_fold)))
theorem four_at_spec (w : World) (mean : ExcName → Option Value) (mg mb : Str → Option Value) (b : Array UInt8) (tb : Tok) (ks : List Int) (i : Int) (ti : Tok) (hb : KBw.bInts b = ks) (hi : 0 ≤ i) (hi2 : i + 4 ≤ (ks.length : Int)) (hz : ks.length ≤ 100000) :
    FnR w mean mg mb 3 81 [.bytes b tb, .int i ti] [] (PI ((ks.getD i.toNat 0 * 256 + ks.getD (i + 1).toNat 0) * 65536 + (ks.getD (i + 2).toNat 0 * 256 + ks.getD (i + 2 + 1).toNat 0))) := by
  unfold FnR
  intros
  rename_i hN₀ _ _ _ _ hret
  refine wpAny_call ?_
  k_dflt (refine' enter_keep ?k1 ?k2 ?k3 ?k4 ?k5 ?kA ?kF ?kK ?k6 ?k7 ?k8 ?k9 ?kB ?_ ?c2 ?c3 ?c4 ?c5; (case kA => exact rfl); (case kF => exact rfl); (case kK => assumption); (case k1 => k_asm); (case k2 => k_asm); (case k3 => k_asm); (case k4 => k_asm); (case k5 => k_asm); (case k6 => k_is); (case k7 => k_is); (case k8 => ktr_room); (case k9 => exact BindsTo.of_eq rfl); (case c5 => decide); (case kB => exact locs rfl); (case c2 => exact rfl); (case c3 => exact rfl); (case c4 => exact rfl); k_whole; intro g' L' h' FG' F' N' B' X' T' gk lt'; (try dsimp only); (try k_lt lt'); (try k_lift B'); (try k_fold))
  k_steps
  all_goals (refine retI hret hN₀ gk (by k_asm) (by k_asm) (by assumption) (by assumption) (fun _ h => nomatch h) ?_; rfl)
local macro_rules | `(tactic| walk_at "call ref") => `(tactic| (k_here; (with_reducible show wpAny _ _ (call (Value.ref 81) _) _ _ _); k_dflt (refine' fnI_use (four_at_spec _ _ _ _ _ _ _ _ _ ?j1 ?j2 ?j3 ?j4) ?k1 ?k2 ?k3 ?k4 ?k5 ?kK ?kd ?ku ?sub ?_; walk_at "P1"; (case sub => exact fun _ h => nomatch h); (case j1 => kba_ints); (case j2 => walk_at "om"); (case j3 => walk_at "om"); (case j4 => walk_at "om")); intro t9 h9 tk9 F9 N9; (try dsimp only); (try k_fold)))
theorem offL2 : True := by
  w_top off
  trivial
theorem noPylong64 {x y : Int} (h0 : 0 < y) (h : y ≤ 4294967296) : Builtin.divisionGoesByPylong x y = false := by
  refine PyProof.noPylong_of_log2 ?_
  have h1 : y.natAbs ≠ 0 := by omega
  have h2 : y.natAbs.log2 < 33 := (Nat.log2_lt h1).mpr (by omega)
  omega
section
local macro_rules | `(tactic| walk_at "subscriptTail Name Constant ref int") => `(tactic| (k_here; (with_reducible show wpAny _ _ (subscriptTail _ _ (Value.ref _) (Value.int _ _)) _ _ _); (with_unfolding_all refine' item_litK ?k1 ?k2 ?k3 ?k4 ?_ ?k6; (case k1 => is_list); (case k2 => decide); (case k3 => decide); (case k4 => rfl); (case k6 => with_unfolding_all rfl); k_whole)))
local macro_rules | `(tactic| walk_at "setItem ref int") => `(tactic| (k_here; (with_reducible show wpAny _ _ (setItem (Value.ref _) (Value.int _ _) (Value.int _ _)) _ _ _); k_dflt (refine' ksa_set (vs := [Value.int _ _, Value.int _ _]) ?k1 ?k2 ?k3 ?k4 ?k5 ?k6 ?k7 ?_; (case k1 => k_asm); (case k2 => k_asm); (case k3 => k_upd); (case k4 => l_ints); (case k5 => ksa_idx); (case k6 => ksa_idx); (case k7 => ksa_idx); k_whole); intro h' F' N' hi' hl' hs'; clear hi' hl' hs'; (try k_sweep)))
local macro_rules | `(tactic| walk_at "binaryOp FloorDiv int int") => `(tactic| (refine floordiv_int (by omega) ?_ (Or.inl (noPylong64 (by omega) (by omega)))))
def PT (top : Int) (n : Nat) : Value → Obj → Prop := fun v o => ∃ d t a' b' ta' tb', v = .int d t ∧ 0 ≤ d ∧ d < top ∧ 0 ≤ a' ∧ 0 ≤ b' ∧ b' < 2147483647 ∧ o = listOf [.int a' ta', .int b' tb'].toArray n
theorem take_spec (w : World) (mean : ExcName → Option Value) (mg mb : Str → Option Value) (l : Addr) (a b top : Int) (ta tb tt : Tok) (n : Nat) (ha : 0 ≤ a) (hb : 0 ≤ b) (hb2 : b < 2147483647) (ht : 1 ≤ top) (ht2 : top ≤ 2147483648) :
    FnU w mean mg mb 2 186 [.ref l, .int top tt] l (listOf [.int a ta, .int b tb].toArray n) (PT top n) := by
  unfold FnU
  intros
  rename_i hN₀ _ _ _ _ hret
  refine wpAny_call ?_
  k_dflt (refine' enter_keep ?k1 ?k2 ?k3 ?k4 ?k5 ?kA ?kF ?kK ?k6 ?k7 ?k8 ?k9 ?kB ?_ ?c2 ?c3 ?c4 ?c5; (case kA => exact rfl); (case kF => exact rfl); (case kK => assumption); (case k1 => k_asm); (case k2 => k_asm); (case k3 => k_asm); (case k4 => k_asm); (case k5 => k_asm); (case k6 => k_is); (case k7 => k_is); (case k8 => ktr_room); (case k9 => exact BindsTo.of_eq rfl); (case c5 => decide); (case kB => exact locs rfl); (case c2 => exact rfl); (case c3 => exact rfl); (case c4 => exact rfl); k_whole; intro g' L' h' FG' F' N' B' X' T' gk lt'; (try dsimp only); (try k_lt lt'); (try k_lift B'); (try k_fold))
  k_steps
  · refine retU hret gk (by k_asm) (by k_asm) (by assumption) (by k_mem) ⟨_, _, _, _, _, _, rfl, fmod_lo _ (by omega), fmod_hi _ (by omega), ?_, hb, hb2, rfl⟩
    rw [Int.fdiv_eq_ediv_of_nonneg _ (by omega)]
    exact Int.ediv_nonneg ha (by omega)
  · exact retU hret gk (by k_asm) (by k_asm) (by assumption) (by k_mem) ⟨_, _, _, _, _, _, rfl, fmod_lo _ (by omega), fmod_hi _ (by omega), ha, fmod_lo _ (by omega), fmod_hi _ (by omega), rfl⟩
end
theorem offNI : True := by
  w_top off
  trivial
section
variable {prog : Program} {w : World} {A : Around} {E : Value → Shared → Prop} {s : Shared} {env : Env} {h₀ : Heap} {x : Str} {body : List Stmt} {Q : Flow → Shared → Prop}
/-- a loop over a written range, by an invariant of the turn's number, the frame's map and the ledger -/
theorem rangeRest_inv {I : Addr} {a : Int} {n : Nat} (J : Nat → (Str → Option Value) → Led → Prop)
    (turn : ∀ i m news t h tk, i < n → J i m news → Fr h₀ env.locals h (fun y => if y = x then some (.int (a + (i : Int)) t) else m y) →
      News h₀ env.locals h ((I, itR (a + ((i + 1 : Nat) : Int)) ((n : Int) - ((i + 1 : Nat) : Int))) :: news) →
      wpAny (model prog w) A (execs body env) (UnrPost h₀ env.locals { s with heap := h, toks := tk } I (itR (a + ((i + 1 : Nat) : Int)) ((n : Int) - ((i + 1 : Nat) : Int))) (J (i + 1)) Q) E { s with heap := h, toks := tk })
    (done : ∀ m news h tk, J n m news → Fr h₀ env.locals h m → News h₀ env.locals h news → Q .next { s with heap := h, toks := tk }) :
    ∀ k i m news, i + k = n → J i m news → RangeRest prog w A E h₀ env x body Q s I a n k i m news := by
  intro k
  induction k with
  | zero =>
    intro i m news hk hJ
    have : i = n := hk
    subst this
    exact RangeRest.zero fun h tk F N => done m news h tk hJ F N
  | succ k ih =>
    intro i m news hk hJ
    refine RangeRest.succ fun t h tk F N => ?_
    refine wpAny_mono (turn i m news t h tk (by omega) hJ F N) (fun f s₂ p => ?_) fun _ _ e => e
    cases f with
    | ret v => exact p
    | brk => exact p
    | next => obtain ⟨h', tk', m', news', e, F', N', ho, r⟩ := p; exact ⟨h', tk', m', news', e, F', N', ho, ih (i + 1) m' news' (by omega) r⟩
    | cont => obtain ⟨h', tk', m', news', e, F', N', ho, r⟩ := p; exact ⟨h', tk', m', news', e, F', N', ho, ih (i + 1) m' news' (by omega) r⟩
def WhEnd (h₀ : Heap) (L : Addr) (P : (Str → Option Value) → Led → Prop) (s s₂ : Shared) : Prop :=
  ∃ h' tk m' news', s₂ = { s with heap := h', toks := tk } ∧ Fr h₀ L h' m' ∧ News h₀ L h' news' ∧ P m' news'
def WhStep (h₀ : Heap) (L : Addr) (P : Nat → (Str → Option Value) → Led → Prop) (k : Nat) (s : Shared) (f : Flow) (s₃ : Shared) : Prop := f = .next ∧ ∃ k', k = k' + 1 ∧ WhEnd h₀ L (P k') s s₃
theorem WhStep.intro {L : Addr} {P : Nat → (Str → Option Value) → Led → Prop} {k : Nat} {h' : Heap} {tk' : Nat} {m' : Str → Option Value} {news' : Led} (F : Fr h₀ L h' m') (N : News h₀ L h' news') (hP : P k m' news') : WhStep h₀ L P (k + 1) s .next { s with heap := h', toks := tk' } :=
  ⟨rfl, k, rfl, h', tk', m', news', rfl, F, N, hP⟩
/-- a while, by an invariant and a count of turns that are left -/
theorem whl_inv {test : PySem.Expr} {orelse : List Stmt} (hE : PassesOwn (model prog w) A env E) (P : Nat → (Str → Option Value) → Led → Prop)
    (turn : ∀ k m news h tk, P k m news → Fr h₀ env.locals h m → News h₀ env.locals h news →
      wpAny (model prog w) A (isTrue test env (eval test env)) (fun b s₂ => WhlIf b (wpAny (model prog w) A (execs body env) (WhStep h₀ env.locals P k s) E s₂) (wpAny (model prog w) A (execs orelse env) Q E s₂)) E { s with heap := h, toks := tk }) :
    ∀ k m news h tk j, P k m news → Fr h₀ env.locals h m → News h₀ env.locals h news → WhlRest prog w A E env test body orelse Q j { s with heap := h, toks := tk } := by
  intro k
  induction k with
  | zero =>
    intro m news h tk j hP F N
    show WhlRest prog w A E env test body orelse Q (0 + 1) _
    refine whl_turn hE (wpAny_mono (turn 0 m news h tk hP F N) (fun b s₂ hb => ?_) fun _ _ e => e)
    cases b with
    | false => exact hb
    | true =>
      have hb' : wpAny _ _ _ _ _ _ := hb
      exact wpAny_mono (hb' : wpAny (model prog w) A (execs body env) _ E s₂) (fun f s₃ hf => by obtain ⟨_, k', e, _⟩ := hf; cases e) fun _ _ e => e
  | succ k ih =>
    intro m news h tk j hP F N
    show WhlRest prog w A E env test body orelse Q (0 + 1) _
    refine whl_turn hE (wpAny_mono (turn (k + 1) m news h tk hP F N) (fun b s₂ hb => ?_) fun _ _ e => e)
    cases b with
    | false => exact hb
    | true =>
      have hb' : wpAny _ _ _ _ _ _ := hb
      refine wpAny_mono (hb' : wpAny (model prog w) A (execs body env) _ E s₂) (fun f s₃ hf => ?_) fun _ _ e => e
      obtain ⟨rfl, k', e, h', tk', m', news', rfl, F', N', hP'⟩ := hf
      have : k' = k := by omega
      subst this
      exact ih m' news' h' tk' 0 hP' F' N'
end
theorem m_last {m : Str → Option Value} {y : Str} {v : Option Value} (h : m y = v) : m = fun z => if z = y then v else m z := by
  funext z
  by_cases hz : z = y
  · rw [if_pos hz, hz, h]
  · rw [if_neg hz]
theorem m_last2 {m : Str → Option Value} {y y' : Str} {v v' : Option Value} (h : m y = v) (h' : m y' = v') : m = fun z => if z = y then v else if z = y' then v' else m z :=
  (m_last h).trans (funext fun z => congrArg (fun u : Str → Option Value => if z = y then v else u z) (m_last h'))
theorem m_last3 {m : Str → Option Value} {y y' y'' : Str} {v v' v'' : Option Value} (h : m y = v) (h' : m y' = v') (h'' : m y'' = v'') : m = fun z => if z = y then v else if z = y' then v' else if z = y'' then v'' else m z :=
  (m_last h).trans (funext fun z => congrArg (fun u : Str → Option Value => if z = y then v else u z) (m_last2 h' h''))
theorem News.sub1 {h₀ h : Heap} {L : Addr} {p : Addr × Obj} {news : Led} (N : News h₀ L h (p :: news)) : News h₀ L h [p] := fun q hq => by
  rw [List.mem_singleton.mp hq]; exact N _ (.head _)
def Held (P : Prop) : Prop := P
theorem held {P : Prop} (h : Held P) : P := h
theorem unheld {P : Prop} (h : P) : Held P := h
theorem offL3 : True := by
  w_top off
  trivial
theorem ba2 (x y : Int) : Builtin.bitAnd (2 * x) y = 2 * Builtin.bitAnd x (y / 2) := by
  rw [kbt_halves]
  have h1 : 2 * x / 2 = x := by omega
  rw [h1, if_neg (by omega)]
  omega
theorem and7 (x : Int) : Builtin.bitAnd x 127 = x % 128 := kbt_mask x 7
theorem and8 (x : Int) : Builtin.bitAnd x 255 = x % 256 := kbt_mask x 8
theorem or128 (x : Int) : Builtin.bitOr (x % 128) 128 = x % 128 + 128 := by
  have h : Builtin.bitAnd (x % 128) 128 = (x % 128 / 128 % 2) * 128 := kbt_bit (x % 128) 7
  rw [PyProof.Rows.bitOr_and, h]
  omega
theorem or7 {a y : Int} (h0 : 0 ≤ y) (h1 : y < 128) : Builtin.bitOr (a * 128) y = a * 128 + y := by
  have e : a * 128 = 2 * (2 * (2 * (2 * (2 * (2 * (2 * a)))))) := by omega
  have hz : y / 2 / 2 / 2 / 2 / 2 / 2 / 2 = 0 := by omega
  have h : Builtin.bitAnd (a * 128) y = 0 := by rw [e, ba2, ba2, ba2, ba2, ba2, ba2, ba2, hz, PyProof.Rows.bitAnd_zero]; rfl
  rw [PyProof.Rows.bitOr_and, h]
  omega
theorem or8 {a y : Int} (h0 : 0 ≤ y) (h1 : y < 256) : Builtin.bitOr (a * 256) y = a * 256 + y := by
  have e : a * 256 = 2 * (2 * (2 * (2 * (2 * (2 * (2 * (2 * a))))))) := by omega
  have hz : y / 2 / 2 / 2 / 2 / 2 / 2 / 2 / 2 = 0 := by omega
  have h : Builtin.bitAnd (a * 256) y = 0 := by rw [e, ba2, ba2, ba2, ba2, ba2, ba2, ba2, ba2, hz, PyProof.Rows.bitAnd_zero]; rfl
  rw [PyProof.Rows.bitOr_and, h]
  omega
section
variable {prog : Program} {w : World} {A : Around} {E : Value → Shared → Prop} {s : Shared} {a b : Int} {t u : Tok} {Q : Value → Shared → Prop}
theorem r_and7 (h : Q (.int (a % 128) s.toks) { s with toks := s.toks + 1 }) : wpAny (model prog w) A (binaryOp .BitAnd (.int a t) (.int 127 u)) Q E s := and_int (by rw [and7]; exact h)
theorem r_and8 (h : Q (.int (a % 256) s.toks) { s with toks := s.toks + 1 }) : wpAny (model prog w) A (binaryOp .BitAnd (.int a t) (.int 255 u)) Q E s := and_int (by rw [and8]; exact h)
theorem r_or128 (h : Q (.int (a % 128 + 128) s.toks) { s with toks := s.toks + 1 }) : wpAny (model prog w) A (binaryOp .BitOr (.int (a % 128) t) (.int 128 u)) Q E s := or_int (by rw [or128]; exact h)
theorem r_or7 (h0 : 0 ≤ b) (h1 : b < 128) (h : Q (.int (a * 128 + b) s.toks) { s with toks := s.toks + 1 }) : wpAny (model prog w) A (binaryOp .BitOr (.int (a * 128) t) (.int b u)) Q E s := or_int (by rw [or7 h0 h1]; exact h)
theorem r_or8 (h0 : 0 ≤ b) (h1 : b < 256) (h : Q (.int (a * 256 + b) s.toks) { s with toks := s.toks + 1 }) : wpAny (model prog w) A (binaryOp .BitOr (.int (a * 256) t) (.int b u)) Q E s := or_int (by rw [or8 h0 h1]; exact h)
theorem r_shr7 (h : Q (.int (a / 128) s.toks) { s with toks := s.toks + 1 }) : wpAny (model prog w) A (inplaceOp .RShift (.int a t) (.int 7 u)) Q E s :=
  irshift_int (by decide) (by rw [show a.fdiv (2 ^ (7 : Int).toNat) = a / 128 from Int.fdiv_eq_ediv_of_nonneg _ (by decide)]; exact h)
theorem r_shr8 (h : Q (.int (a / 256) s.toks) { s with toks := s.toks + 1 }) : wpAny (model prog w) A (inplaceOp .RShift (.int a t) (.int 8 u)) Q E s :=
  irshift_int (by decide) (by rw [show a.fdiv (2 ^ (8 : Int).toNat) = a / 256 from Int.fdiv_eq_ediv_of_nonneg _ (by decide)]; exact h)
theorem r_shl7 (h0 : 0 ≤ a) (h1 : a < 18446744073709551616) (h : Q (.int (a * 128) s.toks) { s with toks := s.toks + 1 }) : wpAny (model prog w) A (binaryOp .LShift (.int a t) (.int 7 u)) Q E s :=
  lshift_int_small (by decide) (by decide) (by omega) h
theorem r_shl8 (h0 : 0 ≤ a) (h1 : a < 18446744073709551616) (h : Q (.int (a * 256) s.toks) { s with toks := s.toks + 1 }) : wpAny (model prog w) A (binaryOp .LShift (.int a t) (.int 8 u)) Q E s :=
  lshift_int_small (by decide) (by decide) (by omega) h
theorem r_modW (h : Q (.int (a % 18446744073709551616) s.toks) { s with toks := s.toks + 1 }) : wpAny (model prog w) A (binaryOp .Mod (.int a t) (.int 18446744073709551616 u)) Q E s :=
  mod_int' (by decide) (by rw [Int.fmod_eq_emod_of_nonneg _ (by decide)]; exact h)
end
section
local macro_rules | `(tactic| walk_at "binaryOp BitAnd int int") => `(tactic| (k_here; first | (with_reducible refine r_and7 ?_) | (with_reducible refine r_and8 ?_)))
local macro_rules | `(tactic| walk_at "binaryOp BitOr int int") => `(tactic| (k_here; first | (with_reducible refine r_or128 ?_) | (with_reducible refine r_or7 (by omega) (by omega) ?_) | (with_reducible refine r_or8 (by omega) (by omega) ?_)))
local macro_rules | `(tactic| walk_at "inplaceOp RShift int int") => `(tactic| (k_here; first | (with_reducible refine r_shr7 ?_) | (with_reducible refine r_shr8 ?_)))
local macro_rules | `(tactic| walk_at "binaryOp LShift int int") => `(tactic| (k_here; first | (with_reducible refine r_shl7 (by omega) (by omega) ?_) | (with_reducible refine r_shl8 (by omega) (by omega) ?_)))
local macro_rules | `(tactic| walk_at "binaryOp Mod int int") => `(tactic| (k_here; (with_reducible refine r_modW ?_)))
theorem r_pow56 {prog : Program} {w : World} {A : Around} {E : Value → Shared → Prop} {s : Shared} {t u : Tok} {Q : Value → Shared → Prop} (h : Q (.int 72057594037927936 s.toks) { s with toks := s.toks + 1 }) : wpAny (model prog w) A (binaryOp .Pow (.int 2 t) (.int 56 u)) Q E s :=
  pow_int_small (by decide) (by decide) (by decide) (by rw [show (2 : Int) ^ (56 : Int).toNat = 72057594037927936 from by decide]; exact h)
local macro_rules | `(tactic| walk_at "binaryOp Pow int int") => `(tactic| (k_here; (with_reducible refine r_pow56 ?_)))
local macro_rules | `(tactic| walk_at "WhlIf") => `(tactic| first | (refine WhlIf.yes (decide_eq_true (by omega)) ?_) | (refine WhlIf.no (decide_eq_false (by omega)) ?_))
def pvM (m : Int) : List Int :=
  if m < 128 then [m % 128]
  else if m < 16384 then [m / 128 % 128 + 128, m % 128]
  else if m < 2097152 then [m / 128 / 128 % 128 + 128, m / 128 % 128 + 128, m % 128]
  else if m < 72057594037927936 then [m / 128 / 128 / 128 / 128 / 128 / 128 / 128 % 128 + 128, m / 128 / 128 / 128 / 128 / 128 / 128 % 128 + 128, m / 128 / 128 / 128 / 128 / 128 % 128 + 128, m / 128 / 128 / 128 / 128 % 128 + 128, m / 128 / 128 / 128 % 128 + 128, m / 128 / 128 % 128 + 128, m / 128 % 128 + 128, m % 128]
  else [m / 256 / 128 / 128 / 128 / 128 / 128 / 128 / 128 % 128 + 128, m / 256 / 128 / 128 / 128 / 128 / 128 / 128 % 128 + 128, m / 256 / 128 / 128 / 128 / 128 / 128 % 128 + 128, m / 256 / 128 / 128 / 128 / 128 % 128 + 128, m / 256 / 128 / 128 / 128 % 128 + 128, m / 256 / 128 / 128 % 128 + 128, m / 256 / 128 % 128 + 128, m / 256 % 128 + 128, m % 256]
def dv (t : Nat) (r : Int) : Int := Nat.repeat (fun x : Int => x / 128) t r
def dgs (t : Nat) (r : Int) : List Int := Nat.fold t (fun i _ l => (dv i r % 128 + 128) :: l) []
theorem dgs_len (r : Int) : ∀ t, (dgs t r).length = t
  | 0 => rfl
  | t + 1 => congrArg (· + 1) (dgs_len r t)
theorem dv_bd {r B : Int} (h0 : 0 ≤ r) (h1 : r < B) : ∀ t, 0 ≤ dv t r ∧ dv t r < B
  | 0 => ⟨h0, h1⟩
  | t + 1 => by
    have h := dv_bd h0 h1 t
    show 0 ≤ dv t r / 128 ∧ dv t r / 128 < B
    omega
theorem dgs_in {r x : Int} (h0 : 0 ≤ x) (h1 : x < 256) : ∀ t, KBa.In (dgs t r ++ [x])
  | 0 => fun n hn => by rw [List.mem_singleton.mp hn]; exact ⟨h0, h1⟩
  | t + 1 => fun n hn => by
    rcases List.mem_cons.mp hn with rfl | hn
    · omega
    · exact dgs_in h0 h1 t n hn
/-- the two shapes of a written number -/
def Sh (m : Int) (L : List Int) : Prop :=
  (m < 72057594037927936 ∧ ∃ T : Nat, T ≤ 7 ∧ L = dgs T (m / 128) ++ [m % 128] ∧ (∀ j, j < T → 0 < dv j (m / 128)) ∧ dv T (m / 128) = 0) ∨
  (72057594037927936 ≤ m ∧ L = dgs 8 (m / 256) ++ [m % 256])
theorem pv_sh {m : Int} (h0 : 0 ≤ m) (hm : m < 2097152 ∨ 562949953421312 ≤ m) : Sh m (pvM m) := by
  unfold pvM
  by_cases c1 : m < 128
  · rw [if_pos c1]
    exact .inl ⟨by omega, 0, by omega, rfl, fun j hj => absurd hj (Nat.not_lt_zero j), by show m / 128 = 0; omega⟩
  rw [if_neg c1]
  by_cases c2 : m < 16384
  · rw [if_pos c2]
    refine .inl ⟨by omega, 1, by omega, rfl, fun j hj => ?_, by show m / 128 / 128 = 0; omega⟩
    obtain rfl : j = 0 := by omega
    show 0 < m / 128
    omega
  rw [if_neg c2]
  by_cases c3 : m < 2097152
  · rw [if_pos c3]
    refine .inl ⟨by omega, 2, by omega, rfl, fun j hj => ?_, by show m / 128 / 128 / 128 = 0; omega⟩
    rcases (show j = 0 ∨ j = 1 by omega) with rfl | rfl
    · show 0 < m / 128
      omega
    · show 0 < m / 128 / 128
      omega
  rw [if_neg c3]
  by_cases c4 : m < 72057594037927936
  · rw [if_pos c4]
    have h6 : 0 < dv 6 (m / 128) := by show 0 < m / 128 / 128 / 128 / 128 / 128 / 128 / 128; omega
    have mono : ∀ j k : Nat, 0 < dv (j + k) (m / 128) → 0 < dv j (m / 128) := by
      intro j k
      induction k with
      | zero => exact fun h => h
      | succ k ih =>
        intro h
        have h' : 0 < dv (j + k) (m / 128) / 128 := h
        exact ih (by omega)
    refine .inl ⟨by omega, 7, by omega, rfl, fun j hj => mono j (6 - j) (by rw [show j + (6 - j) = 6 by omega]; exact h6), by show m / 128 / 128 / 128 / 128 / 128 / 128 / 128 / 128 = 0; omega⟩
  · rw [if_neg c4]
    exact .inr ⟨by omega, rfl⟩
local macro_rules | `(tactic| walk_at "pyIter ref") => `(tactic| ((with_reducible show wpAny _ _ (pyIter (Value.ref _)) (fun it s₂ => LoopAtV _ _ _ _ _ _ _ _ _ it s₂) _ _); (rename IsRange _ _ _ _ _ _ _ _ => rX); (rename Fr _ _ _ _ => lF'); (rename News _ _ _ _ => lN'); (with_unfolding_all refine iter_rangeUnr (n := 8) (by rfl) rX (by first | decide | rfl) (by first | decide | rfl) lF' lN' ?_); clear lF' lN'; refine held ?_))
local macro_rules | `(tactic| walk_at "last exec While") => `(tactic| (k_here; k_dflt (refine whl_start 100 ?_); refine held ?_))
local macro_rules | `(tactic| walk_at "ite") => `(tactic| first | (refine ite_pos (by first | omega | (simp only [decide_eq_true_eq, beq_iff_eq]; omega)) ?_) | (refine ite_neg (by first | omega | (simp only [decide_eq_true_eq, beq_iff_eq]; omega)) ?_))
local macro_rules | `(tactic| walk_at "call builtin:list.append") => `(tactic| (k_here; (with_reducible show wpAny _ _ (call (Value.builtin _) [Value.ref _, _]) _ _ _); k_dflt (refine' append_K ?k1 ?k2 ?k3 ?_ ?z; (case k1 => k_asm); (case k2 => k_asm); (case k3 => k_upd); (case z => assumption); k_whole); intro h' F' N'; (try k_sweep)))
local macro_rules | `(tactic| walk_at "call builtin:list.reverse") => `(tactic| (k_here; (with_reducible show wpAny _ _ (call (Value.builtin _) [Value.ref _]) _ _ _); k_dflt (refine' kl_reverse ?F ?N rfl ?U ?z ?_; (case F => k_asm); (case N => k_asm); (case U => k_upd); (case z => assumption)); intro h' F' N'))
local macro_rules | `(tactic| walk_at "call type:bytes") => `(tactic| (k_here; (with_reducible show wpAny _ _ (call (Value.type _) [Value.ref _]) _ _ _); k_dflt (refine' KBa.make_K ?F ?N ?h ?l ?i ?r ?n ?_; (case F => k_asm); (case N => k_asm); (case h => rfl); (case l => is_list); (case i => assumption); (case r => assumption); (case n => assumption)); intro h' t' k' F' N' hB'; (have hBi := KBa.ints_make hB'); clear hB'))
/-- what stands at the head of a turn of put_varint's loops -/
def PJ (D : Addr) (r x : Int) (t : Nat) (m : Str → Option Value) (news : Led) : Prop :=
  ∃ its n tr, (D, listOf its n) ∈ news ∧ IntsAre its.toList (dgs t r ++ [x]).reverse ∧ m = fun z => if z = Str.ofString "found" then some (.ref D) else if z = Str.ofString "rest" then some (.int (dv t r) tr) else m z
def PW (D : Addr) (r x : Int) (T k : Nat) (m : Str → Option Value) (news : Led) : Prop := ∃ t, t + k = T ∧ PJ D r x t m news
theorem led_two {h₀ h : Heap} {L D : Addr} {o : Obj} {p : Addr × Obj} {news : Led} (N : News h₀ L h (p :: news)) (hm : (D, o) ∈ news) : News h₀ L h [p, (D, o)] := fun q hq => by
  rcases List.mem_cons.mp hq with rfl | hq
  · exact N _ (.head _)
  · rw [List.mem_singleton.mp hq]; exact N _ (.tail _ hm)
theorem led_one {h₀ h : Heap} {L D : Addr} {o : Obj} {news : Led} (N : News h₀ L h news) (hm : (D, o) ∈ news) : News h₀ L h [(D, o)] := fun q hq => by
  rw [List.mem_singleton.mp hq]; exact N _ hm
theorem led_head {h₀ h : Heap} {L : Addr} {p : Addr × Obj} {news : Led} (_N : News h₀ L h (p :: news)) : ∃ D, D = p.1 := ⟨_, rfl⟩
theorem its_size {its : Array Value} {r x : Int} {t : Nat} (h : IntsAre its.toList (dgs t r ++ [x]).reverse) (ht : t ≤ 10) : its.size ≤ sizeLine ∧ its.toList.length ≤ sizeLine := by
  have e := h.length
  rw [List.length_reverse, List.length_append, dgs_len] at e
  have e2 : its.toList.length = its.size := by simp
  rw [sizeLine_eq]
  simp only [List.length_cons, List.length_nil] at e
  omega
theorem dgs_fit (r x : Int) {t : Nat} (ht : t ≤ 10) : (dgs t r ++ [x]).length ≤ 16777216 := by
  rw [List.length_append, dgs_len]
  simp only [List.length_cons, List.length_nil]
  omega
theorem ints_on {its : Array Value} {r x : Int} {t : Nat} {u : Tok} (h : IntsAre its.toList (dgs t r ++ [x]).reverse) : IntsAre (its.push (.int (dv t r % 128 + 128) u)).toList (dgs (t + 1) r ++ [x]).reverse := by
  show IntsAre _ ((dv t r % 128 + 128) :: (dgs t r ++ [x])).reverse
  rw [List.reverse_cons]
  exact intsAre_push h
theorem ints_back {its : Array Value} {ks : List Int} (h : IntsAre its.toList ks.reverse) : IntsAre its.toList.reverse ks := by
  have := IntsAre.reverse h
  rwa [List.reverse_reverse] at this
theorem put_varint_spec (w : World) (mean : ExcName → Option Value) (mg mb : Str → Option Value) (n : Int) (tk : Tok) (hn : n % 18446744073709551616 < 2097152 ∨ 562949953421312 ≤ n % 18446744073709551616) : FnR w mean mg mb 2 53 [.int n tk] [] (PY (pvM (n % 18446744073709551616))) := by
  have hm0 : 0 ≤ n % 18446744073709551616 := by omega
  have hm1 : n % 18446744073709551616 < 18446744073709551616 := by omega
  rcases pv_sh hm0 hn with ⟨hr, T, hT, hL, hpos, hend⟩ | ⟨hr, hL⟩
  · rw [hL]
    clear hL hn
    unfold FnR; intros; rename_i hN₀ _ _ _ _ hret; refine wpAny_call ?_; k_dflt (refine' enter_keep ?k1 ?k2 ?k3 ?k4 ?k5 ?kA ?kF ?kK ?k6 ?k7 ?k8 ?k9 ?kB ?_ ?c2 ?c3 ?c4 ?c5; (case kA => exact rfl); (case kF => exact rfl); (case kK => assumption); (case k1 => k_asm); (case k2 => k_asm); (case k3 => k_asm); (case k4 => k_asm); (case k5 => k_asm); (case k6 => k_is); (case k7 => k_is); (case k8 => ktr_room); (case k9 => exact BindsTo.of_eq rfl); (case c5 => decide); (case kB => exact locs rfl); (case c2 => exact rfl); (case c3 => exact rfl); (case c4 => exact rfl); k_whole; intro g' L' h' FG' F' N' B' X' T' gk lt'; (try dsimp only); (try k_lt lt'); (try k_lift B'); (try k_fold))
    k_steps
    refine unheld ?_
    rename Fr _ _ _ _ => F3
    rename News _ _ _ _ => N3
    obtain ⟨D, hD⟩ := led_head N3
    dsimp only at hD
    subst hD
    have hbd := dv_bd (B := 18446744073709551616) (r := n % 18446744073709551616 / 128) (by omega) (by omega)
    refine whl_inv (s := ⟨_, _, _, _, _⟩) (by first | passes_own | with_unfolding_all passes_own) (PW D (n % 18446744073709551616 / 128) (n % 18446744073709551616 % 128) T) ?turn T _ _ _ _ _ ?hJ F3 N3
    case hJ => exact ⟨0, by omega, _, _, _, List.Mem.head _, IntsAre.cons _ _ .nil, m_last2 rfl rfl⟩
    case turn =>
      clear F3 N3
      intro k m4 news4 h4 tk4 hP F4 N4
      obtain ⟨t, htk, its, c, tr, hmem, hI, hm⟩ := hP
      rw [hm] at F4
      clear hm
      replace N4 := led_one N4 hmem
      clear hmem
      have hz := its_size hI (by omega)
      obtain ⟨hz1, hz2⟩ := hz
      cases k with
      | zero =>
        obtain rfl : t = T := by omega
        have hR := ints_back hI
        have hIn := dgs_in (r := n % 18446744073709551616 / 128) (x := n % 18446744073709551616 % 128) (by omega) (by omega) t
        have hL := dgs_fit (n % 18446744073709551616 / 128) (n % 18446744073709551616 % 128) (show t ≤ 10 by omega)
        k_steps
        refine retY hret hN₀ gk (by k_asm) (by k_asm) (by assumption) (by assumption) (fun _ h => nomatch h) ?_
        assumption
      | succ k =>
        have e0 := hpos t (by omega)
        have e1 := hbd t
        k_steps
        exact WhStep.intro (by k_asm) (by k_asm) ⟨t + 1, by omega, _, _, _, List.Mem.head _, ints_on hI, m_last2 rfl rfl⟩
  · rw [hL]
    clear hL hn
    unfold FnR; intros; rename_i hN₀ _ _ _ _ hret; refine wpAny_call ?_; k_dflt (refine' enter_keep ?k1 ?k2 ?k3 ?k4 ?k5 ?kA ?kF ?kK ?k6 ?k7 ?k8 ?k9 ?kB ?_ ?c2 ?c3 ?c4 ?c5; (case kA => exact rfl); (case kF => exact rfl); (case kK => assumption); (case k1 => k_asm); (case k2 => k_asm); (case k3 => k_asm); (case k4 => k_asm); (case k5 => k_asm); (case k6 => k_is); (case k7 => k_is); (case k8 => ktr_room); (case k9 => exact BindsTo.of_eq rfl); (case c5 => decide); (case kB => exact locs rfl); (case c2 => exact rfl); (case c3 => exact rfl); (case c4 => exact rfl); k_whole; intro g' L' h' FG' F' N' B' X' T' gk lt'; (try dsimp only); (try k_lt lt'); (try k_lift B'); (try k_fold))
    k_steps
    refine unheld fun I lI => ?_
    rename Fr _ _ _ _ => F3
    rename News _ _ _ _ => N3
    obtain ⟨D, hD⟩ := led_head N3
    dsimp only at hD
    subst hD
    have hbd := dv_bd (B := 18446744073709551616) (r := n % 18446744073709551616 / 256) (by omega) (by omega)
    have lD : @LT.lt Nat _ D I := lI _ (.head _)
    clear lI
    refine rangeRest_inv (PJ D (n % 18446744073709551616 / 256) (n % 18446744073709551616 % 256)) ?turn ?done _ 0 _ _ rfl ?hJ
    case hJ => exact ⟨_, _, _, List.Mem.head _, IntsAre.cons _ _ .nil, m_last2 rfl rfl⟩
    case turn =>
      clear F3 N3
      intro t m4 news4 t4 h4 tk4 ht hP F4 N4
      obtain ⟨its, c, tr, hmem, hI, hm⟩ := hP
      rw [hm] at F4
      clear hm
      replace N4 := led_two N4 hmem
      clear hmem
      have hz := its_size hI (by omega)
      obtain ⟨hz1, hz2⟩ := hz
      k_steps
      exact ⟨_, _, _, List.Mem.head _, ints_on hI, m_last2 rfl rfl⟩
    case done =>
      clear F3 N3
      intro m4 news4 h4 tk4 hP F4 N4
      obtain ⟨its, c, tr, hmem, hI, hm⟩ := hP
      rw [hm] at F4
      clear hm
      replace N4 := led_one N4 hmem
      clear hmem
      have hz := its_size hI (by omega)
      obtain ⟨hz1, hz2⟩ := hz
      have hR := ints_back hI
      have hIn := dgs_in (r := n % 18446744073709551616 / 256) (x := n % 18446744073709551616 % 256) (by omega) (by omega) 8
      have hL := dgs_fit (n % 18446744073709551616 / 256) (n % 18446744073709551616 % 256) (show 8 ≤ 10 by omega)
      (try dsimp only)
      k_steps
      refine retY hret hN₀ gk (by k_asm) (by k_asm) (by assumption) (by assumption) (fun _ h => nomatch h) ?_
      assumption
theorem offL4 : True := by
  w_top off
  trivial
def pvN (m : Int) : Int := if m < 128 then 1 else if m < 16384 then 2 else if m < 2097152 then 3 else if m < 72057594037927936 then 8 else 9
theorem getD_mid (pre L post : List Int) (i : Int) (j : Nat) (hj : j < L.length) (hi : i = (pre.length : Int) + j) : (pre ++ (L ++ post)).getD i.toNat 0 = L.getD j 0 := by
  subst hi
  have e : ((pre.length : Int) + (j : Int)).toNat = pre.length + j := by omega
  rw [e, List.getD_eq_getElem?_getD, List.getD_eq_getElem?_getD, List.getElem?_append_right (by omega), Nat.add_sub_cancel_left, List.getElem?_append_left hj]
theorem pvM_len {m : Int} : ((pvM m).length : Int) = pvN m := by
  unfold pvM pvN
  (repeat' split) <;> rfl
def VI (ks : List Int) (i m : Int) (n : Nat) (g : Nat → Int) : Prop :=
  1 ≤ n ∧ n ≤ 9 ∧ i + (n : Int) ≤ (ks.length : Int) ∧ g 0 = 0 ∧ (∀ j, j < n → 0 ≤ g j ∧ g j < 1000000000000000000) ∧
  (∀ j, j + 1 < n → 128 ≤ ks.getD (i + (j : Int)).toNat 0 ∧ g (j + 1) = g j * 128 + ks.getD (i + (j : Int)).toNat 0 % 128) ∧
  (∀ j, j + 1 = n → j < 8 → ks.getD (i + (j : Int)).toNat 0 < 128 ∧ m = g j * 128 + ks.getD (i + (j : Int)).toNat 0 % 128) ∧
  (n = 9 → m = g 8 * 256 + ks.getD (i + ((8 : Nat) : Int)).toNat 0)
/-- what a number's octets say to a reader: k octets, and the number as read after each -/
def Dig (ks : List Int) (i m n : Int) : Prop := ∃ (k : Nat) (g : Nat → Int), n = (k : Int) ∧ VI ks i m k g
theorem dgs_at (r x : Int) : ∀ T j, j < T → (dgs T r ++ [x]).getD j 0 = dv (T - 1 - j) r % 128 + 128
  | 0, j, h => absurd h (Nat.not_lt_zero j)
  | T + 1, 0, _ => rfl
  | T + 1, j + 1, h => by
    show (dgs T r ++ [x]).getD j 0 = _
    rw [dgs_at r x T j (by omega), show T + 1 - 1 - (j + 1) = T - 1 - j by omega]
theorem dgs_end (r x : Int) : ∀ T, (dgs T r ++ [x]).getD T 0 = x
  | 0 => rfl
  | T + 1 => dgs_end r x T
theorem dig_turn {r x : Int} {T j : Nat} (h : j < T) : 128 ≤ (dgs T r ++ [x]).getD j 0 ∧ dv (T - (j + 1)) r = dv (T - j) r * 128 + (dgs T r ++ [x]).getD j 0 % 128 := by
  rw [dgs_at r x T j h, show T - j = (T - 1 - j) + 1 by omega, show T - (j + 1) = T - 1 - j by omega]
  show 128 ≤ dv (T - 1 - j) r % 128 + 128 ∧ dv (T - 1 - j) r = dv (T - 1 - j) r / 128 * 128 + (dv (T - 1 - j) r % 128 + 128) % 128
  omega
theorem dig_of {m : Int} (pre post : List Int) (h0 : 0 ≤ m) (h1 : m < 18446744073709551616) (hm : m < 2097152 ∨ 562949953421312 ≤ m) : Dig (pre ++ (pvM m ++ post)) (pre.length : Int) m (pvN m) := by
  have hlen := pvM_len (m := m)
  rcases pv_sh h0 hm with ⟨hr, T, hT, hL, hpos, hend⟩ | ⟨hr, hL⟩
  · rw [hL] at hlen ⊢
    have hl : (dgs T (m / 128) ++ [m % 128]).length = T + 1 := by rw [List.length_append, dgs_len]; rfl
    have at' : ∀ j : Nat, j < T + 1 → (pre ++ ((dgs T (m / 128) ++ [m % 128]) ++ post)).getD ((pre.length : Int) + (j : Int)).toNat 0 = (dgs T (m / 128) ++ [m % 128]).getD j 0 := fun j hj => getD_mid pre _ post _ j (by omega) rfl
    have hbd := dv_bd (B := 1000000000000000000) (r := m / 128) (by omega) (by omega)
    refine ⟨T + 1, fun j => dv (T - j) (m / 128), by omega, by omega, by omega, ?_, hend, fun j hj => hbd _, fun j hj => ?_, fun j hj h8 => ?_, fun h => by omega⟩
    · simp only [List.length_append] at hl ⊢
      omega
    · rw [at' j (by omega)]
      exact dig_turn (by omega)
    · obtain rfl : j = T := by omega
      rw [at' j (by omega), dgs_end]
      have e : dv (j - j) (m / 128) = m / 128 := by rw [Nat.sub_self]; rfl
      show m % 128 < 128 ∧ m = dv (j - j) (m / 128) * 128 + m % 128 % 128
      omega
  · rw [hL] at hlen ⊢
    have hl : (dgs 8 (m / 256) ++ [m % 256]).length = 9 := rfl
    have at' : ∀ j : Nat, j < 9 → (pre ++ ((dgs 8 (m / 256) ++ [m % 256]) ++ post)).getD ((pre.length : Int) + (j : Int)).toNat 0 = (dgs 8 (m / 256) ++ [m % 256]).getD j 0 := fun j hj => getD_mid pre _ post _ j (by omega) rfl
    have hbd := dv_bd (B := 1000000000000000000) (r := m / 256) (by omega) (by omega)
    refine ⟨9, fun j => dv (8 - j) (m / 256), by omega, by omega, by omega, ?_, ?_, fun j hj => hbd _, fun j hj => ?_, fun j hj h8 => by omega, fun _ => ?_⟩
    · simp only [List.length_append] at hl ⊢
      omega
    · show m / 256 / 128 / 128 / 128 / 128 / 128 / 128 / 128 / 128 = 0
      omega
    · rw [at' j (by omega)]
      exact dig_turn (by omega)
    · rw [at' 8 (by omega), dgs_end]
      show m = m / 256 * 256 + m % 256
      omega
local macro_rules | `(tactic| walk_at "pyIter ref") => `(tactic| ((with_reducible show wpAny _ _ (pyIter (Value.ref _)) (fun it s₂ => LoopAtV _ _ _ _ _ _ _ _ _ it s₂) _ _); (rename IsRange _ _ _ _ _ _ _ _ => rX); (rename Fr _ _ _ _ => lF'); (rename News _ _ _ _ => lN'); (with_unfolding_all refine iter_rangeUnr (n := 9) (by rfl) rX (by first | decide | rfl) (by first | decide | rfl) lF' lN' ?_); clear lF' lN'; refine held ?_))
/-- what stands at the head of turn j of get_varint's loop -/
def GJ (k : Nat) (i : Int) (b : Array UInt8) (tb : Tok) (g : Nat → Int) (j : Nat) (m : Str → Option Value) (_ : Led) : Prop :=
  j < k ∧ ∃ ia ta gv tn, ia = i + (j : Int) ∧ gv = g j ∧ m = fun z => if z = Str.ofString "octets" then some (.bytes b tb) else if z = Str.ofString "at" then some (.int ia ta) else if z = Str.ofString "number" then some (.int gv tn) else m z
theorem get_varint_spec (w : World) (mean : ExcName → Option Value) (mg mb : Str → Option Value) (b : Array UInt8) (tb : Tok) (ks : List Int) (i : Int) (ti : Tok) (m n : Int) (hb : KBw.bInts b = ks) (hi : 0 ≤ i) (hz : ks.length ≤ 100000) (hG : Dig ks i m n) :
    FnR w mean mg mb 2 60 [.bytes b tb, .int i ti] [] (PT2 m (i + n)) := by
  obtain ⟨k, g, rfl, hV⟩ := hG
  obtain ⟨v1, v2, v3, v4, v5, v6, v7, v8⟩ := hV
  unfold FnR
  intros
  rename_i hN₀ _ _ _ _ hret
  refine wpAny_call ?_
  k_dflt (refine' enter_keep ?k1 ?k2 ?k3 ?k4 ?k5 ?kA ?kF ?kK ?k6 ?k7 ?k8 ?k9 ?kB ?_ ?c2 ?c3 ?c4 ?c5; (case kA => exact rfl); (case kF => exact rfl); (case kK => assumption); (case k1 => k_asm); (case k2 => k_asm); (case k3 => k_asm); (case k4 => k_asm); (case k5 => k_asm); (case k6 => k_is); (case k7 => k_is); (case k8 => ktr_room); (case k9 => exact BindsTo.of_eq rfl); (case c5 => decide); (case kB => exact locs rfl); (case c2 => exact rfl); (case c3 => exact rfl); (case c4 => exact rfl); k_whole; intro g' L' h' FG' F' N' B' X' T' gk lt'; (try dsimp only); (try k_lt lt'); (try k_lift B'); (try k_fold))
  k_steps
  refine unheld fun I lI => ?_
  refine rangeRest_inv (GJ k i b tb g) ?turn ?done _ 0 _ _ rfl ?hJ
  case hJ =>
    exact ⟨by omega, _, _, _, _, by omega, v4.symm, m_last3 rfl rfl rfl⟩
  case done => exact fun m news h tk hJ => absurd hJ.1 (by omega)
  case turn =>
    intro j m3 news3 t3 h3 tk3 hj hJ F3 N3
    obtain ⟨hjk, ia, ta, gv, tn, rfl, rfl, hm⟩ := hJ
    rw [hm] at F3
    clear hm
    have N4 := (News.sub1 N3)
    clear N3 news3
    clear lI
    have w5 := v5 j hjk
    rcases (show j = 8 ∨ (j < 8 ∧ j + 1 = k) ∨ (j < 8 ∧ j + 1 < k) by omega) with hc | hc | hc
    · have w8 := v8 (by omega)
      subst hc
      clear v5 v6 v7 v8
      k_steps
      refine retT hret hN₀ gk (by k_asm) (by k_asm) (by assumption) (by assumption) (fun _ h => nomatch h) (fun _ h => nomatch h) (by k_mem) (by k_mem) ?_ ?_
      · exact w8.symm
      · omega
    · have w7 := v7 j hc.2 hc.1
      clear v5 v6 v7 v8
      k_steps
      refine retT hret hN₀ gk (by k_asm) (by k_asm) (by assumption) (by assumption) (fun _ h => nomatch h) (fun _ h => nomatch h) (by k_mem) (by k_mem) ?_ ?_
      · exact w7.2.symm
      · omega
    · have w6 := v6 j hc.2
      clear v5 v6 v7 v8
      k_steps
      exact ⟨hc.2, _, _, _, _, by omega, w6.2.symm, m_last3 rfl rfl rfl⟩
end
theorem offN3 : True := by
  w_top off
  trivial
open Builtin
theorem ba_mro : mroOf (.type "bytearray") = pure [.type "bytearray", .type "object"] := by rw [mroOf_type]; kernel_rfl
theorem ba_lookup_new : typeLookup (.type "bytearray") "__new__" = pure (some (.builtin "bytearray.__new__")) := by rw [typeLookup_type, builtinLookup_eq_fast]; kernel_rfl
theorem ba_slot_init : Slot "bytearray" "__init__" "bytearray.__init__" :=
  .of (owner := "bytearray") (n := "__init__") (by rw [typeLookup_type, builtinLookup_eq_fast]; kernel_rfl) (by decide +kernel) (by decide +kernel) (by decide +kernel)
    (by first | exact .inl (by decide +kernel) | exact .inr (by decide +kernel)) (by rw [isSubtype_type]; kernel_rfl)
theorem ba_sub : isSubtype (.type "bytearray") (.type "bytearray") = pure true := by rw [isSubtype_type]; kernel_rfl
theorem ba_called : TypeCalled "bytearray" "bytearray.__new__" "bytearray.__init__" :=
  ⟨by decide +kernel, by decide +kernel, ⟨_, _, ba_mro⟩, madeBy_type ba_mro ba_lookup_new (by decide +kernel), by decide +kernel, ba_sub, ba_slot_init⟩
theorem ba_typeCall (a : Value) : checkTypeCall "bytearray" ⟨[a], []⟩ = pure () := by kernel_rfl
theorem ba_newCall (a : Value) : checkBuiltinCall "bytearray.__new__" ⟨[.type "bytearray", a], []⟩ = pure () := by kernel_rfl
theorem ba_entry_new : entryFor table "bytearray.__new__" = some Builtin.«list.__new__» :=
  entryFor_alias (id' := "list.__new__") (by rw [fastTable_eq_tree]; kernel_rfl) (by first | rfl | decide +kernel) (by decide +kernel) (by rw [fastTable_eq_tree]; kernel_rfl)
theorem ba_plain_new : plainId "bytearray.__new__" = true := by decide +kernel
theorem ba_entry_init : entryFor table "bytearray.__init__" = some Builtin.«bytearray.__init__» := by first | exact entryFor_of_tree (by kernel_rfl) | exact entryFor_of_fast (by kernel_rfl)
theorem ba_plain_init : plainId "bytearray.__init__" = true := by decide +kernel
theorem ba_entry_set : entryFor table "bytearray.__setitem__" = some Builtin.«bytearray.__setitem__» := by first | exact entryFor_of_tree (by kernel_rfl) | exact entryFor_of_fast (by kernel_rfl)
theorem ba_bind (v : Value) : Bytes.bindOptional "bytearray.__init__" "bytearray" ["source", "encoding", "errors"] [v] [] = pure [some v, none, none] := by kernel_rfl
theorem ba_look_buffer : typeLookup (.type "bytearray") "__buffer__" = pure (some (.builtin "bytearray.__buffer__")) := by rw [typeLookup_type, builtinLookup_eq_fast]; kernel_rfl
theorem ba_look_release : typeLookup (.type "bytearray") "__release_buffer__" = pure (some (.builtin "bytearray.__release_buffer__")) := by rw [typeLookup_type, builtinLookup_eq_fast]; kernel_rfl
theorem ba_look_bytes : typeLookup (.type "bytearray") "__bytes__" = pure none := by rw [typeLookup_type, builtinLookup_eq_fast]; kernel_rfl
theorem ba_look_index : typeLookup (.type "bytearray") "__index__" = pure none := by rw [typeLookup_type, builtinLookup_eq_fast]; kernel_rfl
set_option maxRecDepth 1000000 in
set_option maxHeartbeats 4000000 in
theorem ba_owner : ("bytearray.__new__".splitOn ".__new__").headD "" = "bytearray" := by simp +decide [String.splitOn, String.splitOnAux]
theorem ba_init_args (a b : Value) : argsOk "bytearray.__init__" ⟨[a, b], []⟩ := by unfold argsOk; kernel_rfl
section
variable {prog : Program} {w : World} {A : Around} {E : Value → Shared → Prop} {s : Shared}
theorem ba_new (a : Value) {Q₁ : Value → Shared → Prop}
    (h : Q₁ (.ref s.heap.objs.size) { s with heap := s.heap.push { cls := .type "bytearray", data := .bytearray #[] } }) :
    codeAny (model prog w) A (.call (.builtin "bytearray.__new__") ⟨[.type "bytearray", a], []⟩) (wants Q₁ E) s := by
  refine codeAny_of_tree ?_
  show wpAny _ A.in1 (do checkBuiltinCall "bytearray.__new__" ⟨[.type "bytearray", a], []⟩; again (.builtin "bytearray.__new__" ⟨[.type "bytearray", a], []⟩)) _ _ s
  refine wpAny_bind (wpAny_of_eq (ba_newCall a) (wpAny_pure ⟨plainId_quiet ba_plain_new _, codeAny_builtin_stack ba_entry_new rfl fun p st => ?_⟩))
  rw [Around.under_plainId ba_plain_new _]
  have hsub := ba_sub
  have hown := ba_owner
  obtain ⟨hp, g, d, tk, os⟩ := s
  simp only [hown]
  wp_walk
  exact h
theorem n_if_false {α : Type} {M : Model} {c : Bool} {a b : Sem α} {Q : α → Shared → Prop} (hc : c = false) (h : wpN M A b Q E s) : wpN M A (if c = true then a else b) Q E s := by
  subst hc
  exact h
theorem n_if_true {α : Type} {M : Model} {c : Bool} {a b : Sem α} {Q : α → Shared → Prop} (hc : c = true) (h : wpN M A a Q E s) : wpN M A (if c = true then a else b) Q E s := by
  subst hc
  exact h
theorem n_stackAny {f : Code × Pos → Bool} {Q : Bool → Shared → Prop} (hg : A.guards = some []) (hf : ∀ c p, c.isGuard = false → isDec c = false → f (c, p) = false) (h : Q false s) : wpN (model prog w) A (do return (← stack).any f) Q E s := fun Γ p hΓ hC => by
  have hgs : guardsOf ((Γ.code, p) :: Γ.below) = [] := by rw [guardsOf_cons]; exact hΓ.2.2.2.1 _ hg
  have hds : ∀ c ∈ ((Γ.code, p) :: Γ.below), isDec c.1 = false := fun c hc => by
    rcases List.mem_cons.mp hc with rfl | hc
    · exact hC.1
    · exact hC.2 c hc
  have key : ∀ st : List (Code × Pos), guardsOf st = [] → (∀ c ∈ st, isDec c.1 = false) → st.any f = false := by
    intro st
    induction st with
    | nil => intro _ _; rfl
    | cons c st ih =>
      intro h1 h2
      rw [guardsOf_cons] at h1
      have hg0 : c.1.isGuard = false := by
        cases q : c.1.isGuard with
        | false => rfl
        | true =>
          have : c.1.guards = [c.1] := by unfold Code.guards; rw [q]; rfl
          rw [this] at h1
          cases h1
      rw [List.any_cons, ih (List.append_eq_nil_iff.mp h1).2 fun x hx => h2 x (.tail _ hx), Bool.or_false]
      exact hf _ _ hg0 (h2 c (.head _))
  show Q (((Γ.code, p) :: Γ.below).any f) s
  rw [key _ hgs hds]
  exact h
/-- no frame of a clean stack without guards holds the object -/
theorem n_exported {a : Addr} {Q : Bool → Shared → Prop} (hg : A.guards = some []) (h : Q false s) : wpN (model prog w) A (Bytes.exported (.ref a)) Q E s := by
  unfold Bytes.exported
  refine n_stackAny hg (fun c p h1 h2 => ?_) h
  cases c with
  | builtin id args =>
    obtain ⟨pos, kw⟩ := args
    by_cases e1 : id = "bytearray.__contains__"
    · subst e1; exact Bool.noConfusion (h1.symm.trans (show guardIds.contains "bytearray.__contains__" = true by decide +kernel))
    by_cases e2 : id = "bytearray.__mod__"
    · subst e2; exact Bool.noConfusion (h1.symm.trans (show guardIds.contains "bytearray.__mod__" = true by decide +kernel))
    by_cases e3 : id = "bytearray.__rmod__"
    · subst e3; exact Bool.noConfusion (h1.symm.trans (show guardIds.contains "bytearray.__rmod__" = true by decide +kernel))
    by_cases e4 : id = "_struct.pack_into.held"
    · subst e4; exact Bool.noConfusion (h1.symm.trans (show guardIds.contains "_struct.pack_into.held" = true by decide +kernel))
    by_cases e5 : id = "bytearray.find.held"
    · subst e5; exact Bool.noConfusion (h1.symm.trans (show guardIds.contains "bytearray.find.held" = true by decide +kernel))
    delta Bytes.exported.match_1
    refine Eq.trans (dif_neg e1) ?_
    refine Eq.trans (dif_neg e2) ?_
    refine Eq.trans (dif_neg e3) ?_
    refine Eq.trans (dif_neg e4) ?_
    refine Eq.trans (dif_neg e5) ?_
    cases pos with
    | nil => rfl
    | cons v r =>
      have h3 : Bytes.decodersThatHold.contains id = false := h2
      show (_ && Bytes.decodersThatHold.contains id) = false
      rw [h3, Bool.and_false]
  | _ => rfl
theorem ba_write {a : Addr} {b : Array UInt8} {f : Array UInt8 → Array UInt8} {Q : Unit → Shared → Prop} (ho : s.heap.get? a = some { cls := .type "bytearray", data := .bytearray b }) (hz : (f b).size ≤ 1000)
    (h : ∀ h', h'.get? a = some { cls := .type "bytearray", data := .bytearray (f b) } → Heap.SameBut a s.heap h' → Q () { s with heap := h' }) : wpAny (model prog w) A (Bytes.write (.ref a) f) Q E s := by
  show wpAny _ _ (updateBytearray a f) _ _ _
  unfold updateBytearray
  refine wpAny_bind (wpAny_load ho ?_)
  show wpAny _ _ (update a (Obj.mapBytearray f) >>= fun _ => lookBehind a) _ _ _
  refine wpAny_bind (wpAny_update ho ?_)
  have h2 : (s.heap.update a (Obj.mapBytearray f)).get? a = some { cls := .type "bytearray", data := .bytearray (f b) } := Heap.get?_update_self (Obj.mapBytearray f) ho rfl
  refine wpAny_lookBehind h2 ?_ (h _ h2 (Heap.SameBut.update ..))
  show (if (f b).size > sizeLine then some "bytearray:memory" else none) = none
  rw [if_neg]
  rw [sizeLine_eq]
  omega
theorem ba_ownRelease {a : Addr} {b : Array UInt8} {Q : Bool → Shared → Prop} (ho : s.heap.get? a = some { cls := .type "bytearray", data := .bytearray b }) (h : Q false s) : wpAny (model prog w) A (Bytes.ownRelease (.ref a)) Q E s := by
  have hT : s.TypeIs (.ref a) "bytearray" := ⟨_, ho, rfl⟩
  unfold Bytes.ownRelease Bytes.slotIsOwn
  refine wpAny_bind (wpAny_bind (wpAny_specialOf hT ba_look_release ?_))
  refine bm_if_false (by decide +kernel) ?_
  have e1 : ("bytearray.__release_buffer__".dropRight ("__release_buffer__".length + 1)) = "bytearray" := by decide +kernel
  rw [e1]
  refine wpAny_isInstance (T := "bytearray") (b := true) hT ba_sub ?_
  exact wpAny_pure h
/-- bytearray.__init__ on a fresh one, with an int -/
theorem ba_init4 {a : Addr} {t : Tok} {R : Fin → Shared → Prop} (hg : A.guards = some []) (ho : s.heap.get? a = some { cls := .type "bytearray", data := .bytearray #[] })
    (h : ∀ h', h'.get? a = some { cls := .type "bytearray", data := .bytearray #[0, 0, 0, 0] } → Heap.SameBut a s.heap h' → R (.done (.ret .none)) { s with heap := h' }) :
    wpN (model prog w) A (Builtin.«bytearray.__init__» ⟨[.ref a, .int 4 t], []⟩) R E s := by
  unfold Builtin.«bytearray.__init__»
  refine wpN_bind (wpN_of (ba_ownRelease ho ?_))
  refine n_if_false rfl ?_
  refine wpN_bind (wpN_of_eq (ba_bind _) ?_)
  refine wpN_bind (wpN_of_eq (a := ()) rfl ?_)
  refine wpN_bind (wpN_of_eq (a := ()) rfl ?_)
  refine wpN_bind (wpN_bind (n_exported hg (wpN_of ?_)))
  show wpAny _ _ (Bytes.exportsOf (.ref a) >>= fun n => pure (decide (n > 0))) _ _ _
  unfold Bytes.exportsOf
  refine wpAny_bind (wpAny_bind (m := load a) (wpAny_load ho ?_))
  refine wpAny_pure (wpAny_pure (wpN_of ?_))
  refine bm_if_false rfl ?_
  refine wpAny_bind (ba_write (f := fun _ => #[]) ho (by decide) fun h₁ ho₁ hs₁ => ?_)
  dsimp only
  refine wpAny_bind (wpAny_of_eq (a := none) rfl ?_)
  refine bm_if_false rfl ?_
  refine wpAny_bind ?_
  refine bm_if_false rfl ?_
  refine bm_if_false rfl ?_
  refine wpAny_pure ?_
  refine wpAny_bind (wpAny_specialOf (T := "int") (typeIs_int _ _ _) F.slot_int_index.lookup ?_)
  refine bm_if_true rfl ?_
  refine wpAny_bind (wpAny_attempt (wpAny_of_eq (a := (4 : Int)) rfl ?_))
  dsimp only
  refine bm_if_false rfl ?_
  rw [if_neg (show ¬ ((4 : Int) < 0) by decide)]
  refine bm_if_false (by decide) ?_
  refine bm_if_false (by decide +kernel) ?_
  refine wpAny_bind (wpAny_rule ?_)
  rw [if_pos (show (4 : Int) > 0 by decide)]
  refine wpAny_bind (ba_write (f := fun _ => Array.replicate (4 : Int).toNat 0) ho₁ (by decide) fun h₂ ho₂ hs₂ => ?_)
  refine wpAny_pure ?_
  exact h h₂ ho₂ (Heap.SameBut.trans hs₁ hs₂)
theorem codeN_builtin {id : String} {args : Args} {b : Builtin} {R : Result → Shared → Prop} (hb : entryFor table id = some b) (hd : isDec (.builtin id args) = false)
    (h : wpN (model prog w) (A.under (.builtin id args)) (b args)
      (fun fin s' => match fin with | .done f => R (.ok f) s' | .again c' => c'.quiet = true ∧ codeN (model prog w) A c' R s') (fun e s' => R (.error e) s') s) :
    codeN (model prog w) A (.builtin id args) R s := by
  refine codeN_of_tree hd ?_
  show wpN _ _ (match entryFor table id with | some b => b args | none => unsupported ((withoutEnding? id "#data").getD id)) _ _ s
  rw [hb]; exact h
theorem codeN_call_builtin {id : String} {args : Args} {b : Builtin} {R : Result → Shared → Prop} (hq : plainId id = true) (hb : entryFor table id = some b) (hd : isDec (.builtin id args) = false)
    (h : wpAny (model prog w) A.in1 (checkBuiltinCall id args) (fun _ s₁ => wpN (model prog w) A.in1 (b args)
      (fun fin s' => match fin with | .done f => R (.ok f) s' | .again c' => c'.quiet = true ∧ codeN (model prog w) A c' R s') (fun e s' => R (.error e) s') s₁)
      (fun e s' => R (.error e) s') s) : codeN (model prog w) A (.call (.builtin id) args) R s := by
  refine codeN_of_tree rfl ?_
  show wpN _ A.in1 (do checkBuiltinCall id args; again (.builtin id args)) _ _ s
  refine wpN_bind (wpN_of (wpAny_mono h (fun _ s₁ h₁ => wpN_pure (And.intro (plainId_quiet hq args) (codeN_builtin hb hd ?_))) fun _ _ h' => h'))
  rw [Around.under_plainId hq args]
  exact h₁
/-- bytearray(4) -/
theorem n_bytearray {t : Tok} {Q : Value → Shared → Prop} (hg : A.guards = some [])
    (h : ∀ h', h'.get? s.heap.objs.size = some { cls := .type "bytearray", data := .bytearray #[0, 0, 0, 0] } → Heap.SameBut s.heap.objs.size (s.heap.push { cls := .type "bytearray", data := .bytearray #[] }) h' → Q (.ref s.heap.objs.size) { s with heap := h' }) :
    wpN (model prog w) A (call (.type "bytearray") [.int 4 t]) Q E s := by
  refine wpN_call ?_
  refine codeN_of_tree rfl ?_
  show wpN _ A.in1 (callAny (.type "bytearray") ⟨[.int 4 t], []⟩) _ _ _
  refine wpN_pure ⟨Code.quiet_builtin _ (by decide +kernel), codeN_builtin F.entry_type_call (show Builtin.Bytes.decodersThatHold.contains "type.__call__" = false by decide +kernel) ?_⟩
  rw [Around.under_plain (weight_type_call_type "bytearray" _ []) rfl]
  obtain ⟨c, tl, hmro⟩ := ba_called.mro
  have ho : ({ s with heap := s.heap.push { cls := .type "bytearray", data := .bytearray #[] } } : Shared).heap.get? s.heap.objs.size = some { cls := .type "bytearray", data := .bytearray #[] } := Heap.get?_push_size _ rfl
  have hT : ({ s with heap := s.heap.push { cls := .type "bytearray", data := .bytearray #[] } } : Shared).TypeIs (.ref s.heap.objs.size) "bytearray" := ⟨_, ho, rfl⟩
  unfold Builtin.«type.__call__»
  dsimp only
  refine n_if_false ba_called.notType ?_
  refine n_if_false ba_called.canCreate ?_
  refine wpN_bind (wpN_of_eq (ba_typeCall _) ?_)
  refine wpN_bind (wpN_of_eq hmro ?_)
  refine n_if_false rfl ?_
  refine wpN_bind (wpN_of_eq ba_called.made ?_)
  refine wpN_bind (wpN_pure ?_)
  refine wpN_bind (wpN_holding (wpN_of (wpAny_call (codeAny_mono (ba_new (.int 4 t) (E := E) (Q₁ := fun v s' => v = .ref s.heap.objs.size ∧ s' = { s with heap := s.heap.push { cls := .type "bytearray", data := .bytearray #[] } }) ⟨rfl, rfl⟩) fun r s₁ hr => ?_))))
  cases r with
  | error e => exact hr
  | ok fl =>
    cases fl with
    | ret obj =>
      obtain ⟨rfl, rfl⟩ := hr
      refine wpN_bind (wpN_of (wpAny_isInstance (T := "bytearray") (b := true) hT ba_sub ?_))
      refine n_if_false rfl ?_
      refine wpN_bind (wpN_holding ?_)
      unfold callSpecial?
      refine wpN_bind (wpN_of (wpAny_specialOf hT ba_slot_init.lookup ?_))
      dsimp only
      refine wpN_holding ?_
      refine wpN_bind (wpN_of_eq (ba_slot_init.bind _) ?_)
      dsimp only
      refine wpN_bind (wpN_call (codeN_call_builtin ba_plain_init ba_entry_init (show Builtin.Bytes.decodersThatHold.contains "bytearray.__init__" = false by decide +kernel) (ba_slot_init.check _ _ _ _ _ _ _ _ hT (ba_init_args _ _) ?_)))
      refine ba_init4 hg ho fun h' hh hs => ?_
      refine wpN_pure (wpN_pure ?_)
      exact h h' hh hs
    | _ => exact hr.elim
end
theorem offN4 : True := by
  w_top off
  trivial
open Builtin
theorem ba_slot_set : Slot "bytearray" "__setitem__" "bytearray.__setitem__" :=
  .of (owner := "bytearray") (n := "__setitem__") (by rw [typeLookup_type, builtinLookup_eq_fast]; kernel_rfl) (by decide +kernel) (by decide +kernel) (by decide +kernel)
    (by first | exact .inl (by decide +kernel) | exact .inr (by decide +kernel)) (by rw [isSubtype_type]; kernel_rfl)
theorem ba_set_args (a b c : Value) : argsOk "bytearray.__setitem__" ⟨[a, b, c], []⟩ := by unfold argsOk; kernel_rfl
theorem by_look_bytes : typeLookup (.type "bytes") "__bytes__" = pure (some (.builtin "bytes.__bytes__")) := by rw [typeLookup_type, builtinLookup_eq_fast]; kernel_rfl
theorem in_look_bytes : typeLookup (.type "int") "__bytes__" = pure none := by rw [typeLookup_type, builtinLookup_eq_fast]; kernel_rfl
section
variable {prog : Program} {w : World} {A : Around} {E : Value → Shared → Prop} {s : Shared}
theorem ba_set {a : Addr} {b : Array UInt8} {k x : Int} {t u : Tok} {Q : Unit → Shared → Prop} (ho : s.heap.get? a = some { cls := .type "bytearray", data := .bytearray b }) (h0 : 0 ≤ k) (hn : k < b.size) (hz : b.size ≤ 1000) (x0 : 0 ≤ x) (x1 : x < 256)
    (h : ∀ h', h'.get? a = some { cls := .type "bytearray", data := .bytearray (b.setIfInBounds k.toNat x.toNat.toUInt8) } → Heap.SameBut a s.heap h' → Q () { s with heap := h' }) :
    wpAny (model prog w) A (setItem (.ref a) (.int k t) (.int x u)) Q E s := by
  have hT : s.TypeIs (.ref a) "bytearray" := ⟨_, ho, rfl⟩
  unfold setItem
  refine wpAny_holding ?_
  refine wpAny_bind (wpAny_sequenceKey hT (by decide) ?_)
  refine wpAny_bind (wpAny_callSpecial?_slot (name := Str.ofString "__setitem__") hT ba_slot_set
    (wpAny_call_entry ba_slot_set hT ba_entry_set ?_ (ba_set_args _ _ _)))
  unfold Builtin.«bytearray.__setitem__»
  refine bm_if_false rfl ?_
  dsimp only
  refine wpAny_bind ?_
  unfold Bytes.subscript?
  refine wpAny_bind (wpAny_specialOf (T := "int") (typeIs_int _ _ _) F.slot_int_index.lookup ?_)
  refine bm_if_false rfl ?_
  refine wpAny_bind (wpAny_of_eq (rfl : asIndex (.int k t) = pure k) ?_)
  refine bm_if_false ?_ ?_
  · show (!(decide (-(2 ^ 63 : Int) ≤ k) && decide (k < 2 ^ 63))) = false
    rw [decide_eq_true (by omega), decide_eq_true (by omega)]
    rfl
  refine wpAny_pure ?_
  dsimp only
  unfold Bytes.byteValue
  refine wpAny_bind (wpAny_bind (wpAny_of_eq (rfl : asIndex (.int x u) = pure x) ?_))
  refine bm_if_false (by simp only [Bool.or_eq_false_iff, decide_eq_false_iff_not]; omega) ?_
  refine wpAny_pure ?_
  refine wpAny_bind ?_
  unfold Builtin.Bytes.payload Builtin.Bytes.payload?
  refine wpAny_bind (wpAny_bind (wpAny_load ho ?_))
  refine wpAny_pure (wpAny_pure ?_)
  have e : seqIndex? k b.size = some k.toNat := by
    unfold seqIndex?
    first
      | (rw [if_neg (by omega)]; simp; omega)
      | (simp; omega)
      | (split <;> simp <;> omega)
  rw [e]
  dsimp only
  refine wpAny_bind (ba_write (f := fun b => b.setIfInBounds k.toNat x.toNat.toUInt8) ho (by simpa using hz) fun h' hh hs => ?_)
  first
    | exact wpAny_bind (wpAny_pure (wpAny_pure ⟨.none, rfl, wpAny_pure (h _ hh hs)⟩))
    | exact wpAny_pure ⟨.none, rfl, wpAny_pure (h _ hh hs)⟩
theorem call_bytes_of {v : Value} {Q : Value → Shared → Prop} (hnew : codeAny (model prog w) A.in1 (.call (.builtin "bytes.__new__") ⟨[.type "bytes", v], []⟩) (wants (fun obj s₁ => s₁.TypeIs obj "bytes" ∧ Q obj s₁) E) s) :
    wpAny (model prog w) A (call (.type "bytes") [v]) Q E s := by
  refine callType_codes (Q₁ := fun obj s₁ => s₁.TypeIs obj "bytes" ∧ Q obj s₁) F.bm_called (F.bm_typeCall _) F.entry_object_init hnew fun obj s₁ h₁ => ?_
  exact ⟨h₁.1, F.args_object_init_2 obj _, object_init_meets F.bm_called.init.lookup F.bm_called.made (by decide) prog w A.in1 _ s₁ ⟨h₁.1, rfl, h₁.2⟩⟩
theorem call_bytes_bytes {b : Array UInt8} {t : Tok} {Q : Value → Shared → Prop} (h : Q (.bytes b t) s) : wpAny (model prog w) A (call (.type "bytes") [.bytes b t]) Q E s := by
  refine call_bytes_of (codeAny_of_tree ?_)
  have hT : s.TypeIs (.bytes b t) "bytes" := PySem.W.typeIs_bytes _ _ _
  show wpAny _ _ (do checkBuiltinCall "bytes.__new__" ⟨[.type "bytes", .bytes b t], []⟩; again (.builtin "bytes.__new__" ⟨[.type "bytes", .bytes b t], []⟩)) _ _ s
  refine wpAny_bind (wpAny_of_eq (F.bm_newCall _) (wpAny_pure ⟨plainId_quiet F.bm_plain _, codeAny_builtin F.bm_entry ?_⟩))
  rw [Around.under_plainId F.bm_plain _]
  unfold Builtin.«bytes.__new__»
  refine wpAny_bind (wpAny_of_eq (a := true) rfl ?_)
  refine bm_if_false rfl ?_
  refine wpAny_bind (wpAny_of_eq F.bm_sub ?_)
  refine bm_if_false rfl ?_
  refine wpAny_bind (wpAny_of_eq (F.bm_bind _) ?_)
  refine wpAny_bind (wpAny_of_eq (a := ()) rfl ?_)
  refine wpAny_bind (wpAny_of_eq (a := ()) rfl ?_)
  refine bm_if_false rfl ?_
  refine wpAny_bind (wpAny_specialOf hT by_look_bytes ?_)
  refine wpAny_bind (wpAny_rule ?_)
  refine wpAny_bind (wpAny_typeOf hT ?_)
  refine bm_if_true (by decide) ?_
  refine bm_if_true (by decide) ?_
  first
    | exact wpAny_pure ⟨hT, h⟩
    | exact wpAny_bind (wpAny_pure (wpAny_pure ⟨hT, h⟩))
theorem ba_ownBuffer {a : Addr} {b : Array UInt8} {Q : Bool → Shared → Prop} (ho : s.heap.get? a = some { cls := .type "bytearray", data := .bytearray b }) (h : Q true s) : wpAny (model prog w) A (Bytes.slotIsOwn (.ref a) "__buffer__") Q E s := by
  have hT : s.TypeIs (.ref a) "bytearray" := ⟨_, ho, rfl⟩
  unfold Bytes.slotIsOwn
  refine wpAny_bind (wpAny_specialOf hT ba_look_buffer ?_)
  refine bm_if_false (by decide +kernel) ?_
  have e1 : ("bytearray.__buffer__".dropRight ("__buffer__".length + 1)) = "bytearray" := by decide +kernel
  rw [e1]
  exact wpAny_isInstance (T := "bytearray") (b := true) hT ba_sub h
theorem call_bytes_ba {a : Addr} {b : Array UInt8} {Q : Value → Shared → Prop} (ho : s.heap.get? a = some { cls := .type "bytearray", data := .bytearray b }) (hz : b.size ≤ 1000)
    (h : Q (.bytes b s.toks) { s with toks := s.toks + 1 }) : wpAny (model prog w) A (call (.type "bytes") [.ref a]) Q E s := by
  refine call_bytes_of (codeAny_of_tree ?_)
  have hT : s.TypeIs (.ref a) "bytearray" := ⟨_, ho, rfl⟩
  show wpAny _ _ (do checkBuiltinCall "bytes.__new__" ⟨[.type "bytes", .ref a], []⟩; again (.builtin "bytes.__new__" ⟨[.type "bytes", .ref a], []⟩)) _ _ s
  refine wpAny_bind (wpAny_of_eq (F.bm_newCall _) (wpAny_pure ⟨plainId_quiet F.bm_plain _, codeAny_builtin F.bm_entry ?_⟩))
  rw [Around.under_plainId F.bm_plain _]
  unfold Builtin.«bytes.__new__»
  refine wpAny_bind (wpAny_of_eq (a := true) rfl ?_)
  refine bm_if_false rfl ?_
  refine wpAny_bind (wpAny_of_eq F.bm_sub ?_)
  refine bm_if_false rfl ?_
  refine wpAny_bind (wpAny_of_eq (F.bm_bind _) ?_)
  refine wpAny_bind (wpAny_of_eq (a := ()) rfl ?_)
  refine wpAny_bind (wpAny_of_eq (a := ()) rfl ?_)
  refine bm_if_false rfl ?_
  refine wpAny_bind (wpAny_specialOf hT ba_look_bytes ?_)
  refine wpAny_bind (wpAny_bind ?_)
  show wpAny _ _ (load a >>= _) _ _ _
  refine wpAny_bind (wpAny_load ho ?_)
  refine wpAny_pure (wpAny_pure ?_)
  refine bm_if_false rfl ?_
  refine wpAny_bind (wpAny_specialOf hT ba_look_index ?_)
  refine bm_if_true rfl ?_
  first
    | show wpAny _ _ (Builtin.Bytes.buffer? "bytes.__new__" (.ref a) true >>= _) _ _ _
    | (refine wpAny_bind ?_; show wpAny _ _ (Builtin.Bytes.buffer? "bytes.__new__" (.ref a) true >>= _) _ _ _)
  refine wpAny_bind ?_
  unfold Builtin.Bytes.buffer?
  refine wpAny_bind (wpAny_specialOf hT ba_look_buffer ?_)
  dsimp only
  refine wpAny_bind (ba_ownBuffer ho ?_)
  refine bm_if_false rfl ?_
  refine wpAny_bind (wpAny_specialOf hT ba_look_buffer ?_)
  refine wpAny_bind (ba_ownRelease ho ?_)
  refine bm_if_false rfl ?_
  unfold Builtin.Bytes.payload Builtin.Bytes.payload?
  refine wpAny_bind (wpAny_bind (wpAny_bind (wpAny_load ho ?_)))
  refine wpAny_pure (wpAny_pure (wpAny_pure ?_))
  refine wpAny_bind (wpAny_rule ?_)
  refine wpAny_bind (wpAny_mkBytes (b := b) ?_ (by rw [sizeLine_eq]; omega))
  refine bm_if_true (by decide) ?_
  first
    | exact wpAny_pure ⟨PySem.W.typeIs_bytes _ _ _, h⟩
    | exact wpAny_bind (wpAny_pure (wpAny_pure ⟨PySem.W.typeIs_bytes _ _ _, h⟩))
    | exact wpAny_bind (wpAny_pure (wpAny_pure (wpAny_pure ⟨PySem.W.typeIs_bytes _ _ _, h⟩)))
    | exact wpAny_bind (wpAny_pure (wpAny_pure (wpAny_pure (wpAny_pure ⟨PySem.W.typeIs_bytes _ _ _, h⟩))))
theorem call_bytes_int {n : Int} {t : Tok} {Q : Value → Shared → Prop} (h0 : 0 ≤ n) (h1 : n ≤ 100000)
    (h : Q (.bytes (Array.replicate n.toNat 0) s.toks) { s with toks := s.toks + 1 }) : wpAny (model prog w) A (call (.type "bytes") [.int n t]) Q E s := by
  refine call_bytes_of (codeAny_of_tree ?_)
  have hT : s.TypeIs (.int n t) "int" := typeIs_int _ _ _
  show wpAny _ _ (do checkBuiltinCall "bytes.__new__" ⟨[.type "bytes", .int n t], []⟩; again (.builtin "bytes.__new__" ⟨[.type "bytes", .int n t], []⟩)) _ _ s
  refine wpAny_bind (wpAny_of_eq (F.bm_newCall _) (wpAny_pure ⟨plainId_quiet F.bm_plain _, codeAny_builtin F.bm_entry ?_⟩))
  rw [Around.under_plainId F.bm_plain _]
  unfold Builtin.«bytes.__new__»
  refine wpAny_bind (wpAny_of_eq (a := true) rfl ?_)
  refine bm_if_false rfl ?_
  refine wpAny_bind (wpAny_of_eq F.bm_sub ?_)
  refine bm_if_false rfl ?_
  refine wpAny_bind (wpAny_of_eq (F.bm_bind _) ?_)
  refine wpAny_bind (wpAny_of_eq (a := ()) rfl ?_)
  refine wpAny_bind (wpAny_of_eq (a := ()) rfl ?_)
  refine bm_if_false rfl ?_
  refine wpAny_bind (wpAny_specialOf hT in_look_bytes ?_)
  refine wpAny_bind (wpAny_of_eq (a := false) rfl ?_)
  refine bm_if_false rfl ?_
  refine wpAny_bind (wpAny_specialOf hT F.slot_int_index.lookup ?_)
  refine bm_if_false rfl ?_
  refine wpAny_bind (wpAny_attempt (wpAny_of_eq (a := n) rfl ?_))
  refine bm_if_false ?_ ?_
  · show (!(decide (-(2 ^ 63 : Int) ≤ n) && decide (n < 2 ^ 63))) = false
    rw [decide_eq_true (by omega), decide_eq_true (by omega)]
    rfl
  rw [if_neg (by omega)]
  rw [if_neg (by omega)]
  refine bm_if_false ?_ ?_
  · unfold Bytes.tooLong
    first
      | (rw [decide_eq_false_iff_not, sizeLine_eq]; omega)
      | (simp only [sizeLine_eq, decide_eq_false_iff_not]; omega)
  refine wpAny_bind (wpAny_rule ?_)
  refine wpAny_bind (wpAny_mkBytes ?_ (by rw [sizeLine_eq, Array.size_replicate]; omega))
  refine bm_if_true (by decide) ?_
  first
    | exact wpAny_pure ⟨PySem.W.typeIs_bytes _ _ _, h⟩
    | exact wpAny_bind (wpAny_pure (wpAny_pure ⟨PySem.W.typeIs_bytes _ _ _, h⟩))
end
theorem offN5 : True := by
  w_top off
  trivial
abbrev baO (b : Array UInt8) : Obj := { cls := .type "bytearray", data := .bytearray b }
theorem updF_upd {d : Addr} {o : Obj} {l : Led} {g : Obj → Led} (U : UpdF d o l g) : ∀ o', Upd d o o' l (g o') := by
  induction U with
  | head h => exact fun _ => .head h
  | tail h _ ih => exact fun o' => .tail h (ih o')
section
variable {prog : Program} {w : World} {A : Around} {s : Shared} {h₀ : Heap} {L : Addr} {m : Str → Option Value} {news news' : Led}
theorem ba_setK {D : Addr} {b : Array UInt8} {k x : Int} {t u : Tok} {Q : Unit → Shared → Prop} {E : Value → Shared → Prop} (F : Fr h₀ L s.heap m) (N : News h₀ L s.heap news) (U : Upd D (baO b) (baO (b.setIfInBounds k.toNat x.toNat.toUInt8)) news news')
    (h0 : 0 ≤ k) (hn : k < b.size) (hz : b.size ≤ 1000) (x0 : 0 ≤ x) (x1 : x < 256)
    (h : ∀ h', Fr h₀ L h' m → News h₀ L h' news' → Q () { s with heap := h' }) :
    wpAny (model prog w) A (setItem (.ref D) (.int k t) (.int x u)) Q E s := by
  obtain ⟨pre, post, rfl, rfl, a, c⟩ := U.split
  have z := N (D, baO b) (List.mem_append.mpr (.inr (.head _)))
  exact ba_set z.1 h0 hn hz x0 x1 fun h' ho hs => h h' (F.change hs z.2.1 z.2.2) (news_set N a c hs ho)
theorem n_bytearrayK {t : Tok} {Q : Value → Shared → Prop} {E : Value → Shared → Prop} (hg : A.guards = some []) (F : Fr h₀ L s.heap m) (N : News h₀ L s.heap news)
    (h : ∀ D h', Fr h₀ L h' m → News h₀ L h' ((D, baO #[0, 0, 0, 0]) :: news) → (∀ p ∈ news, p.1 < D) → Q (.ref D) { s with heap := h' }) :
    wpN (model prog w) A (call (.type "bytearray") [.int 4 t]) Q E s :=
  n_bytearray hg fun h' ho hs => h _ h' (F.filled hs) (N.filled F hs ho) fun p hp => Heap.lt_size (N p hp).1
end
def PUs (b : Array UInt8) (i n : Int) : Array UInt8 := (b.setIfInBounds i.toNat (Int.fdiv n 256).toNat.toUInt8).setIfInBounds (i + 1).toNat (Int.fmod n 256).toNat.toUInt8
theorem PUs_size (b : Array UInt8) (i n : Int) : (PUs b i n).size = b.size := by unfold PUs; simp only [Array.size_setIfInBounds]
def PU (b : Array UInt8) : Value → Obj → Prop := fun v o => v = .none ∧ o = baO b
section
variable {w : World} {mean : ExcName → Option Value} {mg mb : Str → Option Value} {dk : Nat} {f : Addr} {vs : List Value}
    {dp un : Nat} {gd : Option (List Code)} {cn : Str} {cs : Scope} {a : Addr} {ccd : Value} {cl : List (Str × Addr)} {outer : List Env} {A₀ : Around} {base h₀ : Heap} {L : Addr} {m : Str → Option Value} {s : Shared} {Q E : Value → Shared → Prop} {news : Led}
theorem fnPU_use {l : Addr} {o : Obj} {b : Array UInt8} {news' : Obj → Led} (H : FnU w mean mg mb dk f vs l o (PU b))
    (B : Below A₀ base outer h₀) (F : Fr h₀ L s.heap m) (X : (hd.heap_39 w.params).In h₀) (N : News h₀ L s.heap news) (T : Top hd.view_39 (looseW hd.view_39 [Str.ofString "WORD"]) mean mg mb h₀) (hk : cs.kind = .function) (hd' : dp + dk < recursionLimit) (hu : un + 8 * dk < cLine)
    (U : UpdF l o news news')
    (k : ∀ h' tk', Fr h₀ L h' m → News h₀ L h' (news' (baO b)) → Q .none { s with heap := h', toks := tk' }) :
    wpAny (model PySem.Challenge.rw_nt0096_01.row.prog w) (ktrTop dp un gd cn cs L a ccd cl outer) (call (.ref f) vs) Q E s :=
  fnU_use H B F X N T hk hd' hu (updF_upd U) fun v o' h' tk' p F' N' => by obtain ⟨rfl, rfl⟩ := p; exact k h' tk' F' N'
end
section
local macro_rules | `(tactic| walk_at "setItem ref int") => `(tactic| (k_here; (with_reducible show wpAny _ _ (setItem (Value.ref _) (Value.int _ _) (Value.int _ _)) _ _ _); k_dflt (refine' ba_setK ?k1 ?k2 ?k3 ?k4 ?k5 ?k6 ?k7 ?k8 ?_; (case k1 => k_asm); (case k2 => k_asm); (case k3 => k_upd); (case k4 => omega); (case k5 => first | omega | (simp only [Array.size_setIfInBounds]; omega)); (case k6 => first | omega | (simp only [Array.size_setIfInBounds]; omega)); (case k7 => omega); (case k8 => omega); k_whole); intro h' F' N'; (try k_sweep)))
local macro_rules | `(tactic| walk_at "binaryOp FloorDiv int int") => `(tactic| (refine floordiv_int (by omega) ?_ (Or.inl (noPylong64 (by omega) (by omega)))))
theorem put_two_spec (w : World) (mean : ExcName → Option Value) (mg mb : Str → Option Value) (l : Addr) (b : Array UInt8) (i n : Int) (ti tn : Tok) (h0 : 0 ≤ i) (h1 : i + 2 ≤ b.size) (hz : b.size ≤ 1000) (n0 : 0 ≤ n) (n1 : n < 65536) :
    FnU w mean mg mb 2 88 [.ref l, .int i ti, .int n tn] l (baO b) (PU (PUs b i n)) := by
  have e1 : Int.fdiv n 256 = n / 256 := Int.fdiv_eq_ediv_of_nonneg _ (by omega)
  have e2 : Int.fmod n 256 = n % 256 := Int.fmod_eq_emod_of_nonneg _ (by omega)
  have d1 : 0 ≤ Int.fdiv n 256 := by omega
  have d2 : Int.fdiv n 256 < 256 := by omega
  have m1 : 0 ≤ Int.fmod n 256 := by omega
  have m2 : Int.fmod n 256 < 256 := by omega
  unfold FnU
  intros
  rename_i hN₀ _ _ _ _ hret
  refine wpAny_call ?_
  k_dflt (refine' enter_keep ?k1 ?k2 ?k3 ?k4 ?k5 ?kA ?kF ?kK ?k6 ?k7 ?k8 ?k9 ?kB ?_ ?c2 ?c3 ?c4 ?c5; (case kA => exact rfl); (case kF => exact rfl); (case kK => assumption); (case k1 => k_asm); (case k2 => k_asm); (case k3 => k_asm); (case k4 => k_asm); (case k5 => k_asm); (case k6 => k_is); (case k7 => k_is); (case k8 => ktr_room); (case k9 => exact BindsTo.of_eq rfl); (case c5 => decide); (case kB => exact locs rfl); (case c2 => exact rfl); (case c3 => exact rfl); (case c4 => exact rfl); k_whole; intro g' L' h' FG' F' N' B' X' T' gk lt'; (try dsimp only); (try k_lt lt'); (try k_lift B'); (try k_fold))
  unfold PUs at hret
  k_steps
  exact retU hret gk (by k_asm) (by k_asm) (by assumption) (by k_mem) ⟨rfl, rfl⟩
local macro_rules | `(tactic| walk_at "call ref") => `(tactic| (k_here; (with_reducible show wpAny _ _ (call (Value.ref 88) _) _ _ _); k_dflt (refine' fnPU_use (put_two_spec _ _ _ _ _ _ _ _ _ _ ?j1 ?j2 ?j3 ?j4 ?j5) ?k1 ?k2 ?k3 ?k4 ?k5 ?kK ?kd ?ku ?kU ?_; walk_at "P1"; (case kU => k_updF); (case j1 => walk_at "om"); (case j2 => first | omega | (rw [PUs_size]; omega)); (case j3 => first | omega | (rw [PUs_size]; omega)); (case j4 => walk_at "om"); (case j5 => walk_at "om")); intro h9 tk9 F9 N9; (try dsimp only at N9)))
theorem put_four_spec (w : World) (mean : ExcName → Option Value) (mg mb : Str → Option Value) (l : Addr) (b : Array UInt8) (i n : Int) (ti tn : Tok) (h0 : 0 ≤ i) (h1 : i + 4 ≤ b.size) (hz : b.size ≤ 1000) (n0 : 0 ≤ n) (n1 : n < 4294967296) :
    FnU w mean mg mb 3 95 [.ref l, .int i ti, .int n tn] l (baO b) (PU (PUs (PUs b i (Int.fdiv n 65536)) (i + 2) (Int.fmod n 65536))) := by
  have e1 : Int.fdiv n 65536 = n / 65536 := Int.fdiv_eq_ediv_of_nonneg _ (by omega)
  have e2 : Int.fmod n 65536 = n % 65536 := Int.fmod_eq_emod_of_nonneg _ (by omega)
  have d1 : 0 ≤ Int.fdiv n 65536 := by omega
  have d2 : Int.fdiv n 65536 < 65536 := by omega
  have m1 : 0 ≤ Int.fmod n 65536 := by omega
  have m2 : Int.fmod n 65536 < 65536 := by omega
  unfold FnU
  intros
  rename_i hN₀ _ _ _ _ hret
  refine wpAny_call ?_
  k_dflt (refine' enter_keep ?k1 ?k2 ?k3 ?k4 ?k5 ?kA ?kF ?kK ?k6 ?k7 ?k8 ?k9 ?kB ?_ ?c2 ?c3 ?c4 ?c5; (case kA => exact rfl); (case kF => exact rfl); (case kK => assumption); (case k1 => k_asm); (case k2 => k_asm); (case k3 => k_asm); (case k4 => k_asm); (case k5 => k_asm); (case k6 => k_is); (case k7 => k_is); (case k8 => ktr_room); (case k9 => exact BindsTo.of_eq rfl); (case c5 => decide); (case kB => exact locs rfl); (case c2 => exact rfl); (case c3 => exact rfl); (case c4 => exact rfl); k_whole; intro g' L' h' FG' F' N' B' X' T' gk lt'; (try dsimp only); (try k_lt lt'); (try k_lift B'); (try k_fold))
  k_steps
  exact retU hret gk (by k_asm) (by k_asm) (by assumption) (by k_mem) ⟨rfl, rfl⟩
end
theorem offN6 : True := by
  w_top off
  trivial
/-- the contract of a def whose walk reaches bytearray(4): in contexts without guards and without decoders -/
def FnN (w : World) (mean : ExcName → Option Value) (mg mb : Str → Option Value) (dk : Nat) (f : Addr) (vs : List Value) (own : Led) (post : Value → Led → Prop) : Prop :=
  ∀ (dp un : Nat) (cn : Str) (cs : Scope) (a : Addr) (ccd : Value) (cl : List (Str × Addr)) (outer : List Env) (A₀ : Around) (base h₀ : Heap) (L : Addr) (m : Str → Option Value) (s : Shared) (Q E : Value → Shared → Prop),
    Below A₀ base outer h₀ → Fr h₀ L s.heap m → (hd.heap_39 w.params).In h₀ → News h₀ L s.heap own → Top hd.view_39 (looseW hd.view_39 [Str.ofString "WORD"]) mean mg mb h₀ → cs.kind = .function → dp + dk < recursionLimit → un + 8 * dk < cLine →
    (∀ v new h' tk', post v new → Fr h₀ L h' m → News h₀ L h' new → (∀ p ∈ new, s.heap.get? p.1 = none) → (∀ b o, s.heap.get? b = some o → h'.get? b = some o) → Q v { s with heap := h', toks := tk' }) →
    wpN (model PySem.Challenge.rw_nt0096_01.row.prog w) (ktrTop dp un (some []) cn cs L a ccd cl outer) (call (.ref f) vs) Q E s
section
variable {w : World} {mean : ExcName → Option Value} {mg mb : Str → Option Value} {dk : Nat} {f : Addr} {vs : List Value} {own : Led}
    {dp un : Nat} {cn : Str} {cs : Scope} {a : Addr} {ccd : Value} {cl : List (Str × Addr)} {outer : List Env} {A₀ : Around} {base h₀ : Heap} {L : Addr} {m : Str → Option Value} {s : Shared} {Q E : Value → Shared → Prop} {news : Led}
theorem fnN_use {post : Value → Led → Prop} (H : FnN w mean mg mb dk f vs own post)
    (B : Below A₀ base outer h₀) (F : Fr h₀ L s.heap m) (X : (hd.heap_39 w.params).In h₀) (N : News h₀ L s.heap news) (T : Top hd.view_39 (looseW hd.view_39 [Str.ofString "WORD"]) mean mg mb h₀) (hk : cs.kind = .function) (hd' : dp + dk < recursionLimit) (hu : un + 8 * dk < cLine)
    (sub : ∀ p ∈ own, p ∈ news)
    (k : ∀ v new h' tk', post v new → Fr h₀ L h' m → News h₀ L h' (new ++ news) → (∀ p ∈ new, ∀ q ∈ news, q.1 ≠ p.1) → Q v { s with heap := h', toks := tk' }) :
    wpN (model PySem.Challenge.rw_nt0096_01.row.prog w) (ktrTop dp un (some []) cn cs L a ccd cl outer) (call (.ref f) vs) Q E s := by
  refine H _ _ _ _ _ _ _ _ _ _ _ _ _ _ _ _ B F X (fun p hp => N p (sub p hp)) T hk hd' hu fun v new h' tk' hp F' N' fresh keep => ?_
  refine k v new h' tk' hp F' (fun p hm => ?_) fun p hm q hq e => ?_
  · rcases List.mem_append.mp hm with hm | hm
    · exact N' p hm
    · exact ⟨keep _ _ (N p hm).1, (N p hm).2⟩
  · have h1 := fresh p hm
    rw [← e, (N q hq).1] at h1
    cases h1
theorem fnNY_use {ks : List Int} (H : FnN w mean mg mb dk f vs own (PY ks))
    (B : Below A₀ base outer h₀) (F : Fr h₀ L s.heap m) (X : (hd.heap_39 w.params).In h₀) (N : News h₀ L s.heap news) (T : Top hd.view_39 (looseW hd.view_39 [Str.ofString "WORD"]) mean mg mb h₀) (hk : cs.kind = .function) (hd' : dp + dk < recursionLimit) (hu : un + 8 * dk < cLine) (sub : ∀ p ∈ own, p ∈ news) (k : ∀ b t h' tk', KBw.bInts b = ks → Fr h₀ L h' m → News h₀ L h' news → Q (.bytes b t) { s with heap := h', toks := tk' }) :
    wpN (model PySem.Challenge.rw_nt0096_01.row.prog w) (ktrTop dp un (some []) cn cs L a ccd cl outer) (call (.ref f) vs) Q E s :=
  fnN_use H B F X N T hk hd' hu sub fun v new h' tk' hp F' N' _ => by obtain ⟨rfl, b, t, rfl, e⟩ := hp; exact k b t h' tk' e F' N'
end
/-- the four octets of a number, the greatest one first -/
def fourV (n : Int) : List Int := [n / 65536 / 256, n / 65536 % 256, n % 65536 / 256, n % 65536 % 256]
theorem looks_type {M : Model} {h : Heap} {T : String} : ∃ k, (k = Keeper.frame ∨ k = Keeper.machine ∨ k = Keeper.boundFrame) ∧ Looks M h (keeperOf (.type T)) k := ⟨_, .inr (.inl rfl), .now⟩
section
variable {M : Model} {A : Around} {E : Value → Shared → Prop} {s : Shared} {env : Env}
theorem wpN_callWith1 {pos : Pos} {f : Value} {first : List Value} {P : Heap → Prop} {e : Expr} {rest : List Expr} {Q : Value → Shared → Prop} (hk : ∀ h, P h → ∃ k, (k = Keeper.frame ∨ k = Keeper.machine ∨ k = Keeper.boundFrame) ∧ Looks M h (keeperOf f) k)
    (h : wpAny M A (spliced (backTo pos (starEach (e :: rest) env))) (fun vs s₁ => P s₁.heap ∧ wpN M A (call f (first ++ vs)) Q E s₁) E s)
    (he : starEach (e :: rest) env = (false, eval e env) :: starEach rest env := by rfl) (hplain : (backTo pos (starEach rest env)).any (·.1) = false := by rfl) :
    wpN M A (callWith pos f first (backTo pos (starEach (e :: rest) env)) []) Q E s := by
  rw [he] at h ⊢
  exact wpN_callWith (by show (false || (backTo pos (starEach rest env)).any (·.1)) = false; rw [hplain]; rfl) hk (Calls.evalArgs_plain h)
theorem wpN_callWithT {pos : Pos} {T : String} {first : List Value} {e : Expr} {rest : List Expr} {Q : Value → Shared → Prop}
    (h : wpAny M A (spliced (backTo pos (starEach (e :: rest) env))) (fun vs s₁ => wpN M A (call (.type T) (first ++ vs)) Q E s₁) E s)
    (he : starEach (e :: rest) env = (false, eval e env) :: starEach rest env := by rfl) (hplain : (backTo pos (starEach rest env)).any (·.1) = false := by rfl) :
    wpN M A (callWith pos (.type T) first (backTo pos (starEach (e :: rest) env)) []) Q E s :=
  wpN_callWith1 (P := fun _ => True) (fun _ _ => looks_type) (wpAny_mono h (fun _ _ x => ⟨trivial, x⟩) fun _ _ x => x) he hplain
theorem wpN_callWithK {K : Frag} {pos : Pos} {f : Value} {first : List Value} {e : Expr} {rest : List Expr} {Q : Value → Shared → Prop} (hk : keepIn K f = true)
    (h : wpAny M A (spliced (backTo pos (starEach (e :: rest) env))) (fun vs s₁ => K.In s₁.heap ∧ wpN M A (call f (first ++ vs)) Q E s₁) E s)
    (he : starEach (e :: rest) env = (false, eval e env) :: starEach rest env := by rfl) (hplain : (backTo pos (starEach rest env)).any (·.1) = false := by rfl) :
    wpN M A (callWith pos f first (backTo pos (starEach (e :: rest) env)) []) Q E s :=
  wpN_callWith1 (keeps_K hk) h he hplain
theorem wpN_callWithM {K : Frag} {pos : Pos} {q g : Addr} {self : Value} {first : List Value} {e : Expr} {rest : List Expr} {Q : Value → Shared → Prop} (hf : fnIn K g = true)
    (h : wpAny M A (spliced (backTo pos (starEach (e :: rest) env))) (fun vs s₁ => MethP K q g self s₁.heap ∧ wpN M A (call (.ref q) (first ++ vs)) Q E s₁) E s)
    (he : starEach (e :: rest) env = (false, eval e env) :: starEach rest env := by rfl) (hplain : (backTo pos (starEach rest env)).any (·.1) = false := by rfl) :
    wpN M A (callWith pos (.ref q) first (backTo pos (starEach (e :: rest) env)) []) Q E s :=
  wpN_callWith1 (keeps_M hf) h he hplain
end
theorem u8_back {z : Int} (h0 : 0 ≤ z) (h1 : z < 256) : ((z.toNat.toUInt8).toNat : Int) = z := by
  have e : (z.toNat.toUInt8).toNat = z.toNat % 256 := UInt8.toNat_ofNat'
  rw [e]
  omega
theorem four_back {x y : Int} (x0 : 0 ≤ x) (x1 : x < 65536) (y0 : 0 ≤ y) (y1 : y < 65536) : KBw.bInts (PUs (PUs #[0, 0, 0, 0] 0 x) (0 + 2) y) = [x / 256, x % 256, y / 256, y % 256] := by
  have e1 : Int.fdiv x 256 = x / 256 := Int.fdiv_eq_ediv_of_nonneg _ (by omega)
  have e2 : Int.fmod x 256 = x % 256 := Int.fmod_eq_emod_of_nonneg _ (by omega)
  have e3 : Int.fdiv y 256 = y / 256 := Int.fdiv_eq_ediv_of_nonneg _ (by omega)
  have e4 : Int.fmod y 256 = y % 256 := Int.fmod_eq_emod_of_nonneg _ (by omega)
  unfold PUs
  rw [e1, e2, e3, e4]
  show [(((x / 256).toNat.toUInt8).toNat : Int), (((x % 256).toNat.toUInt8).toNat : Int), (((y / 256).toNat.toUInt8).toNat : Int), (((y % 256).toNat.toUInt8).toNat : Int)] = _
  rw [u8_back (by omega) (by omega), u8_back (by omega) (by omega), u8_back (by omega) (by omega), u8_back (by omega) (by omega)]
theorem call_bytes_baK {prog : Program} {w : World} {A : Around} {E : Value → Shared → Prop} {s : Shared} {h₀ : Heap} {L D : Addr} {news : Led} {b : Array UInt8} {Q : Value → Shared → Prop} (N : News h₀ L s.heap news) (hm : (D, baO b) ∈ news) (hz : b.size ≤ 1000)
    (h : Q (.bytes b s.toks) { s with toks := s.toks + 1 }) : wpAny (model prog w) A (call (.type "bytes") [.ref D]) Q E s := call_bytes_ba (N _ hm).1 hz h
theorem wpN_execs_nil {M : Model} {A : Around} {E : Value → Shared → Prop} {s : Shared} {env : Env} {Q : Flow → Shared → Prop} (h : Q .next s) : wpN M A (execs [] env) Q E s := wpN_of (wpAny_execs_nil h)
theorem offN7 : True := by
  w_top off
  trivial
local macro_rules | `(tactic| walk_at "call ref") => `(tactic| (k_here; (with_reducible show wpAny _ _ (call (Value.ref 95) _) _ _ _); k_dflt (refine' fnPU_use (put_four_spec _ _ _ _ _ _ _ _ _ _ ?j1 ?j2 ?j3 ?j4 ?j5) ?k1 ?k2 ?k3 ?k4 ?k5 ?kK ?kd ?ku ?kU ?_; walk_at "P1"; (case kU => k_updF); (case j1 => walk_at "om"); (case j2 => first | omega | decide); (case j3 => first | omega | decide); (case j4 => walk_at "om"); (case j5 => walk_at "om")); intro h9 tk9 F9 N9; (try dsimp only at N9)))
local macro_rules | `(tactic| walk_at "call type:bytes") => `(tactic| (k_here; (with_reducible show wpAny _ _ (call (Value.type "bytes") [Value.ref _]) _ _ _); k_dflt (refine' call_bytes_baK ?k1 ?k2 ?k3 ?_; (case k1 => k_asm); (case k2 => k_mem); (case k3 => first | decide | (rw [PUs_size, PUs_size]; decide)); k_whole)))
theorem four_octets_spec (w : World) (mean : ExcName → Option Value) (mg mb : Str → Option Value) (n : Int) (tn : Tok) (n0 : 0 ≤ n) (n1 : n < 4294967296) :
    FnN w mean mg mb 4 102 [.int n tn] [] (PY (fourV n)) := by
  unfold FnN
  intros
  rename_i hN₀ _ _ _ _ hret
  refine wpN_call ?_
  k_dflt (refine' enter_keepN ?k1 ?k2 ?k3 ?k4 ?k5 ?kA ?kF ?kK ?k6 ?k7 ?k8 ?k9 ?kB ?_ ?c2 ?c3 ?c4 ?c5; (case kA => exact rfl); (case kF => exact rfl); (case kK => assumption); (case k1 => k_asm); (case k2 => k_asm); (case k3 => k_asm); (case k4 => k_asm); (case k5 => k_asm); (case k6 => k_is); (case k7 => k_is); (case k8 => ktr_room); (case k9 => exact BindsTo.of_eq rfl); (case c5 => decide); (case kB => exact locs rfl); (case c2 => exact rfl); (case c3 => exact rfl); (case c4 => exact rfl); k_whole; intro g' L' h' FG' F' N' B' X' T' gk lt'; (try dsimp only); (try k_lt lt'); (try k_lift B'); (try k_fold))
  refine wpN_execs_cons (wpN_Assign_Name (wpN_CallName ?_))
  k_steps
  refine wpN_callWithT ?_
  k_steps
  refine n_bytearrayK rfl (by k_asm) (by k_asm) fun D h1 F1 N1 lt1 => ?_
  (try dsimp only)
  (try k_lt lt1)
  k_steps
  refine wpN_of ?_
  have e1 : Int.fdiv n 65536 = n / 65536 := Int.fdiv_eq_ediv_of_nonneg _ (by omega)
  have e2 : Int.fmod n 65536 = n % 65536 := Int.fmod_eq_emod_of_nonneg _ (by omega)
  k_steps
  refine retY hret hN₀ gk (by k_asm) (by k_asm) (by assumption) (by assumption) (fun _ h => nomatch h) ?_
  rw [four_back (by omega) (by omega) (by omega) (by omega), e1, e2]
  rfl
theorem offL5 : True := by
  w_top off
  trivial
section
variable {prog : Program} {w : World} {A : Around} {K : Frag} {C : Addr} {s : Shared} {h₀ : Heap} {L : Addr} {m : Str → Option Value} {news : Led} {Q E : Value → Shared → Prop}
theorem call_clsE {pos : List Value} {kw : List (Str × Value)} {fI : Addr} (F : Fr h₀ L s.heap m) (X₀ : K.In h₀) (N : News h₀ L s.heap news) (hm : makesIn K C = true) (hi : findIn K (.ref C) "__init__" = some (some (.ref fI))) (hf : isFn K (.ref fI) = true)
    (h : ∀ x dx h', Fr h₀ L h' m → News h₀ L h' ((x, instObj C dx) :: (dx, dictOf [] 0) :: news) → (∀ p ∈ news, p.1 < dx) → dx < x → (∀ b o, s.heap.get? b = some o → h'.get? b = some o) → s.heap.get? x = none → s.heap.get? dx = none →
      codeAny (model prog w) (A.under (.builtin "type.__call__" ⟨.ref C :: pos, kw⟩)) (.call (.ref fI) ⟨.ref x :: pos, kw⟩) (InitBack x fun r s' => match r with | .ok (.ret v) => Q v s' | .ok _ => False | .error e => E e s') { s with heap := h' }) :
    wpAny (model prog w) A (call (.ref C) pos kw) Q E s := by
  have X := X₀.keeps F.keep
  refine wpAny_call ?_
  obtain ⟨hh, g, d, t, os⟩ := s
  refine make_core (makes_of X hm) (looks_findIn X hi) (fun self => bind_fn X self (beq_iff_eq.mp hf)) (.inl rfl) (h _ hh.objs.size _ ((F.push _).push _) ?_ (fun p hp => Heap.lt_size (N p hp).1) (Nat.lt_succ_self _) (fun b o e => Heap.get?_push_of_some _ (Heap.get?_push_of_some _ e)) (Heap.get?_none_of_le (Nat.le_succ _)) (Heap.get?_none_of_le (Nat.le_refl _)))
  have := (N.push F emptyDict).push (F.push _) (instObj C hh.objs.size)
  rwa [Heap.size_push] at this
end
section
variable {h₀ g h1 : Heap} {L L' : Addr} {m m' : Str → Option Value} {s : Shared} {Q : Value → Shared → Prop} {h' : Heap} {tk' : Nat}
theorem retC {post : Value → Led → Prop} {v : Value} {x d : Addr} {ox od ox' od' : Obj}
    (k : ∀ v new h' tk', post v new → Fr h₀ L h' m → News h₀ L h' new → (∀ p ∈ new, s.heap.get? p.1 = none) → (∀ b o, s.heap.get? b = some o → h'.get? b = some o) → Q v { s with heap := h', toks := tk' })
    (kp : ∀ b o, s.heap.get? b = some o → h1.get? b = some o) (fx : s.heap.get? x = none) (fd : s.heap.get? d = none) (gk : ∀ b o, h1.get? b = some o → b ∉ [(x, ox), (d, od)].map (·.1) → g.get? b = some o)
    (F : Fr h₀ L h' m) (N : News h₀ L h' [(x, ox'), (d, od')]) (F' : Fr g L' h' m') (hp : post v [(x, ox'), (d, od')]) : Q v { s with heap := h', toks := tk' } := by
  refine k v _ h' tk' hp F N (fun p hm => ?_) fun b o e => F'.keep _ _ (gk _ _ (kp _ _ e) fun hb => ?_)
  · rcases List.mem_cons.mp hm with rfl | hm
    · exact fx
    · rw [List.mem_singleton.mp hm]; exact fd
  · rcases List.mem_cons.mp hb with rfl | hb
    · rw [fx] at e; cases e
    · rw [List.mem_singleton.mp hb, fd] at e; cases e
end
abbrev cellD (w : World) (a b c e f : Tok) (v1 v2 v3 v4 v5 : Value) : List DictEntry :=
  [⟨PyData.keyHash w.params (Str.ofString "child"), .str (Str.ofString "child") a, v1⟩, ⟨PyData.keyHash w.params (Str.ofString "rowid"), .str (Str.ofString "rowid") b, v2⟩, ⟨PyData.keyHash w.params (Str.ofString "size"), .str (Str.ofString "size") c, v3⟩, ⟨PyData.keyHash w.params (Str.ofString "local"), .str (Str.ofString "local") e, v4⟩, ⟨PyData.keyHash w.params (Str.ofString "overflow"), .str (Str.ofString "overflow") f, v5⟩]
def PC (w : World) (v1 v2 v3 v4 v5 : Value) : Value → Led → Prop := fun v new => ∃ x d a b c e f, v = .ref x ∧ d < x ∧ new = [(x, instObj 161 d), (d, dictOf (cellD w a b c e f v1 v2 v3 v4 v5) 5)]
section
variable {w : World} {mean : ExcName → Option Value} {mg mb : Str → Option Value} {dk : Nat} {f : Addr} {vs : List Value} {own : Led}
    {dp un : Nat} {gd : Option (List Code)} {cn : Str} {cs : Scope} {a : Addr} {ccd : Value} {cl : List (Str × Addr)} {outer : List Env} {A₀ : Around} {base h₀ : Heap} {L : Addr} {m : Str → Option Value} {s : Shared} {Q E : Value → Shared → Prop} {news : Led}
theorem fnC_use {v1 v2 v3 v4 v5 : Value} (H : FnR w mean mg mb dk f vs own (PC w v1 v2 v3 v4 v5))
    (B : Below A₀ base outer h₀) (F : Fr h₀ L s.heap m) (X : (hd.heap_39 w.params).In h₀) (N : News h₀ L s.heap news) (T : Top hd.view_39 (looseW hd.view_39 [Str.ofString "WORD"]) mean mg mb h₀) (hk : cs.kind = .function) (hd' : dp + dk < recursionLimit) (hu : un + 8 * dk < cLine) (sub : ∀ p ∈ own, p ∈ news)
    (k : ∀ x d a b c e f h' tk', d < x → Fr h₀ L h' m → News h₀ L h' ((x, instObj 161 d) :: (d, dictOf [⟨PyData.keyHash w.params (Str.ofString "child"), .str (Str.ofString "child") a, v1⟩, ⟨PyData.keyHash w.params (Str.ofString "rowid"), .str (Str.ofString "rowid") b, v2⟩, ⟨PyData.keyHash w.params (Str.ofString "size"), .str (Str.ofString "size") c, v3⟩, ⟨PyData.keyHash w.params (Str.ofString "local"), .str (Str.ofString "local") e, v4⟩, ⟨PyData.keyHash w.params (Str.ofString "overflow"), .str (Str.ofString "overflow") f, v5⟩] 5) :: news) → (∀ q ∈ news, q.1 ≠ x) → (∀ q ∈ news, q.1 ≠ d) → Q (.ref x) { s with heap := h', toks := tk' }) :
    wpAny (model PySem.Challenge.rw_nt0096_01.row.prog w) (ktrTop dp un gd cn cs L a ccd cl outer) (call (.ref f) vs) Q E s :=
  fnR_use H B F X N T hk hd' hu sub fun v new h' tk' hp F' N' ne => by
    obtain ⟨x, d, a, b, c, e, f, rfl, lt, rfl⟩ := hp
    exact k x d a b c e f h' tk' lt F' N' (ne _ (.head _)) (ne _ (.tail _ (.head _)))
end
theorem cell_spec (w : World) (mean : ExcName → Option Value) (mg mb : Str → Option Value) (child size overflow : Int) (rowid : Value) (lb : Array UInt8) (t1 t3 t4 t5 : Tok) :
    FnR w mean mg mb 2 161 [.int child t1, rowid, .int size t3, .bytes lb t4, .int overflow t5] [] (PC w (.int child t1) rowid (.int size t3) (.bytes lb t4) (.int overflow t5)) := by
  unfold FnR
  intros
  rename_i hN₀ _ _ _ _ hret
  k_dflt (refine' call_clsE ?k1 ?k2 ?k3 ?k4 ?k5 ?k6 ?_; (case k1 => k_asm); (case k2 => k_asm); (case k3 => k_asm); (case k4 => k_is); (case k5 => k_is); (case k6 => k_is); k_whole; intro x' d' h' F' N' l1 l2 kp fx fd; (try k_lt l1); (try k_lt2 l2))
  k_dflt (refine' enter_keep ?k1 ?k2 ?k3 ?k4 ?k5 ?kA ?kF ?kK ?k6 ?k7 ?k8 ?k9 ?kB ?_ ?c2 ?c3 ?c4 ?c5; (case kA => exact rfl); (case kF => exact rfl); (case kK => assumption); (case k1 => k_asm); (case k2 => k_asm); (case k3 => k_asm); (case k4 => k_asm); (case k5 => k_asm); (case k6 => k_is); (case k7 => k_is); (case k8 => ktr_room); (case k9 => exact BindsTo.of_eq rfl); (case c5 => decide); (case kB => exact locs rfl); (case c2 => exact rfl); (case c3 => exact rfl); (case c4 => exact rfl); k_whole; intro g' L' h' FG' F' N' B' X' T' gk lt'; (try dsimp only); (try k_lt lt'); (try k_lift B'); (try k_fold))
  k_steps
  exact retC hret kp fx fd gk (by k_asm) (by assumption) (by assumption) ⟨x', d', _, _, _, _, _, rfl, by omega, rfl⟩
theorem is_leaf_2 (w : World) (mean : ExcName → Option Value) (mg mb : Str → Option Value) (tk : Tok) : FnR w mean mg mb 2 109 [.int 2 tk] [] (PB false) := is_leaf_spec _ _ _ _ 2 _
theorem is_leaf_5 (w : World) (mean : ExcName → Option Value) (mg mb : Str → Option Value) (tk : Tok) : FnR w mean mg mb 2 109 [.int 5 tk] [] (PB false) := is_leaf_spec _ _ _ _ 5 _
theorem is_leaf_10 (w : World) (mean : ExcName → Option Value) (mg mb : Str → Option Value) (tk : Tok) : FnR w mean mg mb 2 109 [.int 10 tk] [] (PB true) := is_leaf_spec _ _ _ _ 10 _
theorem is_leaf_13 (w : World) (mean : ExcName → Option Value) (mg mb : Str → Option Value) (tk : Tok) : FnR w mean mg mb 2 109 [.int 13 tk] [] (PB true) := is_leaf_spec _ _ _ _ 13 _
local macro_rules | `(tactic| walk_at "call ref") => `(tactic| (k_here; (with_reducible show wpAny _ _ (call (Value.ref 109) _) _ _ _); k_dflt (refine' fnB_use (is_leaf_2 _ _ _ _ _) ?k1 ?k2 ?k3 ?k4 ?k5 ?kK ?kd ?ku ?sub ?_; walk_at "P1"; (case sub => exact fun _ h => nomatch h)); intro h9 tk9 F9 N9; (try dsimp only); (try k_fold)))
local macro_rules | `(tactic| walk_at "call ref") => `(tactic| (k_here; (with_reducible show wpAny _ _ (call (Value.ref 109) _) _ _ _); k_dflt (refine' fnB_use (is_leaf_5 _ _ _ _ _) ?k1 ?k2 ?k3 ?k4 ?k5 ?kK ?kd ?ku ?sub ?_; walk_at "P1"; (case sub => exact fun _ h => nomatch h)); intro h9 tk9 F9 N9; (try dsimp only); (try k_fold)))
local macro_rules | `(tactic| walk_at "call ref") => `(tactic| (k_here; (with_reducible show wpAny _ _ (call (Value.ref 109) _) _ _ _); k_dflt (refine' fnB_use (is_leaf_10 _ _ _ _ _) ?k1 ?k2 ?k3 ?k4 ?k5 ?kK ?kd ?ku ?sub ?_; walk_at "P1"; (case sub => exact fun _ h => nomatch h)); intro h9 tk9 F9 N9; (try dsimp only); (try k_fold)))
local macro_rules | `(tactic| walk_at "call ref") => `(tactic| (k_here; (with_reducible show wpAny _ _ (call (Value.ref 109) _) _ _ _); k_dflt (refine' fnB_use (is_leaf_13 _ _ _ _ _) ?k1 ?k2 ?k3 ?k4 ?k5 ?kK ?kd ?ku ?sub ?_; walk_at "P1"; (case sub => exact fun _ h => nomatch h)); intro h9 tk9 F9 N9; (try dsimp only); (try k_fold)))
local macro_rules | `(tactic| walk_at "call ref") => `(tactic| (k_here; (with_reducible show wpAny _ _ (call (Value.ref 60) _) _ _ _); k_dflt (refine' fnT_use (get_varint_spec _ _ _ _ _ _ _ _ _ _ _ ?j1 ?j2 ?j3 ?j4) ?k1 ?k2 ?k3 ?k4 ?k5 ?kK ?kd ?ku ?sub ?_; walk_at "P1"; (case sub => exact fun _ h => nomatch h); (case j1 => kba_ints); (case j4 => assumption); (case j2 => walk_at "om"); (case j3 => walk_at "om")); intro D9 t9 u9 h9 tk9 F9 N9 ne9; (try dsimp only); (try k_fold)))
local macro_rules | `(tactic| walk_at "call ref") => `(tactic| (k_here; (with_reducible show wpAny _ _ (call (Value.ref 161) _) _ _ _); k_dflt (refine' fnC_use (cell_spec _ _ _ _ _ _ _ _ _ _ _ _ _) ?k1 ?k2 ?k3 ?k4 ?k5 ?kK ?kd ?ku ?sub ?_; walk_at "P1"; (case sub => exact fun _ h => nomatch h)); intro x9 d9 a9 b9 c9 e9 f9 h9 tk9 lt9 F9 N9 nx9 nd9; (try simp only [List.forall_mem_cons, List.not_mem_nil, false_implies, implies_true, and_true] at nx9 nd9); (try dsimp only); (try k_fold)))
local macro_rules | `(tactic| walk_at "call ref") => `(tactic| (k_here; (with_reducible show wpAny _ _ (call (Value.ref 44) _) _ _ _); exfalso; omega))
def fourAt (ks : List Int) (i : Int) : Int := (ks.getD i.toNat 0 * 256 + ks.getD (i + 1).toNat 0) * 65536 + (ks.getD (i + 2).toNat 0 * 256 + ks.getD (i + 2 + 1).toNat 0)
def cutL (ks : List Int) (i j : Int) : List Int := (ks.drop i.toNat).take (j.toNat - i.toNat)
theorem slice_cut {prog : Program} {w : World} {A : Around} {E : Value → Shared → Prop} {s : Shared} {value slice : PySem.Expr} {b : Array UInt8} {t : Tok} {h₀ : Heap} {L : Addr} {m : PySem.Str → Option Value} {news : List (Addr × Obj)} {i j : Int} {ti tj : Tok} {Q : Value → Shared → Prop} {ks : List Int}
    (hF : Fr h₀ L s.heap m) (hN : News h₀ L s.heap news) (hk : KBw.bInts b = ks) (h0 : 0 ≤ i) (h1 : i ≤ j) (h2 : j ≤ (ks.length : Int)) (hz : ks.length ≤ 16777216)
    (h : ∀ b' h' t' k ls, Fr h₀ L h' m → News h₀ L h' news → KBw.bInts b' = ls → ls = cutL ks i j → (ls.length : Int) = j - i → Q (.bytes b' t') { s with heap := h', toks := k })
    (hs : subscripted slice false (.bytes b t) (.ref s.heap.objs.size) = operate [.ref s.heap.objs.size, .bytes b t] (getItem (.bytes b t) (.ref s.heap.objs.size)) := by with_unfolding_all rfl)
    (ht : ∀ r, letTemporaryGo value (.bytes b t) r = pure () := by intro _; with_unfolding_all rfl) :
    wpAny (model prog w) A (subscriptTail value slice (.bytes b t) (.ref s.heap.objs.size)) Q E { s with heap := s.heap.push { cls := .type "slice", data := .fields #[.int i ti, .int j tj, .none] } } := by
  refine KBc.slice_K hF hN hk (lo := some i) (hi := some j) (by constructor) (by constructor) hz (fun h' t' k F' N' e => ?_) hs ht
  have c1 : clipAt ks.length i = i.toNat := by
    obtain ⟨n, rfl⟩ := Int.eq_ofNat_of_zero_le h0
    rw [show clipAt ks.length ((n : Nat) : Int) = min n ks.length from clipAt_nat _ _]
    omega
  have c2 : clipAt ks.length j = j.toNat := by
    obtain ⟨n, rfl⟩ := Int.eq_ofNat_of_zero_le (show 0 ≤ j by omega)
    rw [show clipAt ks.length ((n : Nat) : Int) = min n ks.length from clipAt_nat _ _]
    omega
  have e' : KBw.bInts (KBy.picked b (some i) (some j)) = cutL ks i j := by
    rw [e]
    show (ks.drop (clipAt ks.length i)).take (clipAt ks.length j - clipAt ks.length i) = _
    rw [c1, c2]
    rfl
  refine h _ h' t' k _ F' N' e' rfl ?_
  unfold cutL
  rw [List.length_take, List.length_drop]
  omega
theorem offNR : True := by
  w_top off
  trivial
theorem bInts_inj {a b : Array UInt8} (h : KBw.bInts a = KBw.bInts b) : a = b := by
  unfold KBw.bInts at h
  apply Array.toList_inj.mp
  refine (List.map_inj_right (f := fun c : UInt8 => (c.toNat : Int)) (fun x y e => ?_)).mp h
  exact UInt8.toNat_inj.mp (by exact Int.ofNat.inj e)
def JStep (J : Shared → Prop) (f : Flow) (s' : Shared) : Prop := f = .next ∧ J s'
/-- the ways of a statement meet behind it -/
theorem j_stmt {M : Model} {A : Around} {E : Value → Shared → Prop} {s : Shared} {env : Env} {Q : Flow → Shared → Prop} {st : Stmt} {rest : List Stmt} (J : Shared → Prop) (h : wpAny M A (exec st env) (JStep J) E s) (k : ∀ s', J s' → wpAny M A (execs rest env) Q E s') : wpAny M A (execs (st :: rest) env) Q E s :=
  wpAny_execs_cons (wpAny_mono h (fun f s' hf => by obtain ⟨rfl, hJ⟩ := hf; exact k s' hJ) fun _ _ e => e)
theorem jstep {J : Shared → Prop} {s' : Shared} (h : J s') : JStep J .next s' := ⟨rfl, h⟩
/-- one statement at a time -/
theorem s_stmt {M : Model} {A : Around} {E : Value → Shared → Prop} {s : Shared} {env : Env} {Q : Flow → Shared → Prop} {st : Stmt} {rest : List Stmt} (h : wpAny M A (exec st env) (JStep fun s' => Held (wpAny M A (execs rest env) Q E s')) E s) : wpAny M A (execs (st :: rest) env) Q E s :=
  j_stmt _ h fun _ h => h
theorem m_cons {m f : Str → Option Value} {y : Str} {v : Option Value} (h : m y = v) (r : m = f) : m = fun z => if z = y then v else f z := by
  rw [← r]
  exact m_last h
theorem fr_as {g h : Heap} {L : Addr} {m f : Str → Option Value} (F : Fr g L h m) (r : m = f) : Fr g L h f := r ▸ F
theorem four_two {k : Int} (h : k = 2 ∨ k = 5 ∨ k = 10 ∨ k = 13) : (k = 2 ∨ k = 5) ∨ (k = 10 ∨ k = 13) := by omega
theorem is_leaf_inner (w : World) (mean : ExcName → Option Value) (mg mb : Str → Option Value) (kind : Int) (tk : Tok) (h : Held (kind = 2 ∨ kind = 5)) : FnR w mean mg mb 2 109 [.int kind tk] [] (PB false) := by
  rcases held h with rfl | rfl
  · exact is_leaf_2 _ _ _ _ _
  · exact is_leaf_5 _ _ _ _ _
theorem is_leaf_leaf (w : World) (mean : ExcName → Option Value) (mg mb : Str → Option Value) (kind : Int) (tk : Tok) (h : Held (kind = 10 ∨ kind = 13)) : FnR w mean mg mb 2 109 [.int kind tk] [] (PB true) := by
  rcases held h with rfl | rfl
  · exact is_leaf_10 _ _ _ _ _
  · exact is_leaf_13 _ _ _ _ _
section
local macro_rules | `(tactic| walk_at "ite") => `(tactic| first | (refine ite_pos (by simp only [decide_eq_true_eq, beq_iff_eq]; first | assumption | omega) ?_) | (refine ite_neg (by simp only [decide_eq_true_eq, beq_iff_eq]; first | assumption | omega) ?_))
local macro_rules | `(tactic| walk_at "call ref") => `(tactic| (k_here; (with_reducible show wpAny _ _ (call (Value.ref 109) _) _ _ _); k_dflt (refine' fnB_use (is_leaf_inner _ _ _ _ _ _ ?j1) ?k1 ?k2 ?k3 ?k4 ?k5 ?kK ?kd ?ku ?sub ?_; walk_at "P1"; (case sub => exact fun _ h => nomatch h); (case j1 => assumption)); intro h9 tk9 F9 N9; (try dsimp only); (try k_fold)))
local macro_rules | `(tactic| walk_at "call ref") => `(tactic| (k_here; (with_reducible show wpAny _ _ (call (Value.ref 109) _) _ _ _); k_dflt (refine' fnB_use (is_leaf_leaf _ _ _ _ _ _ ?j1) ?k1 ?k2 ?k3 ?k4 ?k5 ?kK ?kd ?ku ?sub ?_; walk_at "P1"; (case sub => exact fun _ h => nomatch h); (case j1 => assumption)); intro h9 tk9 F9 N9; (try dsimp only); (try k_fold)))
local macro_rules | `(tactic| walk_at "subscriptTail") => `(tactic| (k_here; (with_reducible show wpAny _ _ (subscriptTail _ (Expr.Slice _ _ none _) (Value.bytes _ _) (Value.ref _)) _ _ _); (with_reducible rename Fr _ _ _ _ => F'); (with_reducible rename News _ _ _ _ => N'); (refine slice_cut (s := ⟨_, _, _, _, _⟩) F' N' (by kba_ints) (by omega) (by omega) (by omega) (by kba_size) ?_); intro b9 h9 t9 k9 ls9 F9 N9 e9 c9 n9))
local macro_rules | `(tactic| walk_at "call type:bytes") => `(tactic| (k_here; (with_reducible show wpAny _ _ (call (Value.type "bytes") [Value.bytes _ _]) _ _ _); refine call_bytes_bytes ?_))
/-- what read_cell hands back of a cell of any kind -/
def PRU (w : World) (kind child rowid size over at' : Int) (lb0 : Array UInt8) : Value → Led → Prop := fun v new => ∃ T x d a b c e f ta tc td te u r lb c' s' o' p', v = .ref T ∧ new = [(T, { cls := .type "tuple", data := .seq #[.ref x, .int p' u] }), (x, instObj 161 d), (d, dictOf (cellD w a b c e f (.int c' ta) r (.int s' tc) (.bytes lb td) (.int o' te)) 5)] ∧
  p' = at' ∧ (kind = 2 ∨ kind = 5 → c' = child) ∧ (kind = 5 ∨ kind = 13 → ∃ t, r = .int rowid t) ∧ (kind ≠ 5 → s' = size ∧ o' = over ∧ lb = lb0)
/-- behind the child's place -/
def J1 (g : Heap) (L : Addr) (b : Array UInt8) (tb : Tok) (kind usable child i1 : Int) (s s' : Shared) : Prop :=
  ∃ c tc a ta tk tu to, ∃ (f : Str → Option Value), ∃ h n, s' = { s with heap := h, toks := n } ∧ News g L h [] ∧ (kind = 2 ∨ kind = 5 → c = child) ∧ a = i1 ∧
    Fr g L h (fun z => if z = Str.ofString "octets" then some (.bytes b tb) else if z = Str.ofString "at" then some (.int a ta) else if z = Str.ofString "kind" then some (.int kind tk) else if z = Str.ofString "usable" then some (.int usable tu) else if z = Str.ofString "child" then some (.int c tc) else if z = Str.ofString "rowid" then some .none else if z = Str.ofString "overflow" then some (.int 0 to) else f z)
/-- behind the rowid's place -/
def J2 (g : Heap) (L : Addr) (b : Array UInt8) (tb : Tok) (kind usable child rowid size i2 : Int) (s s' : Shared) : Prop :=
  ∃ c tc a ta tk tu to tz r, ∃ (f : Str → Option Value), ∃ h n, s' = { s with heap := h, toks := n } ∧ News g L h [] ∧ (kind = 2 ∨ kind = 5 → c = child) ∧ a = i2 ∧ (kind = 5 ∨ kind = 13 → ∃ t, r = .int rowid t) ∧
    Fr g L h (fun z => if z = Str.ofString "octets" then some (.bytes b tb) else if z = Str.ofString "at" then some (.int a ta) else if z = Str.ofString "kind" then some (.int kind tk) else if z = Str.ofString "usable" then some (.int usable tu) else if z = Str.ofString "child" then some (.int c tc) else if z = Str.ofString "rowid" then some r else if z = Str.ofString "overflow" then some (.int 0 to) else if z = Str.ofString "size" then some (.int size tz) else f z)
theorem read_cell_u (w : World) (mean : ExcName → Option Value) (mg mb : Str → Option Value) (b : Array UInt8) (tb : Tok) (ks : List Int) (i kind usable child rowid size over many at' i1 i2 n1 m n2 : Int) (ti tk tu : Tok) (ls : List Int) (lb0 : Array UInt8) (hb : KBw.bInts b = ks) (hi : 0 ≤ i) (hz : ks.length ≤ 100000) (hu : 64 ≤ usable) (hu2 : usable ≤ 512) (hk : kind = 2 ∨ kind = 5 ∨ kind = 10 ∨ kind = 13)
    (q1 : kind = 2 ∨ kind = 5 → i + 4 ≤ (ks.length : Int) ∧ i1 = i + 4 ∧ fourAt ks i = child) (q2 : kind = 10 ∨ kind = 13 → i1 = i)
    (q5 : kind = 5 → Dig ks i1 m n1 ∧ signedV m = rowid ∧ at' = i1 + n1)
    (qs : kind ≠ 5 → Dig ks i1 size n1 ∧ 0 ≤ n1 ∧ 0 ≤ n2 ∧ i2 = i1 + n1 + n2 ∧ many = manyV kind usable size ∧ 0 ≤ many ∧ i2 + many ≤ (ks.length : Int) ∧ cutL ks i2 (i2 + many) = ls ∧ KBw.bInts lb0 = ls)
    (q13 : kind = 13 → Dig ks (i1 + n1) m n2 ∧ signedV m = rowid) (qn : kind = 2 ∨ kind = 10 → n2 = 0)
    (qo : kind ≠ 5 → (many < size ∧ i2 + many + 4 ≤ (ks.length : Int) ∧ fourAt ks (i2 + many) = over ∧ at' = i2 + many + 4) ∨ (¬ many < size ∧ over = 0 ∧ at' = i2 + many)) :
    FnR w mean mg mb 4 172 [.bytes b tb, .int i ti, .int kind tk, .int usable tu] [] (PRU w kind child rowid size over at' lb0) := by
  unfold FnR
  intros
  rename_i hN₀ _ _ _ _ hret
  refine wpAny_call ?_
  k_dflt (refine' enter_keep ?k1 ?k2 ?k3 ?k4 ?k5 ?kA ?kF ?kK ?k6 ?k7 ?k8 ?k9 ?kB ?_ ?c2 ?c3 ?c4 ?c5; (case kA => exact rfl); (case kF => exact rfl); (case kK => assumption); (case k1 => k_asm); (case k2 => k_asm); (case k3 => k_asm); (case k4 => k_asm); (case k5 => k_asm); (case k6 => k_is); (case k7 => k_is); (case k8 => ktr_room); (case k9 => exact BindsTo.of_eq rfl); (case c5 => decide); (case kB => exact locs rfl); (case c2 => exact rfl); (case c3 => exact rfl); (case c4 => exact rfl); k_whole; intro g' L' h' FG' F' N' B' X' T' gk lt'; (try dsimp only); (try k_lt lt'); (try k_lift B'); (try k_fold))
  rename Shared => s0
  have z0 : 0 ≤ i1 := by
    rcases four_two hk with h | h
    · have := (q1 h).2.1
      clear hk q1 q2 q5 qs q13 qn qo h
      omega
    · have := q2 h
      clear hk q1 q2 q5 qs q13 qn qo h
      omega
  replace hk := unheld hk
  replace q1 := unheld q1
  replace q2 := unheld q2
  replace q5 := unheld q5
  replace qs := unheld qs
  replace q13 := unheld q13
  replace qn := unheld qn
  replace qo := unheld qo
  (refine s_stmt ?_; k_steps; refine jstep (unheld ?_))
  (refine s_stmt ?_; k_steps; refine jstep (unheld ?_))
  (refine s_stmt ?_; k_steps; refine jstep (unheld ?_))
  refine j_stmt (J1 g' L' b tb kind usable child i1 s0) ?h4 ?k4
  case h4 =>
    rcases four_two (held hk) with hc | hc
    · obtain ⟨z1, z2, z3⟩ := held q1 hc
      replace hc := unheld hc
      k_steps
      refine jstep ⟨_, _, _, _, _, _, _, _, _, _, rfl, by k_asm, fun _ => z3, ?_, fr_as (by k_asm) (m_cons rfl (m_cons rfl (m_cons rfl (m_cons rfl (m_cons rfl (m_cons rfl (m_cons rfl rfl)))))))⟩
      omega
    · have z2 := held q2 hc
      have hn : Held (¬ (kind = 2 ∨ kind = 5)) := unheld (by omega)
      replace hc := unheld hc
      k_steps
      refine jstep ⟨_, _, _, _, _, _, _, _, _, _, rfl, by k_asm, fun h => absurd h (held hn), ?_, fr_as (by k_asm) (m_cons rfl (m_cons rfl (m_cons rfl (m_cons rfl (m_cons rfl (m_cons rfl (m_cons rfl rfl)))))))⟩
      omega
  case k4 =>
    rename Fr _ _ _ _ => F3
    rename News _ _ _ _ => N3
    clear F3 N3
    rintro s' ⟨c, tc, a, ta, tk', tu', to, f, h4, n4, rfl, N4, hc, rfl, F4⟩
    by_cases h5 : kind = 5
    · obtain ⟨d5, e5, a5⟩ := held q5 h5
      have e1 := hc (.inr h5)
      subst e1
      subst e5
      subst a5
      have z1 := (held q1 (.inr h5)).2.1
      k_steps
      all_goals refine retR [(_, _), (_, _), (_, _)] hret hN₀ gk (by k_asm) (by k_asm) (by assumption) (by assumption) (List.forall_mem_cons.mpr ⟨by k_mem, List.forall_mem_cons.mpr ⟨by k_mem, List.forall_mem_cons.mpr ⟨by k_mem, (fun _ h => nomatch h)⟩⟩⟩) (List.forall_mem_cons.mpr ⟨by k_mem, List.forall_mem_cons.mpr ⟨by k_mem, List.forall_mem_cons.mpr ⟨by k_mem, (fun _ h => nomatch h)⟩⟩⟩) (fun _ h => nomatch h) (fun _ _ _ h => nomatch h) ⟨_, _, _, _, _, _, _, _, _, _, _, _, _, _, _, _, _, _, _, rfl, rfl, rfl, fun _ => rfl, fun _ => ⟨_, rfl⟩, fun q => absurd h5 q⟩
    · obtain ⟨ds, n1p, n2p, e2, em, m0, mf, ml, mb0⟩ := held qs h5
      have qo' := unheld (held qo h5)
      subst em
      have hf2 : manyV kind usable size < size → i2 + manyV kind usable size + 4 ≤ (ks.length : Int) := fun h => by
        rcases held qo' with ⟨o1, o2, o3, o4⟩ | ⟨o1, o2, o3⟩
        · exact o2
        · exact absurd h o1
      replace hf2 := unheld hf2
      replace hc := unheld hc
      (refine s_stmt ?_; k_steps; refine jstep (unheld ?_))
      have hn : Held (¬ kind = 13 → kind = 2 ∨ kind = 10) := unheld (by have := held hk; omega)
      replace h5 := unheld h5
      (refine s_stmt ?_; k_steps; refine jstep (unheld ?_))
      refine j_stmt (J2 g' L' b tb kind usable child rowid size i2 s0) ?h7 ?k7
      case h7 =>
        by_cases h13 : kind = 13
        · obtain ⟨d13, e13⟩ := held q13 h13
          subst e13
          k_steps
          refine jstep ⟨_, _, _, _, _, _, _, _, _, _, _, _, rfl, News.nil, held hc, ?_, fun _ => ⟨_, rfl⟩, fr_as (by k_asm) (m_cons rfl (m_cons rfl (m_cons rfl (m_cons rfl (m_cons rfl (m_cons rfl (m_cons rfl (m_cons rfl rfl))))))))⟩
          omega
        · have e0 := held qn (held hn h13)
          have hm : Held (¬ (kind = 5 ∨ kind = 13)) := unheld (by have := held h5; omega)
          k_steps
          refine jstep ⟨_, _, _, _, _, _, _, _, _, _, _, _, rfl, News.nil, held hc, ?_, fun h => absurd h (held hm), fr_as (by k_asm) (m_cons rfl (m_cons rfl (m_cons rfl (m_cons rfl (m_cons rfl (m_cons rfl (m_cons rfl (m_cons rfl rfl))))))))⟩
          omega
      case k7 =>
        rename Fr _ _ _ _ => F5
        rename News _ _ _ _ => N5
        clear F5 N5
        rintro s' ⟨c', tc', a', ta', tk', tu', to', tz', r, f', h7, n7, rfl, N7, hc', rfl, hr, F7⟩
        replace hf2 := held hf2
        replace hc' := unheld hc'
        replace hr := unheld hr
        k_steps
        clear hf2
        replace hc' := held hc'
        replace hr := held hr
        all_goals rcases held qo' with ⟨o1, o2, o3, o4⟩ | ⟨o1, o2, o3⟩
        all_goals first
          | (exfalso; omega)
          | exact retR [(_, _), (_, _), (_, _)] hret hN₀ gk (by k_asm) (by k_asm) (by assumption) (by assumption) (List.forall_mem_cons.mpr ⟨by k_mem, List.forall_mem_cons.mpr ⟨by k_mem, List.forall_mem_cons.mpr ⟨by k_mem, (fun _ h => nomatch h)⟩⟩⟩) (List.forall_mem_cons.mpr ⟨by k_mem, List.forall_mem_cons.mpr ⟨by k_mem, List.forall_mem_cons.mpr ⟨by k_mem, (fun _ h => nomatch h)⟩⟩⟩) (fun _ h => nomatch h) (fun _ _ _ h => nomatch h) ⟨_, _, _, _, _, _, _, _, _, _, _, _, _, _, _, _, _, _, _, rfl, rfl, o4.symm, hc', hr, fun _ => ⟨rfl, o3, bInts_inj (Eq.trans (Eq.trans (by assumption) (by assumption)) (ml.trans mb0.symm))⟩⟩
          | exact retR [(_, _), (_, _), (_, _)] hret hN₀ gk (by k_asm) (by k_asm) (by assumption) (by assumption) (List.forall_mem_cons.mpr ⟨by k_mem, List.forall_mem_cons.mpr ⟨by k_mem, List.forall_mem_cons.mpr ⟨by k_mem, (fun _ h => nomatch h)⟩⟩⟩) (List.forall_mem_cons.mpr ⟨by k_mem, List.forall_mem_cons.mpr ⟨by k_mem, List.forall_mem_cons.mpr ⟨by k_mem, (fun _ h => nomatch h)⟩⟩⟩) (fun _ h => nomatch h) (fun _ _ _ h => nomatch h) ⟨_, _, _, _, _, _, _, _, _, _, _, _, _, _, _, _, _, _, _, rfl, rfl, o3.symm, hc', hr, fun _ => ⟨rfl, o2.symm, bInts_inj (Eq.trans (Eq.trans (by assumption) (by assumption)) (ml.trans mb0.symm))⟩⟩
end
theorem offN8 : True := by
  w_top off
  trivial
local macro_rules | `(tactic| walk_at "call ref") => `(tactic| (k_here; (with_reducible show wpAny _ _ (call (Value.ref 53) _) _ _ _); k_dflt (refine' fnY_use (put_varint_spec _ _ _ _ _ _ ?j1) ?k1 ?k2 ?k3 ?k4 ?k5 ?kK ?kd ?ku ?sub ?_; walk_at "P1"; (case sub => exact fun _ h => nomatch h); (case j1 => walk_at "om")); intro b9 t9 h9 tk9 e9 F9 N9; (try dsimp only); (try k_fold)))
theorem pvM_le (m : Int) : (pvM m).length ≤ 9 := by
  have h := pvM_len (m := m)
  unfold pvN at h
  (repeat' split at h) <;> omega
abbrev cellL (w : World) (x d : Addr) (a b c e f : Tok) (v1 v2 v3 v4 v5 : Value) : Led := [(x, instObj 161 d), (d, dictOf [⟨PyData.keyHash w.params (Str.ofString "child"), .str (Str.ofString "child") a, v1⟩, ⟨PyData.keyHash w.params (Str.ofString "rowid"), .str (Str.ofString "rowid") b, v2⟩, ⟨PyData.keyHash w.params (Str.ofString "size"), .str (Str.ofString "size") c, v3⟩, ⟨PyData.keyHash w.params (Str.ofString "local"), .str (Str.ofString "local") e, v4⟩, ⟨PyData.keyHash w.params (Str.ofString "overflow"), .str (Str.ofString "overflow") f, v5⟩] 5)]
theorem octets13_spec (w : World) (mean : ExcName → Option Value) (mg mb : Str → Option Value) (x d : Addr) (a b c e f : Tok) (child size over : Int) (rowid : Int) (t2 : Tok) (lb : Array UInt8) (ls : List Int) (t1 t3 t4 t5 tk : Tok) (lt : d < x) (hl : KBw.bInts lb = ls) (hz : ls.length ≤ 10000) (h1 : size % 18446744073709551616 < 2097152) (h2 : rowid % 18446744073709551616 < 2097152 ∨ 562949953421312 ≤ rowid % 18446744073709551616) (h3 : 0 ≤ over) (h4 : over < 4294967296) :
    FnN w mean mg mb 5 158 [.ref x, .int 13 tk] (cellL w x d a b c e f (.int child t1) (.int rowid t2) (.int size t3) (.bytes lb t4) (.int over t5)) (PY (pvM (size % 18446744073709551616) ++ (pvM (rowid % 18446744073709551616) ++ (ls ++ if over = 0 then [] else fourV over)))) := by
  have l1 := pvM_le (size % 18446744073709551616)
  have l2 := pvM_le (rowid % 18446744073709551616)
  have l3 : (fourV over).length = 4 := rfl
  have l4 : (fourV child).length = 4 := rfl
  unfold FnN
  intros
  rename_i hN₀ _ _ _ _ hret
  refine wpN_call ?_
  k_dflt (refine' enter_keepN ?k1 ?k2 ?k3 ?k4 ?k5 ?kA ?kF ?kK ?k6 ?k7 ?k8 ?k9 ?kB ?_ ?c2 ?c3 ?c4 ?c5; (case kA => exact rfl); (case kF => exact rfl); (case kK => assumption); (case k1 => k_asm); (case k2 => k_asm); (case k3 => k_asm); (case k4 => k_asm); (case k5 => k_asm); (case k6 => k_is); (case k7 => k_is); (case k8 => ktr_room); (case k9 => exact BindsTo.of_eq rfl); (case c5 => decide); (case kB => exact locs rfl); (case c2 => exact rfl); (case c3 => exact rfl); (case c4 => exact rfl); k_whole; intro g' L' h' FG' F' N' B' X' T' gk lt'; (try dsimp only); (try k_lt lt'); (try k_lift B'); (try k_fold))
  (refine wpN_execs_cons (wpN_of ?_); k_steps; (try dsimp only))
  (refine wpN_execs_cons (wpN_of ?_); k_steps; (try dsimp only))
  (refine wpN_execs_cons (wpN_of ?_); k_steps; (try dsimp only))
  (refine wpN_execs_cons (wpN_of ?_); k_steps; (try dsimp only))
  (refine wpN_execs_cons (wpN_of ?_); k_steps; (try dsimp only))
  (refine wpN_execs_cons (wpN_of ?_); k_steps; (try dsimp only))
  refine wpN_execs_cons (wpN_If (wpN_of ?_))
  k_steps
  · refine wpN_execs_cons (wpN_Assign_Name (wpN_BinOp ?_))
    k_steps
    refine wpN_CallName ?_
    k_steps
    refine wpN_callWithK (K := hd.heap_39 w.params) (by k_is) ?_
    k_steps
    (try dsimp only)
    (k_dflt (refine' fnNY_use (four_octets_spec _ _ _ _ _ _ ?j1 ?j2) ?k1 ?k2 ?k3 ?k4 ?k5 ?kK ?kd ?ku ?sub ?_; walk_at "P1"; (case sub => exact fun _ h => nomatch h); (case j1 => walk_at "om"); (case j2 => walk_at "om")); intro b9 t9 h9 tk9 e9 F9 N9; (try dsimp only); (try k_fold))
    k_steps
    refine wpN_execs_nil ?_
    refine wpN_of ?_
    k_steps
    refine retY hret hN₀ gk (by k_asm) (by k_asm) (by assumption) (by assumption) (fun _ h => h) ?_
    rw [if_neg (by omega)]
    refine Eq.trans (by kba_ints) ?_
    simp only [List.map_nil, List.nil_append, List.append_assoc, List.append_nil]
  · refine wpN_execs_nil ?_
    refine wpN_of ?_
    k_steps
    refine retY hret hN₀ gk (by k_asm) (by k_asm) (by assumption) (by assumption) (fun _ h => h) ?_
    rw [if_pos (by omega)]
    refine Eq.trans (by kba_ints) ?_
    simp only [List.map_nil, List.nil_append, List.append_assoc, List.append_nil]
theorem octets10_spec (w : World) (mean : ExcName → Option Value) (mg mb : Str → Option Value) (x d : Addr) (a b c e f : Tok) (child size over : Int) (rv : Value) (lb : Array UInt8) (ls : List Int) (t1 t3 t4 t5 tk : Tok) (lt : d < x) (hl : KBw.bInts lb = ls) (hz : ls.length ≤ 10000) (h1 : size % 18446744073709551616 < 2097152) (h3 : 0 ≤ over) (h4 : over < 4294967296) :
    FnN w mean mg mb 5 158 [.ref x, .int 10 tk] (cellL w x d a b c e f (.int child t1) rv (.int size t3) (.bytes lb t4) (.int over t5)) (PY (pvM (size % 18446744073709551616) ++ (ls ++ if over = 0 then [] else fourV over))) := by
  have l1 := pvM_le (size % 18446744073709551616)
  have l3 : (fourV over).length = 4 := rfl
  have l4 : (fourV child).length = 4 := rfl
  unfold FnN
  intros
  rename_i hN₀ _ _ _ _ hret
  refine wpN_call ?_
  k_dflt (refine' enter_keepN ?k1 ?k2 ?k3 ?k4 ?k5 ?kA ?kF ?kK ?k6 ?k7 ?k8 ?k9 ?kB ?_ ?c2 ?c3 ?c4 ?c5; (case kA => exact rfl); (case kF => exact rfl); (case kK => assumption); (case k1 => k_asm); (case k2 => k_asm); (case k3 => k_asm); (case k4 => k_asm); (case k5 => k_asm); (case k6 => k_is); (case k7 => k_is); (case k8 => ktr_room); (case k9 => exact BindsTo.of_eq rfl); (case c5 => decide); (case kB => exact locs rfl); (case c2 => exact rfl); (case c3 => exact rfl); (case c4 => exact rfl); k_whole; intro g' L' h' FG' F' N' B' X' T' gk lt'; (try dsimp only); (try k_lt lt'); (try k_lift B'); (try k_fold))
  (refine wpN_execs_cons (wpN_of ?_); k_steps; (try dsimp only))
  (refine wpN_execs_cons (wpN_of ?_); k_steps; (try dsimp only))
  (refine wpN_execs_cons (wpN_of ?_); k_steps; (try dsimp only))
  (refine wpN_execs_cons (wpN_of ?_); k_steps; (try dsimp only))
  (refine wpN_execs_cons (wpN_of ?_); k_steps; (try dsimp only))
  (refine wpN_execs_cons (wpN_of ?_); k_steps; (try dsimp only))
  refine wpN_execs_cons (wpN_If (wpN_of ?_))
  k_steps
  · refine wpN_execs_cons (wpN_Assign_Name (wpN_BinOp ?_))
    k_steps
    refine wpN_CallName ?_
    k_steps
    refine wpN_callWithK (K := hd.heap_39 w.params) (by k_is) ?_
    k_steps
    (try dsimp only)
    (k_dflt (refine' fnNY_use (four_octets_spec _ _ _ _ _ _ ?j1 ?j2) ?k1 ?k2 ?k3 ?k4 ?k5 ?kK ?kd ?ku ?sub ?_; walk_at "P1"; (case sub => exact fun _ h => nomatch h); (case j1 => walk_at "om"); (case j2 => walk_at "om")); intro b9 t9 h9 tk9 e9 F9 N9; (try dsimp only); (try k_fold))
    k_steps
    refine wpN_execs_nil ?_
    refine wpN_of ?_
    k_steps
    refine retY hret hN₀ gk (by k_asm) (by k_asm) (by assumption) (by assumption) (fun _ h => h) ?_
    rw [if_neg (by omega)]
    refine Eq.trans (by kba_ints) ?_
    simp only [List.map_nil, List.nil_append, List.append_assoc, List.append_nil]
  · refine wpN_execs_nil ?_
    refine wpN_of ?_
    k_steps
    refine retY hret hN₀ gk (by k_asm) (by k_asm) (by assumption) (by assumption) (fun _ h => h) ?_
    rw [if_pos (by omega)]
    refine Eq.trans (by kba_ints) ?_
    simp only [List.map_nil, List.nil_append, List.append_assoc, List.append_nil]
theorem octets2_spec (w : World) (mean : ExcName → Option Value) (mg mb : Str → Option Value) (x d : Addr) (a b c e f : Tok) (child size over : Int) (rv : Value) (lb : Array UInt8) (ls : List Int) (t1 t3 t4 t5 tk : Tok) (lt : d < x) (hl : KBw.bInts lb = ls) (hz : ls.length ≤ 10000) (h0 : 0 ≤ child) (h01 : child < 4294967296) (h1 : size % 18446744073709551616 < 2097152) (h3 : 0 ≤ over) (h4 : over < 4294967296) :
    FnN w mean mg mb 5 158 [.ref x, .int 2 tk] (cellL w x d a b c e f (.int child t1) rv (.int size t3) (.bytes lb t4) (.int over t5)) (PY (fourV child ++ (pvM (size % 18446744073709551616) ++ (ls ++ if over = 0 then [] else fourV over)))) := by
  have l1 := pvM_le (size % 18446744073709551616)
  have l3 : (fourV over).length = 4 := rfl
  have l4 : (fourV child).length = 4 := rfl
  unfold FnN
  intros
  rename_i hN₀ _ _ _ _ hret
  refine wpN_call ?_
  k_dflt (refine' enter_keepN ?k1 ?k2 ?k3 ?k4 ?k5 ?kA ?kF ?kK ?k6 ?k7 ?k8 ?k9 ?kB ?_ ?c2 ?c3 ?c4 ?c5; (case kA => exact rfl); (case kF => exact rfl); (case kK => assumption); (case k1 => k_asm); (case k2 => k_asm); (case k3 => k_asm); (case k4 => k_asm); (case k5 => k_asm); (case k6 => k_is); (case k7 => k_is); (case k8 => ktr_room); (case k9 => exact BindsTo.of_eq rfl); (case c5 => decide); (case kB => exact locs rfl); (case c2 => exact rfl); (case c3 => exact rfl); (case c4 => exact rfl); k_whole; intro g' L' h' FG' F' N' B' X' T' gk lt'; (try dsimp only); (try k_lt lt'); (try k_lift B'); (try k_fold))
  (refine wpN_execs_cons (wpN_of ?_); k_steps; (try dsimp only))
  refine wpN_execs_cons (wpN_If (wpN_isTrue_not (wpN_of ?_)))
  k_steps
  refine wpN_execs_cons (wpN_Assign_Name (wpN_CallName ?_))
  k_steps
  refine wpN_callWithK (K := hd.heap_39 w.params) (by k_is) ?_
  k_steps
  (try dsimp only)
  (k_dflt (refine' fnNY_use (four_octets_spec _ _ _ _ _ _ ?j1 ?j2) ?k1 ?k2 ?k3 ?k4 ?k5 ?kK ?kd ?ku ?sub ?_; walk_at "P1"; (case sub => exact fun _ h => nomatch h); (case j1 => walk_at "om"); (case j2 => walk_at "om")); intro b9 t9 h9 tk9 e9 F9 N9; (try dsimp only); (try k_fold))
  k_steps
  refine wpN_execs_nil ?_
  (refine wpN_execs_cons (wpN_of ?_); k_steps; (try dsimp only))
  (refine wpN_execs_cons (wpN_of ?_); k_steps; (try dsimp only))
  (refine wpN_execs_cons (wpN_of ?_); k_steps; (try dsimp only))
  (refine wpN_execs_cons (wpN_of ?_); k_steps; (try dsimp only))
  refine wpN_execs_cons (wpN_If (wpN_of ?_))
  k_steps
  · refine wpN_execs_cons (wpN_Assign_Name (wpN_BinOp ?_))
    k_steps
    refine wpN_CallName ?_
    k_steps
    refine wpN_callWithK (K := hd.heap_39 w.params) (by k_is) ?_
    k_steps
    (try dsimp only)
    (k_dflt (refine' fnNY_use (four_octets_spec _ _ _ _ _ _ ?j1 ?j2) ?k1 ?k2 ?k3 ?k4 ?k5 ?kK ?kd ?ku ?sub ?_; walk_at "P1"; (case sub => exact fun _ h => nomatch h); (case j1 => walk_at "om"); (case j2 => walk_at "om")); intro b9 t9 h9 tk9 e9 F9 N9; (try dsimp only); (try k_fold))
    k_steps
    refine wpN_execs_nil ?_
    refine wpN_of ?_
    k_steps
    refine retY hret hN₀ gk (by k_asm) (by k_asm) (by assumption) (by assumption) (fun _ h => h) ?_
    rw [if_neg (by omega)]
    refine Eq.trans (by kba_ints) ?_
    simp only [List.map_nil, List.nil_append, List.append_assoc, List.append_nil]
  · refine wpN_execs_nil ?_
    refine wpN_of ?_
    k_steps
    refine retY hret hN₀ gk (by k_asm) (by k_asm) (by assumption) (by assumption) (fun _ h => h) ?_
    rw [if_pos (by omega)]
    refine Eq.trans (by kba_ints) ?_
    simp only [List.map_nil, List.nil_append, List.append_assoc, List.append_nil]
theorem octets5_spec (w : World) (mean : ExcName → Option Value) (mg mb : Str → Option Value) (x d : Addr) (a b c e f : Tok) (child size over : Int) (rowid : Int) (t2 : Tok) (lb : Array UInt8) (ls : List Int) (t1 t3 t4 t5 tk : Tok) (lt : d < x) (hl : KBw.bInts lb = ls) (hz : ls.length ≤ 10000) (h0 : 0 ≤ child) (h01 : child < 4294967296) (h2 : rowid % 18446744073709551616 < 2097152 ∨ 562949953421312 ≤ rowid % 18446744073709551616) :
    FnN w mean mg mb 5 158 [.ref x, .int 5 tk] (cellL w x d a b c e f (.int child t1) (.int rowid t2) (.int size t3) (.bytes lb t4) (.int over t5)) (PY (fourV child ++ pvM (rowid % 18446744073709551616))) := by
  have l2 := pvM_le (rowid % 18446744073709551616)
  have l3 : (fourV over).length = 4 := rfl
  have l4 : (fourV child).length = 4 := rfl
  unfold FnN
  intros
  rename_i hN₀ _ _ _ _ hret
  refine wpN_call ?_
  k_dflt (refine' enter_keepN ?k1 ?k2 ?k3 ?k4 ?k5 ?kA ?kF ?kK ?k6 ?k7 ?k8 ?k9 ?kB ?_ ?c2 ?c3 ?c4 ?c5; (case kA => exact rfl); (case kF => exact rfl); (case kK => assumption); (case k1 => k_asm); (case k2 => k_asm); (case k3 => k_asm); (case k4 => k_asm); (case k5 => k_asm); (case k6 => k_is); (case k7 => k_is); (case k8 => ktr_room); (case k9 => exact BindsTo.of_eq rfl); (case c5 => decide); (case kB => exact locs rfl); (case c2 => exact rfl); (case c3 => exact rfl); (case c4 => exact rfl); k_whole; intro g' L' h' FG' F' N' B' X' T' gk lt'; (try dsimp only); (try k_lt lt'); (try k_lift B'); (try k_fold))
  (refine wpN_execs_cons (wpN_of ?_); k_steps; (try dsimp only))
  refine wpN_execs_cons (wpN_If (wpN_isTrue_not (wpN_of ?_)))
  k_steps
  refine wpN_execs_cons (wpN_Assign_Name (wpN_CallName ?_))
  k_steps
  refine wpN_callWithK (K := hd.heap_39 w.params) (by k_is) ?_
  k_steps
  (try dsimp only)
  (k_dflt (refine' fnNY_use (four_octets_spec _ _ _ _ _ _ ?j1 ?j2) ?k1 ?k2 ?k3 ?k4 ?k5 ?kK ?kd ?ku ?sub ?_; walk_at "P1"; (case sub => exact fun _ h => nomatch h); (case j1 => walk_at "om"); (case j2 => walk_at "om")); intro b9 t9 h9 tk9 e9 F9 N9; (try dsimp only); (try k_fold))
  k_steps
  refine wpN_execs_nil ?_
  refine wpN_of ?_
  k_steps
  refine retY hret hN₀ gk (by k_asm) (by k_asm) (by assumption) (by assumption) (fun _ h => h) ?_
  refine Eq.trans (by kba_ints) ?_
  simp only [List.map_nil, List.nil_append, List.append_assoc, List.append_nil]
theorem offL7 : True := by
  w_top off
  trivial
section
variable {w : World} {mean : ExcName → Option Value} {mg mb : Str → Option Value} {dk : Nat} {f : Addr} {vs : List Value}
    {dp un : Nat} {gd : Option (List Code)} {cn : Str} {cs : Scope} {a : Addr} {ccd : Value} {cl : List (Str × Addr)} {outer : List Env} {A₀ : Around} {base h₀ : Heap} {L : Addr} {m : Str → Option Value} {s : Shared} {Q E : Value → Shared → Prop} {news : Led}
theorem fnK_use {l : Addr} {o : Obj} {top : Int} {n : Nat} {news' : Obj → Led} (H : FnU w mean mg mb dk f vs l o (PT top n))
    (B : Below A₀ base outer h₀) (F : Fr h₀ L s.heap m) (X : (hd.heap_39 w.params).In h₀) (N : News h₀ L s.heap news) (T : Top hd.view_39 (looseW hd.view_39 [Str.ofString "WORD"]) mean mg mb h₀) (hk : cs.kind = .function) (hd' : dp + dk < recursionLimit) (hu : un + 8 * dk < cLine)
    (U : UpdF l o news news')
    (k : ∀ d t a' b' ta' tb' h' tk', 0 ≤ d → d < top → 0 ≤ a' → 0 ≤ b' → b' < 2147483647 → Fr h₀ L h' m → News h₀ L h' (news' (listOf [.int a' ta', .int b' tb'].toArray n)) → Q (.int d t) { s with heap := h', toks := tk' }) :
    wpAny (model PySem.Challenge.rw_nt0096_01.row.prog w) (ktrTop dp un gd cn cs L a ccd cl outer) (call (.ref f) vs) Q E s :=
  fnU_use H B F X N T hk hd' hu (updF_upd U) fun v o' h' tk' p F' N' => by
    obtain ⟨d, t, a', b', ta', tb', rfl, h1, h2, h3, h4, h5, rfl⟩ := p
    exact k d t a' b' ta' tb' h' tk' h1 h2 h3 h4 h5 F' N'
end
local macro_rules | `(tactic| walk_at "call ref") => `(tactic| (k_here; (with_reducible show wpAny _ _ (call (Value.ref 186) _) _ _ _); k_dflt (refine' fnK_use (take_spec _ _ _ _ _ _ _ _ _ _ _ _ ?j1 ?j2 ?j3 ?j4 ?j5) ?k1 ?k2 ?k3 ?k4 ?k5 ?kK ?kd ?ku ?kU ?_; walk_at "P1"; (case kU => k_updF); (case j1 => walk_at "om"); (case j2 => walk_at "om"); (case j3 => walk_at "om"); (case j4 => walk_at "om"); (case j5 => walk_at "om")); intro d9 t9 a9 b9 ta9 tb9 h9 tk9 lo9 hi9 a09 b09 b19 F9 N9; (try dsimp only at N9); (try k_fold)))
theorem near_in {d usable : Int} (h0 : 0 ≤ d) (h1 : d < 9) (hu : 64 ≤ usable) (hu2 : usable ≤ 512) : [0, 1, 2, usable - 36, usable - 35, usable - 34, usable, 2 * usable, 6 * usable].getD d.toNat 0 ≤ 3072 := by
  rcases (show d = 0 ∨ d = 1 ∨ d = 2 ∨ d = 3 ∨ d = 4 ∨ d = 5 ∨ d = 6 ∨ d = 7 ∨ d = 8 by omega) with rfl | rfl | rfl | rfl | rfl | rfl | rfl | rfl | rfl
  · show (0 : Int) ≤ 3072; omega
  · show (1 : Int) ≤ 3072; omega
  · show (2 : Int) ≤ 3072; omega
  · show usable - 36 ≤ 3072; omega
  · show usable - 35 ≤ 3072; omega
  · show usable - 34 ≤ 3072; omega
  · show usable ≤ 3072; omega
  · show 2 * usable ≤ 3072; omega
  · show 6 * usable ≤ 3072; omega
theorem size_fin {x d : Int} (hx : x ≤ 3072) (h1 : d < 40) : 0 ≤ (if x + d - 20 > 0 then x + d - 20 else 0) ∧ (if x + d - 20 > 0 then x + d - 20 else 0) < 3092 := by
  split <;> omega
theorem law_size_spec (w : World) (mean : ExcName → Option Value) (mg mb : Str → Option Value) (l : Addr) (a b usable : Int) (ta tb tu : Tok) (n : Nat) (ha : 0 ≤ a) (hb : 0 ≤ b) (hb2 : b < 2147483647) (hu : 64 ≤ usable) (hu2 : usable ≤ 512) :
    FnU w mean mg mb 3 193 [.ref l, .int usable tu] l (listOf [.int a ta, .int b tb].toArray n) (PT 3092 n) := by
  unfold FnU
  intros
  rename_i hN₀ _ _ _ _ hret
  refine wpAny_call ?_
  k_dflt (refine' enter_keep ?k1 ?k2 ?k3 ?k4 ?k5 ?kA ?kF ?kK ?k6 ?k7 ?k8 ?k9 ?kB ?_ ?c2 ?c3 ?c4 ?c5; (case kA => exact rfl); (case kF => exact rfl); (case kK => assumption); (case k1 => k_asm); (case k2 => k_asm); (case k3 => k_asm); (case k4 => k_asm); (case k5 => k_asm); (case k6 => k_is); (case k7 => k_is); (case k8 => ktr_room); (case k9 => exact BindsTo.of_eq rfl); (case c5 => decide); (case kB => exact locs rfl); (case c2 => exact rfl); (case c3 => exact rfl); (case c4 => exact rfl); k_whole; intro g' L' h' FG' F' N' B' X' T' gk lt'; (try dsimp only); (try k_lt lt'); (try k_lift B'); (try k_fold))
  k_steps
  all_goals refine retU hret gk (by k_asm) (by k_asm) (by assumption) (by k_mem) ⟨_, _, _, _, _, _, rfl, ?_, ?_, by assumption, by assumption, by assumption, rfl⟩
  · exact (size_fin (near_in (by assumption) (by assumption) hu hu2) (by assumption)).1
  · exact (size_fin (near_in (by assumption) (by assumption) hu hu2) (by assumption)).2
theorem many_facts {kind usable size : Int} (hu : 64 ≤ usable) (hu2 : usable ≤ 512) (h0 : 0 ≤ size) :
    (size ≤ mostV kind usable → manyV kind usable size = size) ∧ (mostV kind usable < size → leastV usable ≤ manyV kind usable size ∧ manyV kind usable size ≤ mostV kind usable ∧ ((size - manyV kind usable size) % (usable - 4) = 0 ∨ manyV kind usable size = leastV usable)) := by
  refine ⟨fun h => by unfold manyV; rw [if_pos h], fun h => ?_⟩
  have h1 : leastV usable ≤ mostV kind usable := by unfold leastV mostV; split <;> omega
  unfold manyV
  rw [if_neg (by omega)]
  have h2 : leastV usable ≤ surV usable size := by
    unfold surV
    have := Int.emod_nonneg (size - leastV usable) (show usable - 4 ≠ 0 by omega)
    omega
  split
  · refine ⟨h2, by assumption, .inl ?_⟩
    unfold surV
    have hd := Int.ediv_mul_add_emod (size - leastV usable) (usable - 4)
    have e : size - (leastV usable + (size - leastV usable) % (usable - 4)) = (size - leastV usable) / (usable - 4) * (usable - 4) := by omega
    rw [e]
    exact Int.mul_emod_left _ _
  · exact ⟨Int.le_refl _, h1, .inr rfl⟩
theorem most_lit (kind : Int) : mostV kind 64 = [1, 29].getD (if (kind == 13) = true then (1 : Int) else 0).toNat 0 ∧ mostV kind 128 = [17, 93].getD (if (kind == 13) = true then (1 : Int) else 0).toNat 0 ∧ mostV kind 512 = [113, 477].getD (if (kind == 13) = true then (1 : Int) else 0).toNat 0 := by
  unfold mostV
  by_cases h : kind = 13
  · subst h; decide
  · have e : (kind == 13) = false := beq_eq_false_iff_ne.mpr h
    rw [if_neg h, if_neg h, if_neg h, e]
    decide
theorem least_lit : leastV 64 = 0 ∧ leastV 128 = 2 ∧ leastV 512 = 50 := by decide
theorem local_right_64 (w : World) (mean : ExcName → Option Value) (mg mb : Str → Option Value) (kind size : Int) (tk tu tz : Tok) (h0 : 0 ≤ size) : FnR w mean mg mb 4 200 [.int kind tk, .int 64 tu, .int size tz] [] (PB true) := by
  have mf := many_facts (kind := kind) (usable := 64) (by omega) (by omega) h0
  have ml := most_lit kind
  have ll := least_lit
  have e60 : (64 : Int) - 4 = 60 := rfl
  have hm : Int.fmod (size - manyV kind 64 size) (64 - 4) = (size - manyV kind 64 size) % 60 := Int.fmod_eq_emod_of_nonneg _ (by decide)
  rw [e60] at mf
  unfold FnR
  intros
  rename_i hN₀ _ _ _ _ hret
  refine wpAny_call ?_
  k_dflt (refine' enter_keep ?k1 ?k2 ?k3 ?k4 ?k5 ?kA ?kF ?kK ?k6 ?k7 ?k8 ?k9 ?kB ?_ ?c2 ?c3 ?c4 ?c5; (case kA => exact rfl); (case kF => exact rfl); (case kK => assumption); (case k1 => k_asm); (case k2 => k_asm); (case k3 => k_asm); (case k4 => k_asm); (case k5 => k_asm); (case k6 => k_is); (case k7 => k_is); (case k8 => ktr_room); (case k9 => exact BindsTo.of_eq rfl); (case c5 => decide); (case kB => exact locs rfl); (case c2 => exact rfl); (case c3 => exact rfl); (case c4 => exact rfl); k_whole; intro g' L' h' FG' F' N' B' X' T' gk lt'; (try dsimp only); (try k_lt lt'); (try k_lift B'); (try k_fold))
  k_steps
  all_goals refine retB hret hN₀ gk (by k_asm) (by k_asm) (by assumption) (by assumption) (fun _ h => nomatch h) ?_
  all_goals first | (exact absurd ml.1 (by assumption)) | (rw [beq_iff_eq]; first | assumption | omega)
theorem local_right_128 (w : World) (mean : ExcName → Option Value) (mg mb : Str → Option Value) (kind size : Int) (tk tu tz : Tok) (h0 : 0 ≤ size) : FnR w mean mg mb 4 200 [.int kind tk, .int 128 tu, .int size tz] [] (PB true) := by
  have mf := many_facts (kind := kind) (usable := 128) (by omega) (by omega) h0
  have ml := most_lit kind
  have ll := least_lit
  have e60 : (128 : Int) - 4 = 124 := rfl
  have hm : Int.fmod (size - manyV kind 128 size) (128 - 4) = (size - manyV kind 128 size) % 124 := Int.fmod_eq_emod_of_nonneg _ (by decide)
  rw [e60] at mf
  unfold FnR
  intros
  rename_i hN₀ _ _ _ _ hret
  refine wpAny_call ?_
  k_dflt (refine' enter_keep ?k1 ?k2 ?k3 ?k4 ?k5 ?kA ?kF ?kK ?k6 ?k7 ?k8 ?k9 ?kB ?_ ?c2 ?c3 ?c4 ?c5; (case kA => exact rfl); (case kF => exact rfl); (case kK => assumption); (case k1 => k_asm); (case k2 => k_asm); (case k3 => k_asm); (case k4 => k_asm); (case k5 => k_asm); (case k6 => k_is); (case k7 => k_is); (case k8 => ktr_room); (case k9 => exact BindsTo.of_eq rfl); (case c5 => decide); (case kB => exact locs rfl); (case c2 => exact rfl); (case c3 => exact rfl); (case c4 => exact rfl); k_whole; intro g' L' h' FG' F' N' B' X' T' gk lt'; (try dsimp only); (try k_lt lt'); (try k_lift B'); (try k_fold))
  k_steps
  all_goals refine retB hret hN₀ gk (by k_asm) (by k_asm) (by assumption) (by assumption) (fun _ h => nomatch h) ?_
  all_goals first | (exact absurd ml.2.1 (by assumption)) | (rw [beq_iff_eq]; first | assumption | omega)
theorem local_right_512 (w : World) (mean : ExcName → Option Value) (mg mb : Str → Option Value) (kind size : Int) (tk tu tz : Tok) (h0 : 0 ≤ size) : FnR w mean mg mb 4 200 [.int kind tk, .int 512 tu, .int size tz] [] (PB true) := by
  have mf := many_facts (kind := kind) (usable := 512) (by omega) (by omega) h0
  have ml := most_lit kind
  have ll := least_lit
  have e60 : (512 : Int) - 4 = 508 := rfl
  have hm : Int.fmod (size - manyV kind 512 size) (512 - 4) = (size - manyV kind 512 size) % 508 := Int.fmod_eq_emod_of_nonneg _ (by decide)
  rw [e60] at mf
  unfold FnR
  intros
  rename_i hN₀ _ _ _ _ hret
  refine wpAny_call ?_
  k_dflt (refine' enter_keep ?k1 ?k2 ?k3 ?k4 ?k5 ?kA ?kF ?kK ?k6 ?k7 ?k8 ?k9 ?kB ?_ ?c2 ?c3 ?c4 ?c5; (case kA => exact rfl); (case kF => exact rfl); (case kK => assumption); (case k1 => k_asm); (case k2 => k_asm); (case k3 => k_asm); (case k4 => k_asm); (case k5 => k_asm); (case k6 => k_is); (case k7 => k_is); (case k8 => ktr_room); (case k9 => exact BindsTo.of_eq rfl); (case c5 => decide); (case kB => exact locs rfl); (case c2 => exact rfl); (case c3 => exact rfl); (case c4 => exact rfl); k_whole; intro g' L' h' FG' F' N' B' X' T' gk lt'; (try dsimp only); (try k_lt lt'); (try k_lift B'); (try k_fold))
  k_steps
  all_goals refine retB hret hN₀ gk (by k_asm) (by k_asm) (by assumption) (by assumption) (fun _ h => nomatch h) ?_
  all_goals first | (exact absurd ml.2.2 (by assumption)) | (rw [beq_iff_eq]; first | assumption | omega)
theorem local_right_spec (w : World) (mean : ExcName → Option Value) (mg mb : Str → Option Value) (kind usable size : Int) (tk tu tz : Tok) (hu : usable = 64 ∨ usable = 128 ∨ usable = 512) (h0 : 0 ≤ size) : FnR w mean mg mb 4 200 [.int kind tk, .int usable tu, .int size tz] [] (PB true) := by
  rcases hu with rfl | rfl | rfl
  · exact local_right_64 _ _ _ _ _ _ _ _ _ h0
  · exact local_right_128 _ _ _ _ _ _ _ _ _ h0
  · exact local_right_512 _ _ _ _ _ _ _ _ _ h0
theorem offL8 : True := by
  w_top off
  trivial
section
variable {prog : Program} {w : World} {A : Around} {E : Value → Shared → Prop} {s : Shared} {h₀ : Heap} {L : Addr} {m : Str → Option Value} {news : Led} {l D : Addr} {x c : Int} {t u : Tok} {Q : Value → Shared → Prop}
theorem ints_rep1 (x : Int) (t : Tok) : ∀ n : Nat, IntsAre (List.replicate n (.int x t)) (List.replicate n x)
  | 0 => .nil
  | n + 1 => by rw [List.replicate_succ, List.replicate_succ]; exact .cons _ _ (ints_rep1 x t n)
theorem mul1K (F : Fr h₀ L s.heap m) (N : News h₀ L s.heap news) (hl : s.heap.IsList l [.int x t].toArray) (h0 : 0 ≤ c) (h1 : c ≤ 100000)
    (h : ∀ D h', Fr h₀ L h' m → News h₀ L h' ((D, listOf (List.replicate c.toNat (.int x t)).toArray 0) :: news) → (∀ p ∈ news, p.1 < D) → Q (.ref D) { s with heap := h' }) : wpAny (model prog w) A (binaryOp .Mult (.ref l) (.int c u)) Q E s := by
  have hsz : ([Value.int x t] : List Value).length * c.toNat ≤ 2 ^ 24 := by
    show 1 * c.toNat ≤ 16777216
    omega
  refine KM.mul F N hl (ns := [x]) (.cons _ _ .nil) (by omega) (by omega) hsz fun D h' F' N' lt _ _ _ _ _ _ => ?_
  rw [List.flatten_replicate_singleton] at N'
  exact h D h' F' N' lt
theorem repK (hh : A.handled = none) (F : Fr h₀ L s.heap m) (N : News h₀ L s.heap news) (hm : (D, listOf (List.replicate c.toNat (.int x t)).toArray 0) ∈ news) (h0 : 0 ≤ c) (h1 : c ≤ 100000) (x0 : 0 ≤ x) (x1 : x < 256)
    (h : ∀ b h' t' k ls, Fr h₀ L h' m → News h₀ L h' news → KBw.bInts b = ls → (ls.length : Int) = c → Q (.bytes b t') { s with heap := h', toks := k }) : wpAny (model prog w) A (call (.type "bytes") [.ref D]) Q E s := by
  refine KBa.make_K F N hh (News.isList N hm) (ints_rep1 x t _) (fun n hn => ?_) (by rw [List.length_replicate]; omega) fun h' t' k F' N' hin => ?_
  · rw [List.eq_of_mem_replicate hn]; exact ⟨x0, x1⟩
  · refine h _ h' t' k _ F' N' (KBa.ints_make hin) ?_
    rw [List.length_replicate]
    omega
theorem zeroK (h0 : 0 ≤ c) (h1 : c ≤ 100000) (h : ∀ b t' k ls, KBw.bInts b = ls → (ls.length : Int) = c → Q (.bytes b t') { s with toks := k }) : wpAny (model prog w) A (call (.type "bytes") [.int c t]) Q E s := by
  refine call_bytes_int h0 h1 (h _ _ _ _ rfl ?_)
  rw [KBw.ints_length, Array.size_replicate]
  omega
theorem r_pow31 {t u : Tok} (h : Q (.int 2147483648 s.toks) { s with toks := s.toks + 1 }) : wpAny (model prog w) A (binaryOp .Pow (.int 2 t) (.int 31 u)) Q E s :=
  pow_int_small (by decide) (by decide) (by decide) (by rw [show (2 : Int) ^ (31 : Int).toNat = 2147483648 from by decide]; exact h)
theorem r_pow63 {t u : Tok} (h : Q (.int 9223372036854775808 s.toks) { s with toks := s.toks + 1 }) : wpAny (model prog w) A (binaryOp .Pow (.int 2 t) (.int 63 u)) Q E s :=
  pow_int_small (by decide) (by decide) (by decide) (by rw [show (2 : Int) ^ (63 : Int).toNat = 9223372036854775808 from by decide]; exact h)
theorem wpN_methodCall {M : Model} {A : Around} {E : Value → Shared → Prop} {s : Shared} {env : Env} {o : Expr} {name : Str} {apos pos : Pos} {args : List Expr} {pl : Sem Bool} {Q : Value → Shared → Prop}
    (h : wpAny M A (eval o env) (fun ov s₁ => wpAny M A (getMethod ov name pl) (fun fx s₂ => wpN M A (callWith pos fx.1 fx.2 (backTo pos (starEach args env)) []) Q E s₂) E s₁) E s)
    (he : eval (.Call (.Attribute o name apos) args [] pos) env = (do
      let ov ← eval o env
      standAt apos.atName
      let (f, first) ← holding [ov] (getMethod ov name pl)
      callWith pos f first (backTo pos (starEach args env)) (backToKw pos (keywordEach [] env))) := by rfl) :
    wpN M A (eval (.Call (.Attribute o name apos) args [] pos) env) Q E s := by
  rw [he]
  refine wpN_bind (wpN_of (wpAny_mono h (fun ov s₁ h₁ => wpN_bind (wpN_of (wpAny_standAt (wpN_bind (wpN_holding (wpN_of (wpAny_mono h₁ (fun fx s₂ h₂ => ?_) fun _ _ x => x))))))) fun _ _ x => x))
  exact h₂
end
/-- the contract of a def that changes one object of the ledger, in the logic without decoders -/
def FnM (w : World) (mean : ExcName → Option Value) (mg mb : Str → Option Value) (dk : Nat) (f : Addr) (vs : List Value) (l : Addr) (o : Obj) (post : Value → Obj → Prop) : Prop :=
  ∀ (dp un : Nat) (cn : Str) (cs : Scope) (a : Addr) (ccd : Value) (cl : List (Str × Addr)) (outer : List Env) (A₀ : Around) (base h₀ : Heap) (L : Addr) (m : Str → Option Value) (s : Shared) (Q E : Value → Shared → Prop),
    Below A₀ base outer h₀ → Fr h₀ L s.heap m → (hd.heap_39 w.params).In h₀ → News h₀ L s.heap [(l, o)] → Top hd.view_39 (looseW hd.view_39 [Str.ofString "WORD"]) mean mg mb h₀ → cs.kind = .function → dp + dk < recursionLimit → un + 8 * dk < cLine →
    (∀ v o' h' tk', post v o' → Fr h₀ L h' m → News h₀ L h' [(l, o')] → (∀ b o, b ≠ l → s.heap.get? b = some o → h'.get? b = some o) → Q v { s with heap := h', toks := tk' }) →
    wpN (model PySem.Challenge.rw_nt0096_01.row.prog w) (ktrTop dp un (some []) cn cs L a ccd cl outer) (call (.ref f) vs) Q E s
def PSrc (n : Nat) : Value → Obj → Prop := fun v o => ∃ a' b' ta' tb', v = .bool true ∧ 0 ≤ a' ∧ 0 ≤ b' ∧ b' < 2147483647 ∧ o = listOf [.int a' ta', .int b' tb'].toArray n
theorem many_range {kind usable size : Int} (hu : 64 ≤ usable) (hu2 : usable ≤ 512) (h0 : 0 ≤ size) : 0 ≤ manyV kind usable size ∧ manyV kind usable size ≤ size ∧ manyV kind usable size ≤ 477 := by
  have h := many_facts (kind := kind) hu hu2 h0
  have h1 : 0 ≤ leastV usable := by unfold leastV; omega
  have h2 : mostV kind usable ≤ 477 := by unfold mostV; split <;> omega
  by_cases hc : size ≤ mostV kind usable
  · have := h.1 hc
    omega
  · have := (h.2 (by omega)).2
    have := (h.2 (by omega)).1
    omega
section
variable {w : World} {mean : ExcName → Option Value} {mg mb : Str → Option Value} {dk : Nat} {f : Addr} {vs : List Value} {own : Led}
    {dp un : Nat} {gd : Option (List Code)} {cn : Str} {cs : Scope} {a : Addr} {ccd : Value} {cl : List (Str × Addr)} {outer : List Env} {A₀ : Around} {base h₀ : Heap} {L : Addr} {m : Str → Option Value} {s : Shared} {Q E : Value → Shared → Prop} {news : Led}
theorem many_use {kind usable size : Int} (hu' : 64 ≤ usable) (hu2' : usable ≤ 512) (h0 : 0 ≤ size) (H : FnR w mean mg mb dk f vs own (PI (manyV kind usable size)))
    (B : Below A₀ base outer h₀) (F : Fr h₀ L s.heap m) (X : (hd.heap_39 w.params).In h₀) (N : News h₀ L s.heap news) (T : Top hd.view_39 (looseW hd.view_39 [Str.ofString "WORD"]) mean mg mb h₀) (hk : cs.kind = .function) (hd' : dp + dk < recursionLimit) (hu : un + 8 * dk < cLine) (sub : ∀ p ∈ own, p ∈ news) (k : ∀ x t h' tk', x = manyV kind usable size → 0 ≤ x → x ≤ size → x ≤ 477 → Fr h₀ L h' m → News h₀ L h' news → Q (.int x t) { s with heap := h', toks := tk' }) :
    wpAny (model PySem.Challenge.rw_nt0096_01.row.prog w) (ktrTop dp un gd cn cs L a ccd cl outer) (call (.ref f) vs) Q E s :=
  fnI_use H B F X N T hk hd' hu sub fun t h' tk' F' N' => k _ t h' tk' rfl (many_range hu' hu2' h0).1 (many_range hu' hu2' h0).2.1 (many_range hu' hu2' h0).2.2 F' N'
end
theorem rowids_in {l : List Int} {d : Int} (hl : l = [0, 1, 127, 128, 16383, 16384, -1, 9223372036854775807, -9223372036854775808, 72057594037927936, 72057594037927935]) (h0 : 0 ≤ d) (h1 : d < 11) :
    (l.getD d.toNat 0 % 18446744073709551616 < 2097152 ∨ 562949953421312 ≤ l.getD d.toNat 0 % 18446744073709551616) ∧ signedV (l.getD d.toNat 0 % 18446744073709551616) = l.getD d.toNat 0 := by
  subst hl
  rcases (show d = 0 ∨ d = 1 ∨ d = 2 ∨ d = 3 ∨ d = 4 ∨ d = 5 ∨ d = 6 ∨ d = 7 ∨ d = 8 ∨ d = 9 ∨ d = 10 by omega) with rfl | rfl | rfl | rfl | rfl | rfl | rfl | rfl | rfl | rfl | rfl <;> decide
theorem offL9 : True := by
  w_top off
  trivial
theorem cut_of {ks pre mid post : List Int} {i j : Int} (e : ks = pre ++ (mid ++ post)) (hi : i = (pre.length : Int)) (hj : j = i + (mid.length : Int)) : cutL ks i j = mid := by
  subst e
  unfold cutL
  have h1 : i.toNat = pre.length := by omega
  have h2 : j.toNat - i.toNat = mid.length := by omega
  rw [h2, h1, List.drop_left, List.take_left]
theorem dig_at {ks pre post : List Int} {i m : Int} (e : ks = pre ++ (pvM m ++ post)) (hi : i = (pre.length : Int)) (h0 : 0 ≤ m) (h1 : m < 18446744073709551616) (hm : m < 2097152 ∨ 562949953421312 ≤ m) : Dig ks i m (pvN m) := by
  subst e hi
  exact dig_of pre post h0 h1 hm
theorem four_of {ks pre post : List Int} {i v : Int} (e : ks = pre ++ (fourV v ++ post)) (hi : i = (pre.length : Int)) (h0 : 0 ≤ v) (h1 : v < 4294967296) : fourAt ks i = v := by
  subst e
  unfold fourAt
  have g (j : Nat) (hj : j < 4) (k : Int) (hk : k = (pre.length : Int) + j) : (pre ++ (fourV v ++ post)).getD k.toNat 0 = (fourV v).getD j 0 := getD_mid pre (fourV v) post k j hj hk
  rw [g 0 (by omega) i (by omega), g 1 (by omega) (i + 1) (by omega), g 2 (by omega) (i + 2) (by omega), g 3 (by omega) (i + 2 + 1) (by omega)]
  show (v / 65536 / 256 * 256 + v / 65536 % 256) * 65536 + (v % 65536 / 256 * 256 + v % 65536 % 256) = v
  omega
theorem pvN_in (m : Int) : 1 ≤ pvN m ∧ pvN m ≤ 9 := by unfold pvN; (repeat' split) <;> omega
theorem pvN_small {m : Int} (h : m < 2097152) : pvN m ≤ 3 ∧ (m < 16384 → pvN m ≤ 2) ∧ (m < 128 → pvN m = 1) := by unfold pvN; (repeat' split) <;> omega
theorem fourV_len (v : Int) : ((fourV v).length : Int) = 4 := rfl
section
variable {w : World} {mean : ExcName → Option Value} {mg mb : Str → Option Value} {dk : Nat} {f : Addr} {vs : List Value} {own : Led}
    {dp un : Nat} {gd : Option (List Code)} {cn : Str} {cs : Scope} {a : Addr} {ccd : Value} {cl : List (Str × Addr)} {outer : List Env} {A₀ : Around} {base h₀ : Heap} {L : Addr} {m : Str → Option Value} {s : Shared} {Q E : Value → Shared → Prop} {news : Led}
theorem fnC2_use {v1 v2 v3 v4 v5 : Value} (H : FnR w mean mg mb dk f vs own (PC w v1 v2 v3 v4 v5))
    (B : Below A₀ base outer h₀) (F : Fr h₀ L s.heap m) (X : (hd.heap_39 w.params).In h₀) (N : News h₀ L s.heap news) (T : Top hd.view_39 (looseW hd.view_39 [Str.ofString "WORD"]) mean mg mb h₀) (hk : cs.kind = .function) (hd' : dp + dk < recursionLimit) (hu : un + 8 * dk < cLine) (sub : ∀ p ∈ own, p ∈ news)
    (k : ∀ x d a b c e f h' tk', @LT.lt Nat _ d x → Fr h₀ L h' m → News h₀ L h' ((x, instObj 161 d) :: (d, dictOf [⟨PyData.keyHash w.params (Str.ofString "child"), .str (Str.ofString "child") a, v1⟩, ⟨PyData.keyHash w.params (Str.ofString "rowid"), .str (Str.ofString "rowid") b, v2⟩, ⟨PyData.keyHash w.params (Str.ofString "size"), .str (Str.ofString "size") c, v3⟩, ⟨PyData.keyHash w.params (Str.ofString "local"), .str (Str.ofString "local") e, v4⟩, ⟨PyData.keyHash w.params (Str.ofString "overflow"), .str (Str.ofString "overflow") f, v5⟩] 5) :: news) → (∀ q ∈ news, @Ne Nat q.1 x) → (∀ q ∈ news, @Ne Nat q.1 d) → Q (.ref x) { s with heap := h', toks := tk' }) :
    wpAny (model PySem.Challenge.rw_nt0096_01.row.prog w) (ktrTop dp un gd cn cs L a ccd cl outer) (call (.ref f) vs) Q E s :=
  fnC_use H B F X N T hk hd' hu sub k
end
theorem lo_len10 {lo ls : List Int} {size over : Int} (h : lo = pvM (size % 18446744073709551616) ++ (ls ++ if over = 0 then [] else fourV over)) (h0 : 0 ≤ size) (h1 : size < 2097152) : (lo.length : Int) = pvN size + ls.length + (if over = 0 then 0 else 4) := by
  have hp := pvM_len (m := size)
  rw [show size % 18446744073709551616 = size by omega] at h
  rw [h, List.length_append, List.length_append]
  split
  · simp only [List.length_nil]; omega
  · have := fourV_len over; omega
theorem lo_len13 {lo ls : List Int} {size over r : Int} (h : lo = pvM (size % 18446744073709551616) ++ (pvM r ++ (ls ++ if over = 0 then [] else fourV over))) (h0 : 0 ≤ size) (h1 : size < 2097152) : (lo.length : Int) = pvN size + pvN r + ls.length + (if over = 0 then 0 else 4) := by
  have hp := pvM_len (m := size)
  have hp2 := pvM_len (m := r)
  rw [show size % 18446744073709551616 = size by omega] at h
  rw [h, List.length_append, List.length_append, List.length_append]
  split
  · simp only [List.length_nil]; omega
  · have := fourV_len over; omega
theorem lo_len2 {lo ls : List Int} {size over child : Int} (h : lo = fourV child ++ (pvM (size % 18446744073709551616) ++ (ls ++ if over = 0 then [] else fourV over))) (h0 : 0 ≤ size) (h1 : size < 2097152) : (lo.length : Int) = 4 + pvN size + ls.length + (if over = 0 then 0 else 4) := by
  have hp := pvM_len (m := size)
  have hc := fourV_len child
  rw [show size % 18446744073709551616 = size by omega] at h
  rw [h, List.length_append, List.length_append, List.length_append]
  split
  · simp only [List.length_nil]; omega
  · have := fourV_len over; omega
theorem lo_len5 {lo : List Int} {child r : Int} (h : lo = fourV child ++ pvM r) : (lo.length : Int) = 4 + pvN r := by
  have hp := pvM_len (m := r)
  have hc := fourV_len child
  rw [h, List.length_append]
  omega
theorem four_most {kind usable : Int} (hk : kind ≠ 13) (hu : usable = 64 ∨ usable = 128 ∨ usable = 512) : 4 * mostV kind usable = usable - 60 := by
  unfold mostV
  rw [if_neg hk]
  rcases hu with rfl | rfl | rfl <;> decide
/-- a cell of keys leaves room for four on an inner page -/
theorem room_keys {kind usable size many len over c : Int} (hk : kind ≠ 13) (hu : usable = 64 ∨ usable = 128 ∨ usable = 512) (h0 : 0 ≤ size) (hm : many = manyV kind usable size) (hs : size ≤ 16383) (hl : len = c + pvN size + many + (if over = 0 then 0 else 4)) (hc : c ≤ 4) (j : Int) (hj : c + 4 * j ≤ 4) : 4 * (len + 2 + 4 * j) ≤ usable - 12 := by
  have h1 := four_most hk hu
  have h2 := many_facts (kind := kind) (usable := usable) (size := size) (by omega) (by omega) h0
  have h3 := (pvN_small (m := size) (by omega)).2.1 (by omega)
  have h4 : many ≤ mostV kind usable := by
    by_cases hq : size ≤ mostV kind usable
    · have := h2.1 hq; omega
    · have := (h2.2 (by omega)).2.1; omega
  split at hl <;> omega
theorem room_of {kind usable size many len over c : Int} (hm : many = manyV kind usable size) (hl : len = c + pvN size + many + (if over = 0 then 0 else 4)) (hk : kind ≠ 13) (hu : usable = 64 ∨ usable = 128 ∨ usable = 512) (h0 : 0 ≤ size) (hc : c ≤ 4) (j : Int) (hj : c + 4 * j ≤ 4) : size ≤ 16383 → 4 * (len + 2 + 4 * j) ≤ usable - 12 :=
  fun hs => room_keys hk hu h0 hm hs hl hc j hj
theorem len_out10 {x s l many : Int} {P : Prop} [Decidable P] (h : x = pvN s + l + (if P then 0 else 4)) (e : l = many) (h1 : many ≤ 477) (h0 : 0 ≤ many) : x = 0 + pvN s + many + (if P then 0 else 4) ∧ x ≤ 600 ∧ 1 ≤ x := by
  have := pvN_in s
  subst e
  by_cases hP : P
  · rw [if_pos hP] at *; omega
  · rw [if_neg hP] at *; omega
theorem len_out2 {x s l many : Int} {P : Prop} [Decidable P] (h : x = 4 + pvN s + l + (if P then 0 else 4)) (e : l = many) (h1 : many ≤ 477) (h0 : 0 ≤ many) : x = 4 + pvN s + many + (if P then 0 else 4) ∧ x ≤ 600 ∧ 1 ≤ x := by
  have := pvN_in s
  subst e
  by_cases hP : P
  · rw [if_pos hP] at *; omega
  · rw [if_neg hP] at *; omega
theorem len_out13 {x s r l many : Int} {P : Prop} [Decidable P] (h : x = pvN s + pvN r + l + (if P then 0 else 4)) (e : l = many) (h1 : many ≤ 477) (h0 : 0 ≤ many) : x ≤ 600 ∧ 1 ≤ x := by
  have := pvN_in s
  have := pvN_in r
  subst e
  split at h <;> omega
theorem len_out5 {x r : Int} (h : x = 4 + pvN r) : x ≤ 13 ∧ 1 ≤ x := by
  have := pvN_in r
  omega
section
variable {A : Around} {s : Shared}
theorem eqAt_bytes (b : Array UInt8) (t u : Tok) : PySem.SeqAt.EqAt A s (.bytes b t) (.bytes b u) true := fun prog w E Q h => by
  unfold eqBool
  refine wpAny_holding ?_
  refine wpAny_ite_split (fun hab => ?_) (fun _ => ?_)
  · exact wpAny_bind (wpAny_rule (wpAny_pure h))
  · refine wpAny_bind ?_
    show wpAny _ _ (compareOp .Eq (.bytes b t) (.bytes b u)) _ _ _
    refine PySem.W.eq_bytes ?_
    rw [show (b.toList == b.toList) = true from beq_self_eq_true _]
    exact wpAny_truthy_bool h
theorem cell_same {prog : Program} {w : World} {E Q : Value → Shared → Prop} {h₀ : Heap} {L T U : Addr} {news : Led} {a c : Int} {b : Array UInt8} {ta tb tc ua ub uc : Tok} (N : News h₀ L s.heap news)
    (h1 : (T, ({ cls := .type "tuple", data := .seq #[.int a ta, .bytes b tb, .int c tc] } : Obj)) ∈ news) (h2 : (U, ({ cls := .type "tuple", data := .seq #[.int a ua, .bytes b ub, .int c uc] } : Obj)) ∈ news) (hu : A.units < cLine) (h : Q (.bool false) s) :
    wpAny (model prog w) A (compareOp .NotEq (.ref T) (.ref U)) Q E s := by
  have i1 : s.heap.IsTuple T #[.int a ta, .bytes b tb, .int c tc] := ⟨_, (N _ h1).1, rfl, _, rfl⟩
  have i2 : s.heap.IsTuple U #[.int a ua, .bytes b ub, .int c uc] := ⟨_, (N _ h2).1, rfl, _, rfl⟩
  refine PySem.SeqAt.RcNeAt.tuples (e := fun _ => true) i1 i2 hu (fun j h1 h2 => ?_) prog w E Q h
  have hj : j < 3 := h1
  rcases (show j = 0 ∨ j = 1 ∨ j = 2 by omega) with rfl | rfl | rfl
  · have := PySem.SeqAt.EqAt.int_int (A := A.in1) (s := s) a ta a ua
    rw [beq_self_eq_true] at this
    exact this
  · exact eqAt_bytes b tb ub
  · have := PySem.SeqAt.EqAt.int_int (A := A.in1) (s := s) c tc c uc
    rw [beq_self_eq_true] at this
    exact this
theorem ne_same {prog : Program} {w : World} {E Q : Value → Shared → Prop} {x y : Int} {t u : Tok} (e : x = y) (h : Q (.bool false) s) : wpAny (model prog w) A (compareOp .NotEq (.int x t) (.int y u)) Q E s := by
  refine PyProof.Rows.ne_int ?_
  subst e
  first
    | (rw [bne_self_eq_false]; exact h)
    | (simpa using h)
end
section
theorem fr_over {g h : Heap} {L : Addr} {x : Str} {v w : Option Value} {m : Str → Option Value} (F : Fr g L h (fun y => if y = x then v else if y = x then w else m y)) : Fr g L h (fun y => if y = x then v else m y) := by
  have e : (fun y => if y = x then v else m y) = (fun y => if y = x then v else if y = x then w else m y) := by
    funext y
    by_cases hy : y = x
    · rw [if_pos hy, if_pos hy]
    · rw [if_neg hy, if_neg hy, if_neg hy]
  rw [e]
  exact F
def JoinOver (g : Heap) (L : Addr) (x : Str) (m₂ : Str → Option Value) (news' : Obj → Led) (n : Nat) (many size : Int) (s s' : Shared) : Prop :=
  ∃ v t h tk a' b' ta tb, s' = { s with heap := h, toks := tk } ∧ Fr g L h (fun y => if y = x then some (.int v t) else m₂ y) ∧ News g L h (news' (listOf [.int a' ta, .int b' tb].toArray n)) ∧ 0 ≤ a' ∧ 0 ≤ b' ∧ b' < 2147483647 ∧ ((many < size ∧ 1 ≤ v ∧ v < 4294967296) ∨ (¬ many < size ∧ v = 0))
theorem n_joinOver {M : Model} {A : Around} {E : Value → Shared → Prop} {s : Shared} {env : Env} {Q : Flow → Shared → Prop} {st : Stmt} {rest : List Stmt} {g : Heap} {L l : Addr} {x : Str} {m₂ : Str → Option Value} {news : Led} {news' : Obj → Led} {n : Nat} {many size kind usable a b : Int} {t0 ta tb : Tok}
    (_hm : many = manyV kind usable size) (_F : Fr g L s.heap (fun y => if y = x then some (.int 0 t0) else m₂ y)) (_N : News g L s.heap news) (_U : UpdF l (listOf [.int a ta, .int b tb].toArray n) news news')
    (h : wpAny M A (exec st env) (fun f s' => f = .next ∧ JoinOver g L x m₂ news' n many size s s') E s)
    (k : ∀ v t h tk a' b' ta tb, Fr g L h (fun y => if y = x then some (.int v t) else m₂ y) → News g L h (news' (listOf [.int a' ta, .int b' tb].toArray n)) → 0 ≤ a' → 0 ≤ b' → b' < 2147483647 → ((many < size ∧ 1 ≤ v ∧ v < 4294967296) ∨ (¬ many < size ∧ v = 0)) → wpN M A (execs rest env) Q E { s with heap := h, toks := tk }) :
    wpN M A (execs (st :: rest) env) Q E s := by
  refine wpN_execs_cons (wpN_of (wpAny_mono h (fun f s' hf => ?_) fun _ _ e => e))
  obtain ⟨rfl, v, t, h, tk, a', b', ta', tb', rfl, F', N', h1, h2, h3, h4⟩ := hf
  exact k v t h tk a' b' ta' tb' F' N' h1 h2 h3 h4
end
theorem offNU : True := by
  w_top off
  trivial
/-- the octets of a cell of any of the four kinds -/
def octL (kind child r size over : Int) (ls : List Int) : List Int :=
  if kind = 2 then fourV child ++ (pvM (size % 18446744073709551616) ++ (ls ++ if over = 0 then [] else fourV over))
  else if kind = 5 then fourV child ++ pvM (r % 18446744073709551616)
  else if kind = 10 then pvM (size % 18446744073709551616) ++ (ls ++ if over = 0 then [] else fourV over)
  else pvM (size % 18446744073709551616) ++ (pvM (r % 18446744073709551616) ++ (ls ++ if over = 0 then [] else fourV over))
theorem octets_u (w : World) (mean : ExcName → Option Value) (mg mb : Str → Option Value) (x d : Addr) (a b c e f : Tok) (kind child size over : Int) (rowid : Int) (t2 : Tok) (lb : Array UInt8) (ls : List Int) (t1 t3 t4 t5 tk : Tok) (hk : kind = 2 ∨ kind = 5 ∨ kind = 10 ∨ kind = 13) (lt : d < x) (hl : KBw.bInts lb = ls) (hz : ls.length ≤ 10000) (h0 : 0 ≤ child) (h01 : child < 4294967296) (h1 : size % 18446744073709551616 < 2097152) (h2 : rowid % 18446744073709551616 < 2097152 ∨ 562949953421312 ≤ rowid % 18446744073709551616) (h3 : 0 ≤ over) (h4 : over < 4294967296) :
    FnN w mean mg mb 5 158 [.ref x, .int kind tk] (cellL w x d a b c e f (.int child t1) (.int rowid t2) (.int size t3) (.bytes lb t4) (.int over t5)) (PY (octL kind child rowid size over ls)) := by
  rcases hk with rfl | rfl | rfl | rfl
  · exact octets2_spec _ _ _ _ _ _ _ _ _ _ _ _ _ _ _ _ _ _ _ _ _ _ lt hl hz h0 h01 h1 h3 h4
  · exact octets5_spec _ _ _ _ _ _ _ _ _ _ _ _ _ _ _ _ _ _ _ _ _ _ _ lt hl hz h0 h01 h2
  · exact octets10_spec _ _ _ _ _ _ _ _ _ _ _ _ _ _ _ _ _ _ _ _ _ _ lt hl hz h1 h3 h4
  · exact octets13_spec _ _ _ _ _ _ _ _ _ _ _ _ _ _ _ _ _ _ _ _ _ _ _ lt hl hz h1 h2 h3 h4
theorem octL_len {kind child r size over many : Int} {lo ls : List Int} (h : lo = octL kind child r size over ls) (hk : kind = 2 ∨ kind = 5 ∨ kind = 10 ∨ kind = 13) (h0 : 0 ≤ size) (h1 : size < 2097152) (hls : (ls.length : Int) = many) (hm : many ≤ 477) :
    (lo.length : Int) ≤ 600 ∧ 1 ≤ (lo.length : Int) ∧ (kind = 2 → (lo.length : Int) = 4 + pvN size + many + (if over = 0 then 0 else 4)) ∧ (kind = 10 → (lo.length : Int) = 0 + pvN size + many + (if over = 0 then 0 else 4)) ∧ (kind = 5 → (lo.length : Int) ≤ 13) := by
  have n1 := pvN_in size
  have n2 := pvN_in r
  have o1 : 0 ≤ (if over = 0 then (0 : Int) else 4) ∧ (if over = 0 then (0 : Int) else 4) ≤ 4 := by split <;> decide
  rcases hk with rfl | rfl | rfl | rfl
  · have := lo_len2 (h : lo = fourV child ++ _) h0 h1
    refine ⟨?_, ?_, fun _ => ?_, fun h => absurd h (by decide), fun h => absurd h (by decide)⟩ <;> omega
  · have := len_out5 (lo_len5 (h : lo = fourV child ++ pvM _))
    refine ⟨?_, ?_, fun h => absurd h (by decide), fun h => absurd h (by decide), fun _ => ?_⟩ <;> omega
  · have := lo_len10 (h : lo = pvM _ ++ _) h0 h1
    refine ⟨?_, ?_, fun h => absurd h (by decide), fun _ => ?_, fun h => absurd h (by decide)⟩ <;> omega
  · have := lo_len13 (h : lo = pvM _ ++ (pvM _ ++ _)) h0 h1
    have n3 := pvN_in (r % 18446744073709551616)
    refine ⟨?_, ?_, fun h => absurd h (by decide), fun h => absurd h (by decide), fun h => absurd h (by decide)⟩ <;> omega
theorem rc_gen (w : World) (mean : ExcName → Option Value) (mg mb : Str → Option Value) (B : Array UInt8) (tB ti tk tu : Tok) (la lo lb ls A R T : List Int) (lb0 : Array UInt8) (kind child rowid size many over usable : Int) (hB : KBw.bInts B = (la ++ lo) ++ lb) (hlo : lo = A ++ (pvM size ++ (R ++ (ls ++ T)))) (hl0 : KBw.bInts lb0 = ls)
    (hk : kind = 2 ∨ kind = 10 ∨ kind = 13) (hA2 : kind = 2 → A = fourV child) (hA : kind = 10 ∨ kind = 13 → A = []) (hR : kind = 2 ∨ kind = 10 → R = []) (hR13 : kind = 13 → R = pvM (rowid % 18446744073709551616))
    (hu : 64 ≤ usable) (hu2 : usable ≤ 512) (hs : 0 ≤ size) (hs1 : size < 2097152) (hc : 0 ≤ child) (hc1 : child < 4294967296) (hr : rowid % 18446744073709551616 < 2097152 ∨ 562949953421312 ≤ rowid % 18446744073709551616) (hr2 : signedV (rowid % 18446744073709551616) = rowid)
    (hmany : many = manyV kind usable size) (hm0 : 0 ≤ many) (hls : (ls.length : Int) = many) (ho : (many < size ∧ 1 ≤ over ∧ over < 4294967296 ∧ T = fourV over) ∨ (¬ many < size ∧ over = 0 ∧ T = [])) (hz : ((la ++ lo) ++ lb).length ≤ 100000) :
    FnR w mean mg mb 4 172 [.bytes B tB, .int (la.length : Int) ti, .int kind tk, .int usable tu] [] (PRU w kind child rowid size over ((la.length : Int) + (lo.length : Int)) lb0) := by
  have hp := pvM_len (m := size)
  have hn := pvN_in size
  have hlen : (((la ++ lo) ++ lb).length : Int) = (la.length : Int) + A.length + pvN size + R.length + ls.length + T.length + lb.length := by
    rw [hlo]; simp only [List.length_append]; omega
  have hll : (lo.length : Int) = (A.length : Int) + pvN size + R.length + ls.length + T.length := by
    rw [hlo]; simp only [List.length_append]; omega
  have h5 : kind ≠ 5 := by omega
  refine read_cell_u w mean mg mb B tB ((la ++ lo) ++ lb) la.length kind usable child rowid size over many ((la.length : Int) + lo.length) ((la.length : Int) + A.length) ((la.length : Int) + A.length + pvN size + R.length) (pvN size) (rowid % 18446744073709551616) R.length ti tk tu ls lb0 hB (by omega) hz hu hu2 (by omega) ?q1 ?q2 (fun h => absurd h h5) ?qs ?q13 ?qn ?qo
  case q1 =>
    intro h
    have e := hA2 (by omega)
    subst e
    exact ⟨by rw [hlen, fourV_len]; omega, rfl, four_of (pre := la) (post := (pvM size ++ (R ++ (ls ++ T))) ++ lb) (by rw [hlo]; simp only [List.append_assoc]) rfl hc hc1⟩
  case q2 =>
    intro h
    rw [hA h]
    exact Int.add_zero _
  case qs =>
    intro _
    refine ⟨dig_at (pre := la ++ A) (post := R ++ (ls ++ (T ++ lb))) (by rw [hlo]; simp only [List.append_assoc]) (by rw [List.length_append]; omega) hs (by omega) (.inl hs1), by omega, by omega, rfl, hmany, hm0, by omega, ?_, hl0⟩
    exact cut_of (pre := la ++ (A ++ (pvM size ++ R))) (post := T ++ lb) (by rw [hlo]; simp only [List.append_assoc]) (by simp only [List.length_append]; omega) (by omega)
  case q13 =>
    intro h
    have e := hR13 h
    refine ⟨?_, hr2⟩
    have e2 : (R.length : Int) = pvN (rowid % 18446744073709551616) := by rw [e, pvM_len]
    rw [e2]
    exact dig_at (pre := la ++ (A ++ pvM size)) (post := ls ++ (T ++ lb)) (by rw [hlo, e]; simp only [List.append_assoc]) (by simp only [List.length_append]; omega) (by omega) (by omega) hr
  case qn =>
    intro h
    rw [hR h]
    rfl
  case qo =>
    intro _
    rcases ho with ⟨o1, o2, o3, o4⟩ | ⟨o1, o2, o3⟩
    · have hT : (T.length : Int) = 4 := by rw [o4]; rfl
      exact .inl ⟨o1, by omega, four_of (pre := la ++ (A ++ (pvM size ++ (R ++ ls)))) (post := lb) (by rw [hlo, o4]; simp only [List.append_assoc]) (by simp only [List.length_append]; omega) (by omega) o3, by omega⟩
    · have hT : (T.length : Int) = 0 := by rw [o3]; rfl
      exact .inr ⟨o1, o2, by omega⟩
theorem rc_five (w : World) (mean : ExcName → Option Value) (mg mb : Str → Option Value) (B : Array UInt8) (tB ti tk tu : Tok) (la lo lb : List Int) (lb0 : Array UInt8) (child rowid size over usable : Int) (hB : KBw.bInts B = (la ++ lo) ++ lb) (hlo : lo = fourV child ++ pvM (rowid % 18446744073709551616))
    (hu : 64 ≤ usable) (hu2 : usable ≤ 512) (hc : 0 ≤ child) (hc1 : child < 4294967296) (hr : rowid % 18446744073709551616 < 2097152 ∨ 562949953421312 ≤ rowid % 18446744073709551616) (hr2 : signedV (rowid % 18446744073709551616) = rowid) (hz : ((la ++ lo) ++ lb).length ≤ 100000) :
    FnR w mean mg mb 4 172 [.bytes B tB, .int (la.length : Int) ti, .int 5 tk, .int usable tu] [] (PRU w 5 child rowid size over ((la.length : Int) + (lo.length : Int)) lb0) := by
  have hp := pvM_len (m := rowid % 18446744073709551616)
  have hn := pvN_in (rowid % 18446744073709551616)
  have hll : (lo.length : Int) = 4 + pvN (rowid % 18446744073709551616) := by
    rw [hlo, List.length_append]; have := fourV_len child; omega
  refine read_cell_u w mean mg mb B tB ((la ++ lo) ++ lb) la.length 5 usable child rowid size over 0 ((la.length : Int) + lo.length) ((la.length : Int) + 4) 0 (pvN (rowid % 18446744073709551616)) (rowid % 18446744073709551616) 0 ti tk tu [] lb0 hB (by omega) hz hu hu2 (by decide) ?q1 (fun h => absurd h (by decide)) ?q5 (fun h => absurd rfl h) (fun h => absurd h (by decide)) (fun h => absurd h (by decide)) (fun h => absurd rfl h)
  case q1 =>
    intro _
    exact ⟨by simp only [List.length_append] at hll ⊢; omega, rfl, four_of (pre := la) (post := pvM (rowid % 18446744073709551616) ++ lb) (by rw [hlo]; simp only [List.append_assoc]) rfl hc hc1⟩
  case q5 =>
    intro _
    exact ⟨dig_at (pre := la ++ fourV child) (post := lb) (by rw [hlo]; simp only [List.append_assoc]) (by rw [List.length_append]; rfl) (by omega) (by omega) hr, hr2, by omega⟩
theorem rc_u (w : World) (mean : ExcName → Option Value) (mg mb : Str → Option Value) (B : Array UInt8) (tB ti tk tu : Tok) (la lo lb ls : List Int) (lb0 : Array UInt8) (kind child rowid size many over usable : Int) (hB : KBw.bInts B = (la ++ lo) ++ lb) (hlo : lo = octL kind child rowid size over ls) (hl0 : KBw.bInts lb0 = ls)
    (hk : kind = 2 ∨ kind = 5 ∨ kind = 10 ∨ kind = 13) (hu : usable = 64 ∨ usable = 128 ∨ usable = 512) (hs : 0 ≤ size) (hs1 : size < 2097152) (hc : 0 ≤ child) (hc1 : child < 4294967296) (hr : rowid % 18446744073709551616 < 2097152 ∨ 562949953421312 ≤ rowid % 18446744073709551616) (hr2 : signedV (rowid % 18446744073709551616) = rowid)
    (hmany : many = manyV kind usable size) (hm0 : 0 ≤ many) (hm1 : many ≤ 477) (hls : (ls.length : Int) = many) (ho : (many < size ∧ 1 ≤ over ∧ over < 4294967296) ∨ (¬ many < size ∧ over = 0)) (hla : la.length ≤ 10) (hlb : lb.length ≤ 10) :
    FnR w mean mg mb 4 172 [.bytes B tB, .int (la.length : Int) ti, .int kind tk, .int usable tu] [] (PRU w kind child rowid size over ((la.length : Int) + (lo.length : Int)) lb0) := by
  have hu1 : 64 ≤ usable := by omega
  have hu2 : usable ≤ 512 := by omega
  have hz : ((la ++ lo) ++ lb).length ≤ 100000 := by
    have := (octL_len hlo hk hs hs1 hls hm1).1
    simp only [List.length_append]
    omega
  have ho' : (many < size ∧ 1 ≤ over ∧ over < 4294967296 ∧ (if over = 0 then [] else fourV over) = fourV over) ∨ (¬ many < size ∧ over = 0 ∧ (if over = 0 then [] else fourV over) = []) := by
    rcases ho with ⟨o1, o2, o3⟩ | ⟨o1, o2⟩
    · exact .inl ⟨o1, o2, o3, if_neg (by omega)⟩
    · exact .inr ⟨o1, o2, if_pos o2⟩
  have es : size % 18446744073709551616 = size := by omega
  unfold octL at hlo
  rw [es] at hlo
  rcases hk with rfl | rfl | rfl | rfl
  · exact rc_gen _ _ _ _ B tB ti tk tu la lo lb ls (fourV child) [] _ lb0 2 child rowid size many over usable hB hlo hl0 (.inl rfl) (fun _ => rfl) (fun h => absurd h (by decide)) (fun _ => rfl) (fun h => absurd h (by decide)) hu1 hu2 hs hs1 hc hc1 hr hr2 hmany hm0 hls ho' hz
  · exact rc_five _ _ _ _ B tB ti tk tu la lo lb lb0 child rowid size over usable hB hlo hu1 hu2 hc hc1 hr hr2 hz
  · exact rc_gen _ _ _ _ B tB ti tk tu la lo lb ls [] [] _ lb0 10 child rowid size many over usable hB hlo hl0 (.inr (.inl rfl)) (fun h => absurd h (by decide)) (fun _ => rfl) (fun _ => rfl) (fun h => absurd h (by decide)) hu1 hu2 hs hs1 hc hc1 hr hr2 hmany hm0 hls ho' hz
  · exact rc_gen _ _ _ _ B tB ti tk tu la lo lb ls [] (pvM (rowid % 18446744073709551616)) _ lb0 13 child rowid size many over usable hB hlo hl0 (.inr (.inr rfl)) (fun h => absurd h (by decide)) (fun _ => rfl) (fun h => absurd h (by decide)) (fun _ => rfl) hu1 hu2 hs hs1 hc hc1 hr hr2 hmany hm0 hls ho' hz
section
variable {w : World} {mean : ExcName → Option Value} {mg mb : Str → Option Value} {dk : Nat} {f : Addr} {vs : List Value} {own : Led}
    {dp un : Nat} {gd : Option (List Code)} {cn : Str} {cs : Scope} {a : Addr} {ccd : Value} {cl : List (Str × Addr)} {outer : List Env} {A₀ : Around} {base h₀ : Heap} {L : Addr} {m : Str → Option Value} {s : Shared} {Q E : Value → Shared → Prop} {news : Led}
theorem fnPRU_use {kind child rowid size over at' : Int} {lb0 : Array UInt8} (H : FnR w mean mg mb dk f vs own (PRU w kind child rowid size over at' lb0))
    (B : Below A₀ base outer h₀) (F : Fr h₀ L s.heap m) (X : (hd.heap_39 w.params).In h₀) (N : News h₀ L s.heap news) (T : Top hd.view_39 (looseW hd.view_39 [Str.ofString "WORD"]) mean mg mb h₀) (hk : cs.kind = .function) (hd' : dp + dk < recursionLimit) (hu : un + 8 * dk < cLine) (sub : ∀ p ∈ own, p ∈ news)
    (k : ∀ T x d a b c e f ta tc td te u r lb c' s' o' h' tk', (kind = 2 ∨ kind = 5 → c' = child) → (kind = 5 ∨ kind = 13 → ∃ t, r = .int rowid t) → (kind ≠ 5 → s' = size ∧ o' = over ∧ lb = lb0) → Fr h₀ L h' m → News h₀ L h' ((T, { cls := .type "tuple", data := .seq #[.ref x, .int at' u] }) :: (x, instObj 161 d) :: (d, dictOf [⟨PyData.keyHash w.params (Str.ofString "child"), .str (Str.ofString "child") a, .int c' ta⟩, ⟨PyData.keyHash w.params (Str.ofString "rowid"), .str (Str.ofString "rowid") b, r⟩, ⟨PyData.keyHash w.params (Str.ofString "size"), .str (Str.ofString "size") c, .int s' tc⟩, ⟨PyData.keyHash w.params (Str.ofString "local"), .str (Str.ofString "local") e, .bytes lb td⟩, ⟨PyData.keyHash w.params (Str.ofString "overflow"), .str (Str.ofString "overflow") f, .int o' te⟩] 5) :: news) → Q (.ref T) { s with heap := h', toks := tk' }) :
    wpAny (model PySem.Challenge.rw_nt0096_01.row.prog w) (ktrTop dp un gd cn cs L a ccd cl outer) (call (.ref f) vs) Q E s :=
  fnR_use H B F X N T hk hd' hu sub fun v new h' tk' hp F' N' _ => by
    obtain ⟨T, x, d, a, b, c, e, f, ta, tc, td, te, u, r, lb, c', s', o', p', rfl, rfl, rfl, h1, h2, h3⟩ := hp
    exact k T x d a b c e f ta tc td te u r lb c' s' o' h' tk' h1 h2 h3 F' N'
end
theorem offN9 : True := by
  w_top off
  trivial
local macro_rules | `(tactic| walk_at "call ref") => `(tactic| (k_here; (with_reducible show wpAny _ _ (call (Value.ref 193) _) _ _ _); k_dflt (refine' fnK_use (law_size_spec _ _ _ _ _ _ _ _ _ _ _ _ ?j1 ?j2 ?j3 ?j4 ?j5) ?k1 ?k2 ?k3 ?k4 ?k5 ?kK ?kd ?ku ?kU ?_; walk_at "P1"; (case kU => k_updF); (case j1 => walk_at "om"); (case j2 => walk_at "om"); (case j3 => walk_at "om"); (case j4 => walk_at "om"); (case j5 => walk_at "om")); intro d9 t9 a9 b9 ta9 tb9 h9 tk9 lo9 hi9 a09 b09 b19 F9 N9; (try dsimp only at N9); (try k_fold)))
local macro_rules | `(tactic| walk_at "call ref") => `(tactic| (k_here; (with_reducible show wpAny _ _ (call (Value.ref 200) _) _ _ _); k_dflt (refine' fnB_use (local_right_spec _ _ _ _ _ _ _ _ _ _ ?j1 ?j2) ?k1 ?k2 ?k3 ?k4 ?k5 ?kK ?kd ?ku ?sub ?_; walk_at "P1"; (case sub => exact fun _ h => nomatch h); (case j1 => assumption); (case j2 => walk_at "om")); intro h9 tk9 F9 N9; (try dsimp only); (try k_fold)))
local macro_rules | `(tactic| walk_at "call ref") => `(tactic| (k_here; (with_reducible show wpAny _ _ (call (Value.ref 130) _) _ _ _); k_dflt (refine' many_use ?m1 ?m2 ?m3 (local_size_spec _ _ _ _ _ _ _ _ _ _ ?j1 ?j2) ?k1 ?k2 ?k3 ?k4 ?k5 ?kK ?kd ?ku ?sub ?_; walk_at "P1"; (case sub => exact fun _ h => nomatch h); (case j1 => walk_at "om"); (case j2 => walk_at "om"); (case m1 => walk_at "om"); (case m2 => walk_at "om"); (case m3 => walk_at "om")); intro x9 t9 h9 tk9 ex9 ea9 eb9 ec9 F9 N9; (try dsimp only); (try k_fold)))
local macro_rules | `(tactic| walk_at "call ref") => `(tactic| (k_here; (with_reducible show wpAny _ _ (call (Value.ref 161) _) _ _ _); k_dflt (refine' fnC2_use (cell_spec _ _ _ _ _ _ _ _ _ _ _ _ _) ?k1 ?k2 ?k3 ?k4 ?k5 ?kK ?kd ?ku ?sub ?_; walk_at "P1"; (case sub => exact fun _ h => nomatch h)); intro x9 d9 a9 b9 c9 e9 f9 h9 tk9 lt9 F9 N9 nx9 nd9; (try simp only [List.forall_mem_cons, List.not_mem_nil, false_implies, implies_true, and_true] at nx9 nd9); (try dsimp only); (try k_fold)))
local macro_rules | `(tactic| walk_at "binaryOp Mult ref int") => `(tactic| (k_here; (with_reducible show wpAny _ _ (binaryOp Operator.Mult (Value.ref _) (Value.int _ _)) _ _ _); k_dflt (refine' mul1K ?k1 ?k2 ?k3 ?k4 ?k5 ?_; (case k1 => k_asm); (case k2 => k_asm); (case k3 => is_list); (case k4 => omega); (case k5 => omega); k_whole); intro D9 h9 F9 N9 l9; (try k_lt l9); (try k_sweep)))
local macro_rules | `(tactic| walk_at "call type:bytes") => `(tactic| (k_here; (with_reducible show wpAny _ _ (call (Value.type "bytes") [Value.ref _]) _ _ _); k_dflt (refine' repK ?k0 ?k1 ?k2 ?k3 ?k4 ?k5 ?k6 ?k7 ?_; (case k0 => rfl); (case k1 => k_asm); (case k2 => k_asm); (case k3 => k_mem); (case k4 => omega); (case k5 => omega); (case k6 => omega); (case k7 => omega); k_whole); intro b9 h9 t9 k9 ls9 F9 N9 e9 n9))
local macro_rules | `(tactic| walk_at "call type:bytes") => `(tactic| (k_here; (with_reducible show wpAny _ _ (call (Value.type "bytes") [Value.int _ _]) _ _ _); refine zeroK (by omega) (by omega) ?_; intro b9 t9 k9 ls9 e9 n9))
local macro_rules | `(tactic| walk_at "binaryOp Pow int int") => `(tactic| (k_here; (with_reducible first | refine r_pow56 ?_ | refine r_pow31 ?_ | refine r_pow63 ?_)))
local macro_rules | `(tactic| walk_at "eval Call") => `(tactic| ((with_reducible show wpAny _ _ (eval (Expr.Call (Expr.Name _ _) _ [] _) _) _ _ _); refine PyProof.Rows.Call_ ?_))
local macro_rules | `(tactic| walk_at "call ref") => `(tactic| (k_here; (with_reducible show wpAny _ _ (call (Value.ref 172) _) _ _ _); k_dflt (refine' fnPRU_use (rc_u _ _ _ _ _ _ _ _ _ _ _ _ _ _ _ _ _ _ _ _ _ ?jB ?j1 ?j2 ?j3 ?j4 ?j5 ?j6 ?j7 ?j8 ?j9 ?jr ?j10 ?j11 ?j12 ?j13 ?j14 ?j15 ?j16) ?k1 ?k2 ?k3 ?k4 ?k5 ?kK ?kd ?ku ?sub ?_; walk_at "P1"; (case sub => exact fun _ h => nomatch h); (case jB => kba_ints); (case j1 => assumption); (case j2 => assumption); (case j3 => assumption); (case j4 => assumption); (case j5 => assumption); (case j6 => walk_at "om"); (case j7 => walk_at "om"); (case j8 => walk_at "om"); (case j9 => assumption); (case jr => assumption); (case j10 => assumption); (case j11 => assumption); (case j12 => assumption); (case j13 => assumption); (case j14 => assumption); (case j15 => walk_at "om"); (case j16 => walk_at "om")); intro T9 x9 d9 a9 b9 c9 e9 f9 ta9 tc9 td9 te9 u9 r9 lb9 c9' s9' o9' h9 tk9 p1 p2 p3 F9 N9; (try k_fold)))
local macro_rules | `(tactic| walk_at "compareOp NotEq ref ref") => `(tactic| (k_here; (with_reducible show wpAny _ _ (compareOp CmpOp.NotEq (Value.ref _) (Value.ref _)) _ _ _); k_dflt (refine' cell_same ?k1 ?k2 ?k3 ?k4 ?_; (case k1 => k_asm); (case k2 => k_mem); (case k3 => k_mem); (case k4 => first | ktr_units | units_room); k_whole)))
local macro_rules | `(tactic| walk_at "compareOp NotEq int int") => `(tactic| (refine ne_same (by first | rfl | omega) ?_))
theorem right_spec (w : World) (mean : ExcName → Option Value) (mg mb : Str → Option Value) (l : Addr) (a b kind usable : Int) (ta tb tk tu : Tok) (n : Nat) (ha : 0 ≤ a) (hb : 0 ≤ b) (hb2 : b < 2147483647) (hk : kind = 2 ∨ kind = 5 ∨ kind = 10 ∨ kind = 13) (hu : usable = 64 ∨ usable = 128 ∨ usable = 512) :
    FnM w mean mg mb 6 207 [.ref l, .int kind tk, .int usable tu] l (listOf [.int a ta, .int b tb].toArray n) (PSrc n) := by
  unfold FnM
  intros
  rename_i hN₀ _ _ _ _ hret
  refine wpN_call ?_
  k_dflt (refine' enter_keepN ?k1 ?k2 ?k3 ?k4 ?k5 ?kA ?kF ?kK ?k6 ?k7 ?k8 ?k9 ?kB ?_ ?c2 ?c3 ?c4 ?c5; (case kA => exact rfl); (case kF => exact rfl); (case kK => assumption); (case k1 => k_asm); (case k2 => k_asm); (case k3 => k_asm); (case k4 => k_asm); (case k5 => k_asm); (case k6 => k_is); (case k7 => k_is); (case k8 => ktr_room); (case k9 => exact BindsTo.of_eq rfl); (case c5 => decide); (case kB => exact locs rfl); (case c2 => exact rfl); (case c3 => exact rfl); (case c4 => exact rfl); k_whole; intro g' L' h' FG' F' N' B' X' T' gk lt'; (try dsimp only); (try k_lt lt'); (try k_lift B'); (try k_fold))
  (refine wpN_execs_cons (wpN_of ?_); k_steps; (try dsimp only))
  (refine wpN_execs_cons (wpN_of ?_); k_steps; (try dsimp only))
  (refine wpN_execs_cons (wpN_Assign_Name (wpN_of ?_)); refine PyProof.Rows.Call_ ?_; k_steps; (try dsimp only))
  (refine wpN_execs_cons (wpN_of ?_); k_steps; (try dsimp only))
  (refine wpN_execs_cons (wpN_of ?_); k_steps; (try dsimp only))
  (k_dflt (refine' n_joinOver (x := Str.ofString "overflow") (l := l) ?qm ?qF ?qN ?qU ?qh ?qk; (case qm => assumption); (case qF => k_asm); (case qN => k_asm); (case qU => k_updF)))
  case qh =>
    k_steps
    all_goals first
      | exact ⟨_, _, _, _, _, _, _, _, rfl, fr_over (by k_asm), by k_asm, by assumption, by assumption, by assumption, by omega⟩
      | exact ⟨_, _, _, _, _, _, _, _, rfl, by k_asm, by k_asm, by assumption, by assumption, by assumption, by omega⟩
      | exact ⟨rfl, _, _, _, _, _, _, _, _, rfl, fr_over (by k_asm), by k_asm, by assumption, by assumption, by assumption, by omega⟩
      | exact ⟨rfl, _, _, _, _, _, _, _, _, rfl, by k_asm, by k_asm, by assumption, by assumption, by assumption, by omega⟩
  intro v5 t5 h5 tk5 a5 b5 ta5 tb5 F5 N5 a50 b50 b51 hv5
  (try dsimp only)
  (try dsimp only at N5)
  (refine wpN_execs_cons (wpN_of ?_); k_steps; (try dsimp only))
  (refine wpN_execs_cons (wpN_of ?_); k_steps; (try dsimp only))
  (refine wpN_execs_cons (wpN_of ?_); k_steps; (try dsimp only))
  rename News _ _ _ _ => N6
  replace N6 := led_one (D := l) N6 (by k_mem)
  rename (_ : Int) < 11 => hd11
  have hrow := rowids_in (l := [0, 1, 127, 128, 16383, 16384, -1, 9223372036854775808 - 1, -9223372036854775808, 72057594037927936, 72057594037927936 - 1]) (by decide) (by assumption) hd11
  obtain ⟨hr1, hr2⟩ := hrow
  rename Fr _ _ _ _ => F6
  generalize List.getD [0, 1, 127, 128, 16383, 16384, -1, 9223372036854775808 - 1, -9223372036854775808, 72057594037927936, 72057594037927936 - 1] _ (0 : Int) = rowid at F6 hr1 hr2 ⊢
  refine wpN_execs_cons (wpN_Assign_Name (wpN_methodCall (pl := _) ?_))
  k_steps
  refine wpN_callWithK (K := hd.heap_39 w.params) (by k_is) ?_
  k_steps
  (try dsimp only)
  (k_dflt (refine' fnNY_use (octets_u _ _ _ _ _ _ _ _ _ _ _ _ _ _ _ _ _ _ _ _ _ _ _ _ ?q0 ?q1 ?q2 ?q3 ?q4 ?q5 ?q6 ?q7 ?q8 ?q9) ?k1 ?k2 ?k3 ?k4 ?k5 ?kK ?kd ?ku ?sub ?_; walk_at "P1"; (case sub => exact List.forall_mem_cons.mpr ⟨by k_mem, List.forall_mem_cons.mpr ⟨by k_mem, fun _ h => nomatch h⟩⟩); (case q0 => assumption); (case q1 => walk_at "om"); (case q2 => assumption); (case q3 => walk_at "om"); (case q4 => walk_at "om"); (case q5 => walk_at "om"); (case q6 => walk_at "om"); (case q7 => assumption); (case q8 => walk_at "om"); (case q9 => walk_at "om")); intro b9 t9 h9 tk9 e9 F9 N9; (try dsimp only); (try k_fold))
  obtain ⟨lo, hlo⟩ : ∃ lo, lo = KBw.bInts b9 := ⟨_, rfl⟩
  rw [← hlo] at e9
  have hb9 : KBw.bInts b9 = lo := hlo.symm
  clear hlo
  have hlen := octL_len e9 hk (by assumption) (by omega) (by assumption) (by assumption)
  obtain ⟨n1, n2, n3, n4, n5⟩ := hlen
  k_steps
  rename News _ _ _ _ => N7
  replace N7 := led_one (D := l) N7 (by k_mem)
  (refine wpN_execs_cons (wpN_of ?_); k_steps; (try dsimp only))
  rename News _ _ _ _ => N8
  replace N8 := led_one (D := l) N8 (by k_mem)
  (refine wpN_execs_cons (wpN_of ?_); k_steps; (try dsimp only))
  (refine wpN_execs_cons (wpN_of ?_); k_steps; (try dsimp only))
  rename (kind = 2 ∨ kind = 5 → _) => p1
  rename (kind = 5 ∨ kind = 13 → _) => p2
  rename (kind ≠ 5 → _) => p3
  refine wpN_of ?_
  clear e9
  rcases hk with rfl | rfl | rfl | rfl
  · have q1 := p1 (by decide)
    subst q1
    obtain ⟨q3, q4, q5⟩ := p3 (by decide)
    subst q3 q4 q5
    have hroom := room_of (by assumption) (n3 rfl) (by decide) hu (by assumption) (by decide) 0 (by decide)
    clear p1 p2 p3 n3 n4 n5
    k_steps
    all_goals refine retU hret gk (by k_asm) (by k_asm) (by assumption) (by k_mem) ⟨_, _, _, _, ?_, by assumption, by assumption, by assumption, rfl⟩
    all_goals first | rfl | exact congrArg Value.bool (decide_eq_true (by first | assumption | omega | (rename ¬ (_ ≤ usable - 12) => hx; simp only [show ((2 : Int) == 10) = false from rfl, Bool.false_eq_true, if_false] at hx; omega) | (rename ¬ (_ ≤ usable - 12) => hx; simp at hx; omega)))
  · have q1 := p1 (by decide)
    subst q1
    obtain ⟨tr, q2⟩ := p2 (by decide)
    subst q2
    have n6 := n5 rfl
    clear p1 p2 p3 n3 n4 n5
    k_steps
    all_goals refine retU hret gk (by k_asm) (by k_asm) (by assumption) (by k_mem) ⟨_, _, _, _, ?_, by assumption, by assumption, by assumption, rfl⟩
    all_goals first | rfl | exact congrArg Value.bool (decide_eq_true (by first | assumption | omega | (rename ¬ (_ ≤ usable - 12) => hx; simp only [show ((2 : Int) == 10) = false from rfl, Bool.false_eq_true, if_false] at hx; omega) | (rename ¬ (_ ≤ usable - 12) => hx; simp at hx; omega)))
  · obtain ⟨q3, q4, q5⟩ := p3 (by decide)
    subst q3 q4 q5
    have hroom := room_of (by assumption) (n4 rfl) (by decide) hu (by assumption) (by decide) 1 (by decide)
    clear p1 p2 p3 n3 n4 n5
    k_steps
    all_goals refine retU hret gk (by k_asm) (by k_asm) (by assumption) (by k_mem) ⟨_, _, _, _, ?_, by assumption, by assumption, by assumption, rfl⟩
    all_goals first | rfl | exact congrArg Value.bool (decide_eq_true (by first | assumption | omega | (rename ¬ (_ ≤ usable - 12) => hx; simp only [show ((2 : Int) == 10) = false from rfl, Bool.false_eq_true, if_false] at hx; omega) | (rename ¬ (_ ≤ usable - 12) => hx; simp at hx; omega)))
  · obtain ⟨tr, q2⟩ := p2 (by decide)
    subst q2
    obtain ⟨q3, q4, q5⟩ := p3 (by decide)
    subst q3 q4 q5
    clear p1 p2 p3 n3 n4 n5
    k_steps
    all_goals refine retU hret gk (by k_asm) (by k_asm) (by assumption) (by k_mem) ⟨_, _, _, _, ?_, by assumption, by assumption, by assumption, rfl⟩
    all_goals first | rfl | exact congrArg Value.bool (decide_eq_true (by first | assumption | omega | (rename ¬ (_ ≤ usable - 12) => hx; simp only [show ((2 : Int) == 10) = false from rfl, Bool.false_eq_true, if_false] at hx; omega) | (rename ¬ (_ ≤ usable - 12) => hx; simp at hx; omega)))
theorem offN10 : True := by
  w_top off
  trivial
section
variable {prog : Program} {w : World} {A : Around} {R : Result → Shared → Prop} {s : Shared}
open PySem.Calls
/-- the entry into the law from the caller -/
theorem call_fullN {name : Str} {params : Arguments} {body : List Stmt} {scope : Scope} {dV kV pm cd doc : Value} {a : Addr} {o : Obj} {args : Args} {binds : List (Str × Value)}
    (hroom : A.depth < recursionLimit) (ho : s.heap.get? a = some o) (hdata : o.data = .func { docDef name params body scope pm cd doc with defaults := dV, kwdefaults := kV }) (hlim : s.heap.NoLimit) (hcd : s.heap.CodeRec cd name)
    (hbind : BindsTo s { docDef name params body scope pm cd doc with defaults := dV, kwdefaults := kV } args binds) (hloc : ∀ x ∈ binds, scope.names.lookup x.1 = some .local)
    (h : ∀ h₁, Fr s.heap s.heap.objs.size h₁ (fun x => binds.reverse.lookup x) →
      wpN (model prog w) (A.deeper (envOf name scope s.heap.objs.size a cd)) (execs body (envOf name scope s.heap.objs.size a cd))
        (fun f s' => R (.ok (.ret (match f with | .ret v => v | _ => .none))) s')
        (fun e s' => wpAny (model prog w) (A.deeper (envOf name scope s.heap.objs.size a cd)) (leaving (envOf name scope s.heap.objs.size a cd) e) (fun _ s'' => R (.error e) s'') (fun e' s'' => R (.error e') s'') s')
        { s with heap := h₁, toks := s.toks + binds.length })
    (hco : scope.isCoroutine = false) (hgen : scope.isGenerator = false) (hk : scope.kind = .function) (hcell : ∀ x ∈ scope.names, x.2 ≠ .cell) : codeN (model prog w) A (.call (.ref a) args) R s :=
  codeN_def hroom ho hdata hlim hcd rfl hbind hcell hloc (fun h₁ hns hkeep => h h₁ ⟨hns, hkeep, Nat.le_refl _⟩) hco hgen hk
end
theorem enter_callN {M : Model} {A : Around} {s : Shared} {f : Value} {pos : List Value} {c : ClaimW} {cl : Str → Option Addr} {mean : ExcName → Option Value} {args : List WData} {s₁ : Shared} (h : codeN M A (.call f ⟨pos, []⟩) (GoodW c cl mean args s₁) s) :
    wpN M A (PySem.call f pos) (fun v s' => GoodWG c cl mean args s₁ (.ok (.ret v)) s') (fun e s' => GoodWG c cl mean args s₁ (.error e) s') s :=
  wpN_call (codeN_mono h fun res s' g0 => by
    have g := GoodW.toG g0
    rcases g.1 with ⟨v, _, _, rfl, _⟩ | ⟨e, _, _, rfl, _⟩ <;> exact g)
section
variable {M : Model} {A : Around} {E : Value → Shared → Prop} {s : Shared} {env : Env} {Q : Flow → Shared → Prop} {st : Stmt} {rest : List Stmt} {g : Heap} {L : Addr} {x : Str} {m₂ : Str → Option Value}
def JoinSrc (g : Heap) (L : Addr) (x : Str) (m₂ : Str → Option Value) (s s' : Shared) : Prop :=
  ∃ D a b ta tb n h tk, s' = { s with heap := h, toks := tk } ∧ Fr g L h (fun y => if y = x then some (.ref D) else m₂ y) ∧ News g L h [(D, listOf [.int a ta, .int b tb].toArray n)] ∧ 0 ≤ a ∧ 0 ≤ b ∧ b < 2147483647
/-- the branches of _law_pool meet: a list of two ints in their bounds -/
theorem n_joinSrc (_F : Fr g L s.heap m₂) (h : wpAny M A (exec st env) (fun f s' => f = .next ∧ JoinSrc g L x m₂ s s') E s)
    (k : ∀ D a b ta tb n h tk, Fr g L h (fun y => if y = x then some (.ref D) else m₂ y) → News g L h [(D, listOf [.int a ta, .int b tb].toArray n)] → 0 ≤ a → 0 ≤ b → b < 2147483647 → wpN M A (execs rest env) Q E { s with heap := h, toks := tk }) :
    wpN M A (execs (st :: rest) env) Q E s := by
  refine wpN_execs_cons (wpN_of (wpAny_mono h (fun f s' hf => ?_) fun _ _ e => e))
  obtain ⟨rfl, D, a, b, ta, tb, n, h, tk, rfl, F', N', h1, h2, h3⟩ := hf
  exact k D a b ta tb n h tk F' N' h1 h2 h3
theorem src_last {m : Str → Option Value} {y : Str} {v : Option Value} (h : m y = v) : m = fun z => if z = y then v else m z := by
  funext z
  by_cases hz : z = y
  · rw [if_pos hz, hz, h]
  · rw [if_neg hz]
theorem menu_usable {d : Int} (h0 : 0 ≤ d) (h1 : d < 3) : [64, 128, 512].getD d.toNat 0 = (64 : Int) ∨ [64, 128, 512].getD d.toNat 0 = (128 : Int) ∨ [64, 128, 512].getD d.toNat 0 = (512 : Int) := by
  rcases (show d = 0 ∨ d = 1 ∨ d = 2 by omega) with rfl | rfl | rfl <;> decide
theorem menu_kind {d : Int} (h0 : 0 ≤ d) (h1 : d < 6) : [2, 5, 10, 13, 13, 2].getD d.toNat 0 = (2 : Int) ∨ [2, 5, 10, 13, 13, 2].getD d.toNat 0 = (5 : Int) ∨ [2, 5, 10, 13, 13, 2].getD d.toNat 0 = (10 : Int) ∨ [2, 5, 10, 13, 13, 2].getD d.toNat 0 = (13 : Int) := by
  rcases (show d = 0 ∨ d = 1 ∨ d = 2 ∨ d = 3 ∨ d = 4 ∨ d = 5 by omega) with rfl | rfl | rfl | rfl | rfl | rfl <;> decide
end
section
variable {w : World} {mean : ExcName → Option Value} {mg mb : Str → Option Value} {dk : Nat} {f : Addr} {vs : List Value}
    {dp un : Nat} {cn : Str} {cs : Scope} {a : Addr} {ccd : Value} {cl : List (Str × Addr)} {outer : List Env} {A₀ : Around} {base h₀ : Heap} {L : Addr} {m : Str → Option Value} {s : Shared} {Q E : Value → Shared → Prop} {news : Led}
theorem fnM_use {l : Addr} {o : Obj} {n : Nat} {news' : Obj → Led} (H : FnM w mean mg mb dk f vs l o (PSrc n))
    (B : Below A₀ base outer h₀) (F : Fr h₀ L s.heap m) (X : (hd.heap_39 w.params).In h₀) (N : News h₀ L s.heap news) (T : Top hd.view_39 (looseW hd.view_39 [Str.ofString "WORD"]) mean mg mb h₀) (hk : cs.kind = .function) (hd' : dp + dk < recursionLimit) (hu : un + 8 * dk < cLine)
    (U : UpdF l o news news')
    (k : ∀ a' b' ta' tb' h' tk', 0 ≤ a' → 0 ≤ b' → b' < 2147483647 → Fr h₀ L h' m → News h₀ L h' (news' (listOf [.int a' ta', .int b' tb'].toArray n)) → Q (.bool true) { s with heap := h', toks := tk' }) :
    wpN (model PySem.Challenge.rw_nt0096_01.row.prog w) (ktrTop dp un (some []) cn cs L a ccd cl outer) (call (.ref f) vs) Q E s := by
  obtain ⟨pre₀, post₀, e₀, _, _, _⟩ := U.split
  have hm : (l, o) ∈ news := by rw [e₀]; simp
  refine H _ _ _ _ _ _ _ _ _ _ _ _ _ _ _ _ B F X (fun p hp => by rw [List.mem_singleton.mp hp]; exact N _ hm) T hk hd' hu fun v o' h' tk' hp F' N' keep => ?_
  obtain ⟨a', b', ta', tb', rfl, h1, h2, h3, rfl⟩ := hp
  refine k a' b' ta' tb' h' tk' h1 h2 h3 F' fun p hq => ?_
  obtain ⟨pre, post', e1, e2, q1, q2⟩ := (updF_upd U (listOf [.int a' ta', .int b' tb'].toArray n)).split
  rw [e2] at hq
  have hN : ∀ q ∈ pre ++ (l, o) :: post', s.heap.get? q.1 = some q.2 ∧ q.1 ≠ L ∧ h₀.get? q.1 = none := fun q hq => N q (by rw [e1]; exact hq)
  rcases List.mem_append.mp hq with hq | hq
  · have := hN p (List.mem_append_left _ hq)
    exact ⟨keep _ _ (q1 p hq) this.1, this.2⟩
  · rcases List.mem_cons.mp hq with rfl | hq
    · exact N' _ (.head _)
    · have := hN p (List.mem_append_right _ (.tail _ hq))
      exact ⟨keep _ _ (q2 p hq) this.1, this.2⟩
end
theorem offN11 : True := by
  w_top off
  trivial
theorem law_holds : PySem.Challenge.rw_nt0096_01.Holds := hd (by
  k_fill
  intro w s₀ s₁ mg mb G Y fa o pm cd doc dV kV ho hd hcd hD hmg hg args vals as hpre hlay hrd hwl hlo
  have KX := kIn_of Y
  refine Ground.open G ?_
  intro T B D TE TW
  try (obtain ⟨_, _, he, B0⟩ := based_of_top T rfl hmg ho hd; have he' : cd = _ := he; subst he'; clear he)
  clear hmg
  clear B D TE TW
  wrow_args hpre hlay hrd hwl hlo
  refine ⟨?_, ?_⟩
  · refine enter_callN ?_
    have K0 := below_caller (Top.heap T)
    have he := Dflts.none hD rfl
    subst he
    refine call_fullN (by decide) ho hd (Top.nolimit T) hcd (BindsTo.of_eq rfl) (locs rfl) (fun h₁ F => ?_) rfl rfl rfl (by decide)
    have N0 := (News.nil : News _ _ _ []).at F
    clear hd hcd
    refine n_joinSrc (x := Str.ofString "source") F ?_ ?_
    · k_steps
      all_goals first
        | exact True.intro
        | exact ⟨_, _, _, _, _, _, _, _, rfl, by k_asm, by k_asm, Int.mul_nonneg (by (repeat' split) <;> omega) (by (repeat' split) <;> omega), fmod_lo _ (by decide), fmod_hi _ (by decide)⟩
    · intro D a b ta tb n h tk F' N' ha hb hb2
      clear F N0
      refine wpN_execs_cons (wpN_For ?_)
      k_steps
      (try dsimp only)
      rename Fr _ _ _ _ => F1
      rename News _ _ _ _ => N1
      rename IsRange _ _ _ _ _ _ _ _ => rX
      refine wpAny_pyIter_range rX rfl ?_
      have N2 : News s₁.heap s₁.heap.objs.size _ ((_, itR ((0 : Nat) : Int) (((5 : Nat) : Int) - ((0 : Nat) : Int))) :: [(D, listOf [.int a ta, .int b tb].toArray n)]) := News.push F1 N1 _
      refine codeN_range (s := s₁) (n := 5) rfl rfl rfl (fun _ m news => (∃ f : Str → Option Value, m = fun y => if y = Str.ofString "source" then some (.ref D) else f y) ∧ ∃ a b ta tb, 0 ≤ a ∧ 0 ≤ b ∧ b < 2147483647 ∧ news = [(D, listOf [.int a ta, .int b tb].toArray n)]) ?turn ?done 5 0 _ _ _ _ rfl (by omega) (F1.push _) N2 ?off ?hJ
      case off => exact fun p hp => by rw [List.mem_singleton.mp hp]; exact Nat.ne_of_lt (Heap.lt_size (N1 _ (.head _)).1)
      case hJ => exact ⟨⟨_, src_last rfl⟩, a, b, ta, tb, ha, hb, hb2, rfl⟩
      case done =>
        intro h3 tk3 m3 news3 F3 N3 hJ3
        (try dsimp only)
        clear F1 N1 N2
        refine wpN_of ?_
        k_steps
      case turn =>
        intro i3 t3 m3 news3 h3 tk3 hi3 hJ3 off3 F3 N3
        obtain ⟨⟨f3, rfl⟩, a3, b3, ta3, tb3, a30, b30, b31, rfl⟩ := hJ3
        clear F1 N1 N2
        have hDI : @Ne Nat D _ := off3 _ (.head _)
        (try dsimp only at N3 hDI)
        (refine wpN_execs_cons (wpN_of ?_); k_steps; (try dsimp only))
        refine wpN_execs_cons (wpN_If (wpN_isTrue_not (wpN_isTrue_plain (wpN_CallName ?_))))
        k_steps
        refine wpN_callWithK (K := hd.heap_39 w.params) (by k_is) ?_
        k_steps
        (try dsimp only)
        (k_dflt (refine' fnM_use (right_spec _ _ _ _ _ _ _ _ _ _ _ _ _ _ ?j1 ?j2 ?j3 ?j4 ?j5) ?k1 ?k2 ?k3 ?k4 ?k5 ?kK ?kd ?ku ?kU ?_; walk_at "P1"; (case kU => k_updF); (case j1 => assumption); (case j2 => assumption); (case j3 => assumption); (case j4 => exact menu_kind (by assumption) (by assumption)); (case j5 => exact menu_usable (by assumption) (by assumption))))
        intro a9 b9 ta9 tb9 h9 tk9 a90 b90 b91 F9 N9
        (try dsimp only at N9)
        k_steps
        refine wpN_execs_nil ?_
        (try dsimp only)
        (try refine wpN_execs_nil ?_)
        exact ⟨rfl, _, _, _, [(D, listOf [.int a9 ta9, .int b9 tb9].toArray n)], rfl, by k_asm, (fun p hp => N9 p (List.forall_mem_cons.mpr ⟨by k_mem, List.forall_mem_cons.mpr ⟨by k_mem, fun _ h => nomatch h⟩⟩ p hp)), fun p hp => by rw [List.mem_singleton.mp hp]; exact hDI, ⟨_, src_last rfl⟩, a9, b9, ta9, tb9, a90, b90, b91, rfl⟩
  · refine GoodW.toG ?_
    refine ⟨.inl ⟨_, .bool true, [], rfl, raisesW_false ?_, .bool _, ?_, fun _ => ⟨List.nodup_nil, fun _ h => nomatch h⟩⟩, fun _ _ e => e, rfl, hg⟩
    · wrow_none_raised
    · wrow_post)
end Mine
theorem PySem.Challenge.cw_nt0096_01_holds : PySem.Challenge.rw_nt0096_01.Holds :=
  Mine.law_holds
