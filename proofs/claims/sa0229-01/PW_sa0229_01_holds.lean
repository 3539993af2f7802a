import PyProof.Rows.All
import Wide.All
import OpenK.AllK
import Wide.FinOn
import PySem.Challenge.RW_sa0229_01
set_option Elab.async false
set_option linter.all false
set_option compiler.extract_closed false
set_option maxRecDepth 100000
section

open PySem PySem.W PySem.Calls PyProof.Rows
open PySem.Sem (wp)
namespace Mine

/-! the logic over clean stacks: no decoder's code stands on the stack -/
noncomputable def dirtyIds : List String := ["bytearray.__contains__", "bytearray.__mod__", "bytearray.__rmod__", "_struct.pack_into.held", "bytearray.find.held"] ++ Builtin.Bytes.decodersThatHold
noncomputable def Dirty : Code → Bool
  | .builtin id _ => dirtyIds.contains id
  | _ => false
noncomputable def Cl (l : List (Code × Pos)) : Prop := ∀ x ∈ l, Dirty x.1 = false

noncomputable def wpC {α : Type} (M : Model) (A : Around) (t : Sem α) (Q : α → Shared → Prop) (E : Value → Shared → Prop) (s : Shared) : Prop :=
  ∀ Γ p, Γ.In A → Dirty Γ.code = false → Cl Γ.below → wp M Γ t (fun a _ s' => Q a s') (fun e _ s' => E e s') p s
noncomputable def codeC (M : Model) (A : Around) (c : Code) (R : Result → Shared → Prop) (s : Shared) : Prop :=
  ∀ Γ p, Γ.code = c → Γ.Below A → Cl Γ.below → wpCode M Γ R p s

section
variable {α β : Type} {M : Model} {A : Around} {E : Value → Shared → Prop} {s : Shared}
theorem wpC_of {t : Sem α} {Q : α → Shared → Prop} (h : wpAny M A t Q E s) : wpC M A t Q E s := fun Γ p hΓ _ _ => h Γ p hΓ
theorem codeC_of {c : Code} {R : Result → Shared → Prop} (h : codeAny M A c R s) : codeC M A c R s := fun Γ p hc hΓ _ => h Γ p hc hΓ
theorem wpC_mono {t : Sem α} {Q Q' : α → Shared → Prop} {E' : Value → Shared → Prop} (h : wpC M A t Q E s) (hQ : ∀ a s, Q a s → Q' a s) (hE : ∀ e s, E e s → E' e s) : wpC M A t Q' E' s :=
  fun Γ p hΓ a b => Sem.wp_mono M Γ t (fun a _ s => hQ a s) (fun e _ s => hE e s) p s (h Γ p hΓ a b)
theorem codeC_mono {c : Code} {R R' : Result → Shared → Prop} (h : codeC M A c R s) (hR : ∀ r s, R r s → R' r s) : codeC M A c R' s :=
  fun Γ p hc hΓ a => wpCode_mono hR (h Γ p hc hΓ a)
theorem wpC_bind {m : Sem α} {f : α → Sem β} {Q : β → Shared → Prop} (h : wpC M A m (fun a s' => wpC M A (f a) Q E s') E s) : wpC M A (m >>= f) Q E s := fun Γ p hΓ a b => by
  rw [Sem.wp_bind']
  exact Sem.wp_mono M Γ m (fun x p' s' h' => h' Γ p' hΓ a b) (fun _ _ _ h' => h') p s (h Γ p hΓ a b)
theorem wpC_bindA {m : Sem α} {f : α → Sem β} {Q : β → Shared → Prop} (h : wpAny M A m (fun a s' => wpC M A (f a) Q E s') E s) : wpC M A (m >>= f) Q E s := wpC_bind (wpC_of h)
theorem wpC_pure {a : α} {Q : α → Shared → Prop} (h : Q a s) : wpC M A (pure a) Q E s := fun _ _ _ _ _ => h
theorem wpC_holding {vs : List Value} {m : Sem α} {Q : α → Shared → Prop} (h : wpC M A m Q E s) : wpC M A (holding vs m) Q E s :=
  fun Γ p hΓ a b => by rw [Sem.wp_holding]; exact h Γ p hΓ a b
theorem wpC_keep {vs : List Value} {m : Sem α} {Q : α → Shared → Prop} (h : wpC M A m Q E s) : wpC M A (m.keep vs) Q E s :=
  fun Γ p hΓ a b => by rw [Sem.wp_keep]; exact h Γ p hΓ a b
theorem wpC_operate {vs : List Value} {m : Sem Value} {Q : Value → Shared → Prop} (h : wpC M A m Q E s) : wpC M A (operate vs m) Q E s :=
  fun Γ p hΓ a b => by rw [Sem.wp_operate]; exact h Γ p hΓ a b
theorem wpC_standAt {pos : Pos} {Q : Unit → Shared → Prop} (h : Q () s) : wpC M A (standAt pos) Q E s := fun _ _ _ _ _ => h
theorem wpC_point {Q : Unit → Shared → Prop} (h : Q () s) : wpC M A point Q E s := fun _ _ _ _ _ => h
theorem wpC_onRaise {m : Sem α} {k : Value → Sem Unit} {Q : α → Shared → Prop} (h : wpC M A m Q (fun e s' => wpC M A (k e) (fun _ s'' => E e s'') E s') s) : wpC M A (m.onRaise k) Q E s := fun Γ p hΓ a b => by
  rw [Sem.wp_onRaise]
  exact Sem.wp_mono M Γ m (fun _ _ _ h' => h') (fun e p' s' h' => h' Γ p' hΓ a b) p s (h Γ p hΓ a b)
theorem wpC_attempt {m : Sem α} {Q : Except Value α → Shared → Prop} (h : wpC M A m (fun a => Q (.ok a)) (fun e => Q (.error e)) s) : wpC M A m.attempt Q E s := fun Γ p hΓ a b => by
  rw [Sem.wp_attempt]; exact h Γ p hΓ a b

theorem wpC_run {c : Code} {h : Option Value} {Q : Flow → Shared → Prop} (hc : codeC M (A.mark h) c (fun r s' => match r with | .ok f => Q f s' | .error e => E e s') s) (hnb : h ≠ some byPass := by intro x; cases x) :
    wpC M A (run c h) Q E s := fun Γ p hΓ a b => by
  rw [Sem.wp_run]
  exact hc _ p rfl (hΓ.enter c h p hnb) (fun x hx => (List.mem_cons.mp hx).elim (fun e => e ▸ a) (b x))
theorem wpC_runValue {c : Code} {Q : Value → Shared → Prop} (hc : codeC M A c (fun r s' => match r with | .ok (.ret v) => Q v s' | .ok _ => False | .error e => E e s') s) : wpC M A (runValue c) Q E s := fun Γ p hΓ a b => by
  rw [Sem.wp_runValue]
  exact hc _ p rfl (hΓ.enter c none p (by intro x; cases x)) (fun x hx => (List.mem_cons.mp hx).elim (fun e => e ▸ a) (b x))
theorem wpC_call {f : Value} {pos : List Value} {kw : List (Str × Value)} {Q : Value → Shared → Prop}
    (hc : codeC M A (.call f ⟨pos, kw⟩) (fun r s' => match r with | .ok (.ret v) => Q v s' | .ok _ => False | .error e => E e s') s) : wpC M A (call f pos kw) Q E s := wpC_runValue hc
theorem codeC_of_tree {c : Code} {R : Result → Shared → Prop} (hd : Dirty c = false)
    (h : wpC M (A.under c) (M.den c) (fun fin s' => match fin with | .done f => R (.ok f) s' | .again c' => c'.quiet = true ∧ codeC M A c' R s') (fun e s' => R (.error e) s') s) : codeC M A c R s := fun Γ p hc hΓ b => by
  rw [wpCode_iff_wp, hc]
  refine Sem.wp_mono M Γ _ (fun fin p' s' h' => ?_) (fun _ _ _ h' => h') p s (h Γ p (hc ▸ hΓ.in) (hc ▸ hd) b)
  cases fin with
  | done f => exact h'
  | again c' => exact ⟨h'.1, h'.2 (Γ.goto c') p' rfl (hΓ.goto c') b⟩
theorem codeC_loop {c : Code} {R : Result → Shared → Prop} (hd : Dirty c = false) (hq : c.quiet = true) (I : Nat → Shared → Prop)
    (turn : ∀ n s, I n s → wpC M (A.under c) (M.den c)
      (fun fin s' => match fin with | .done f => R (.ok f) s' | .again c' => (c' = c ∧ ∃ m, m < n ∧ I m s') ∨ (c'.quiet = true ∧ codeC M A c' R s')) (fun e s' => R (.error e) s') s)
    (n : Nat) (h : I n s) : codeC M A c R s := by
  induction n using Nat.strongRecOn generalizing s with
  | ind n ih =>
    refine codeC_of_tree hd (wpC_mono (turn n s h) (fun fin s' hf => ?_) fun _ _ h' => h')
    cases fin with
    | done f => exact hf
    | again c' =>
      rcases hf with ⟨rfl, m, hm, hI⟩ | hf
      · exact ⟨hq, ih m hm hI⟩
      · exact hf

variable {env : Env}
theorem C_execs {st : Stmt} {rest : List Stmt} {Q : Flow → Shared → Prop}
    (h : wpC M A (exec st env) (fun f s' => match f with | .next => wpC M A (execs rest env) Q E s' | f => Q f s') E s) : wpC M A (execs (st :: rest) env) Q E s := fun Γ p hΓ a b => by
  rw [execs_cons, Sem.wp_bind']
  refine Sem.wp_mono M Γ _ (fun f p' s' h' => ?_) (fun _ _ _ h' => h') _ _ (h Γ p hΓ a b)
  cases f <;> first | exact h' Γ p' hΓ a b | exact h'
theorem execs_append (l₂ : List Stmt) : ∀ l₁ : List Stmt, execs (l₁ ++ l₂) env = (do match ← execs l₁ env with | .next => execs l₂ env | f => pure f)
  | [] => by rw [List.nil_append, execs_nil]; rfl
  | st :: l₁ => by
    rw [List.cons_append, execs_cons, execs_cons, execs_append l₂ l₁, bind_assoc]
    congr 1
    funext f
    cases f <;> rfl
/-- a block of statements that need no clean stack, ahead of others -/
theorem C_block {l₁ l₂ : List Stmt} {Q : Flow → Shared → Prop}
    (h : wpAny M A (execs l₁ env) (fun f s' => match f with | .next => wpC M A (execs l₂ env) Q E s' | f => Q f s') E s) : wpC M A (execs (l₁ ++ l₂) env) Q E s := by
  rw [execs_append]
  refine wpC_bindA (wpAny_mono h (fun f s' h' => ?_) fun _ _ x => x)
  cases f <;> first | exact h' | exact wpC_pure h'
theorem C_If {test : Expr} {body orelse : List Stmt} {pos : Pos} {Q : Flow → Shared → Prop}
    (h : wpAny M A (isTrue test env (eval test env)) (fun b s₂ => if b then wpC M A (execs body env) Q E s₂ else wpC M A (execs orelse env) Q E s₂) E s) : wpC M A (exec (.If test body orelse pos) env) Q E s := by
  rw [exec_If]
  refine wpC_bind (wpC_standAt (wpC_bindA (wpAny_mono h (fun b s' h' => ?_) fun _ _ x => x)))
  cases b <;> exact h'
theorem C_Assign {x : Str} {pos' pos : Pos} {value : Expr} {Q : Flow → Shared → Prop}
    (h : wpC M A (eval value env) (fun v s₁ => wpAny M A (storeName env x v) (fun _ => Q .next) E s₁) E s)
    (hs : swapsWith value (some (.Name x pos')) pos.line env = pure false := by rfl) : wpC M A (exec (.Assign [.Name x pos'] value pos) env) Q E s := by
  rw [exec_Assign_Name env x pos' value pos hs]
  exact wpC_bind (wpC_standAt (wpC_bind (wpC_mono h (fun v s₁ h₁ => wpC_bind (wpC_standAt (wpC_bindA (wpAny_mono (wpAny_bindName h₁) (fun _ _ q => wpC_pure q) fun _ _ x => x)))) fun _ _ x => x)))
theorem C_AssignAttr {o : Expr} {attr : Str} {pos' pos : Pos} {value : Expr} {Q : Flow → Shared → Prop}
    (h : wpC M A (eval value env) (fun v s₁ => wpAny M A (eval o env) (fun ov s₂ => wpAny M A (setAttr ov attr v) (fun _ => Q .next) E s₂) E s₁) E s)
    (hs : swapsWith value (some (.Attribute o attr pos')) pos.line env = pure false := by rfl) :
    wpC M A (exec (.Assign [.Attribute o attr pos'] value pos) env) Q E s := fun Γ p hΓ a b => by
  simp only [plainObj_exec_Assign_Attribute o attr pos' value pos hs, assign_Attribute, Sem.wp_bind', Sem.wp_holding, Sem.wp_cmd_standAt, Sem.wp_release, Sem.wp_pure']
  exact Sem.wp_mono M Γ _ (fun v p₁ s₁ h₁ => Sem.wp_mono M Γ _ (fun ov _ s₂ h₂ => h₂ Γ _ hΓ) (fun _ _ _ h' => h') _ _ (h₁ Γ p₁ hΓ)) (fun _ _ _ h' => h') _ _ (h Γ _ hΓ a b)

/-- a call by a plain name, no keywords -/
theorem C_callWith {P : Heap → Prop} {pos : Pos} {f : Value} {first : List Value} {args : List (Bool × Sem Value)} {Q : Value → Shared → Prop} (hplain : args.any (·.1) = false)
    (hk : ∀ h, P h → ∃ k, (k = Keeper.frame ∨ k = Keeper.machine ∨ k = Keeper.boundFrame) ∧ Looks M h (keeperOf f) k)
    (h : wpAny M A (evalArgs f true args []) (fun a s₁ => P s₁.heap ∧ wpC M A (call f (first ++ a.pos) a.kw) Q E s₁) E s) : wpC M A (callWith pos f first args []) Q E s := by
  unfold callWith
  refine wpC_bind (wpC_holding (wpC_of (wpAny_mono h (fun a s₁ h₁ => wpC_bind (wpC_standAt ?_)) fun _ _ x => x)))
  obtain ⟨k, hk', L⟩ := hk _ h₁.1
  simp only [hplain, List.any_nil, Bool.or_false]
  refine wpC_bindA (L.here ?_)
  have tail : ∀ {t : Sem Value}, wpC M A t Q E s₁ → wpC M A (t >>= fun r => holding [r] point >>= fun _ => pure r) Q E s₁ :=
    fun ht => wpC_bind (wpC_mono ht (fun r s₂ hr => wpC_bind (wpC_holding (wpC_point (wpC_pure hr)))) fun _ _ x => x)
  have marked (mk : Value) : wpC M A (callMarked mk f (first ++ a.pos) a.kw) Q E s₁ := by unfold callMarked; exact wpC_keep h₁.2
  rcases hk' with rfl | rfl | rfl <;> dsimp only <;> first | exact tail h₁.2 | (split <;> first | exact tail h₁.2 | exact tail (marked _))
theorem C_callName {x : Str} {np pos : Pos} {args : List Expr} {Q : Value → Shared → Prop}
    (h : wpAny M A (eval (.Name x np) env) (fun f s₁ => wpC M A (callWith pos f [] (backTo pos (starEach args env)) []) Q E s₁) E s) : wpC M A (eval (.Call (.Name x np) args [] pos) env) Q E s := by
  show wpC M A (do callWith pos (← eval (.Name x np) env) [] (backTo pos (starEach args env)) (backToKw pos (keywordEach [] env))) Q E s
  exact wpC_bindA h
theorem C_callAttr {o : Expr} {name : Str} {apos pos : Pos} {args : List Expr} {Q : Value → Shared → Prop}
    (hbase : attributeBase o name env (eval o env) = eval o env) (hfew : methodCallForm (args.length + ([] : List Keyword).length) (backTo pos (starEach args env)) [] = true) (hline : (apos.endLine == pos.line) = true)
    (h : wpAny M A (eval o env) (fun ov s₁ => wpAny M A (getMethod ov name (do return (← importBound o env).getD true)) (fun fm s₂ => wpC M A (callWith pos fm.1 fm.2 (backTo pos (starEach args env)) []) Q E s₂) E s₁) E s) :
    wpC M A (eval (.Call (.Attribute o name apos) args [] pos) env) Q E s := by
  show wpC M A (do
    let ov ← attributeBase o name env (eval o env)
    standAt apos.atName
    methodCall o name apos pos env ov (args.length + ([] : List Keyword).length) (backTo pos (starEach args env)) (backToKw pos (keywordEach [] env))) Q E s
  rw [hbase]
  refine wpC_bindA (wpAny_mono h (fun ov s₁ h₁ => wpC_bind (wpC_standAt ?_)) fun _ _ x => x)
  have hform : methodCallForm (args.length + ([] : List Keyword).length) (backTo pos (starEach args env)) (backToKw pos (keywordEach [] env)) = true := hfew
  have hpos : methodCallPos true o env apos pos = pure pos := by unfold methodCallPos; simp [hline]
  unfold methodCall
  rw [hform]
  refine wpC_bind (wpC_holding (wpC_of ?_))
  unfold calleeOf
  simp only [if_true]
  refine wpAny_mono h₁ (fun fm s₂ h₂ => ?_) fun _ _ x => x
  refine wpC_bindA (wpAny_of_eq hpos ?_)
  exact h₂
end
section
variable {prog : Program} {w : World} {A : Around} {E : Value → Shared → Prop} {s : Shared} {env : Env}
theorem C_Expr {e : Expr} {pos : Pos} {Q : Flow → Shared → Prop} (h : wpC (model prog w) A (eval e env) (fun _ => Q .next) E s)
    (hi : interactive env = false := by rfl) (hs : swapsWith e none pos.line env = pure false := by rfl) : wpC (model prog w) A (exec (.Expr e pos) env) Q E s := by
  rw [exec_Expr env e pos hi hs]
  exact wpC_bind (wpC_standAt (wpC_bind (wpC_mono h (fun v s' h' => wpC_of (wpAny_dropValue h')) fun _ _ x => x)))
theorem codeC_func {body : List Stmt} {R : Result → Shared → Prop}
    (h : wpC (model prog w) (A.deeper env) (execs body env) (fun f s' => R (.ok (.ret (match f with | .ret v => v | _ => .none))) s')
      (fun e s' => wpAny (model prog w) (A.deeper env) (leaving env e) (fun _ s'' => R (.error e) s'') (fun e' s'' => R (.error e') s'') s') s) :
    codeC (model prog w) A (.func body env) R s := by
  refine codeC_of_tree rfl ?_
  show wpC _ (A.deeper env) (do point; match ← (execs body env).onRaise (leaving env) with | .ret v => ret v | _ => ret .none) _ _ s
  refine wpC_bind (wpC_point (wpC_bind (wpC_onRaise (wpC_mono h (fun f s' h' => ?_) fun _ _ h' => wpC_of h'))))
  cases f <;> exact wpC_pure h'
theorem codeC_call_def {R : Result → Shared → Prop} {a : Addr} {o : Obj} {fd : FuncData} {body : List Stmt} {args : Args} {binds : List (Str × Value)}
    (hroom : A.depth < recursionLimit) (ho : s.heap.get? a = some o) (hdata : o.data = .func fd) (hlim : s.heap.NoLimit) (hcd : s.heap.CodeRec fd.code fd.qualname)
    (hbody : fd.body = .stmts body) (hbind : BindsTo s fd args binds)
    (hcell : ∀ x ∈ fd.scope.names, x.2 ≠ .cell) (hloc : ∀ x ∈ binds, fd.scope.names.lookup x.1 = some .local)
    (h : ∀ h₀, h₀.Ns s.heap.objs.size (fun x => binds.reverse.lookup x) → (∀ b o, s.heap.get? b = some o → h₀.get? b = some o) →
      wpC (model prog w) (A.deeper (callEnv fd s.heap.objs.size a)) (execs body (callEnv fd s.heap.objs.size a)) (fun f s' => R (.ok (.ret (match f with | .ret v => v | _ => .none))) s')
        (fun e s' => wpAny (model prog w) (A.deeper (callEnv fd s.heap.objs.size a)) (leaving (callEnv fd s.heap.objs.size a) e) (fun _ s'' => R (.error e) s'') (fun e' s'' => R (.error e') s'') s')
        { s with heap := h₀, toks := s.toks + binds.length })
    (hco : fd.scope.isCoroutine = false) (hgen : fd.scope.isGenerator = false) (hk : fd.scope.kind = .function) : codeC (model prog w) A (.call (.ref a) args) R s := by
  refine codeC_of_tree rfl ?_
  show wpC _ A.in1 (callAny (.ref a) args) _ _ s
  simp only [callAny]
  refine wpC_bindA (wpAny_load ho ?_)
  obtain ⟨c, oc, vs, tq, hc, hoc, hdc, hq⟩ := hcd
  simp only [hdata, callFunction, hco, hgen, hbody, hc]
  refine wpC_bindA (m := field (.ref c) 1) (wpAny_field hoc hdc hq ?_)
  refine wpC_bindA (wpAny_pure ?_)
  refine wpC_bindA (hbind _ _ _ _ ?_)
  refine wpC_bindA (wpAny_newFunctionEnv hcell hloc (fun h₀ hns₀ hsb₀ => ?_) hk)
  refine wpC_bindA (wpAny_enterFrame (hlim.fresh _ hsb₀) hroom ?_)
  have z := h h₀ hns₀ fun b o e => hsb₀.extBut b o (Nat.ne_of_lt (Heap.lt_size e)) (Heap.get?_push_of_some _ e)
  unfold callEnv at z
  rw [hc] at z
  exact wpC_pure ⟨rfl, codeC_func z⟩
end
end Mine

end
section
open PySem PySem.W PySem.Calls PyProof.Rows
namespace Mine

/-! the head's last step over clean stacks: the claim's caller stands alone on the stack, and it is clean -/
theorem thread_endsC {prog : Program} {w : World} {t : Sem Fin} {s : Shared} {R : Result → Shared → Prop} (hreg : s.asleep)
    (h : wpC (model prog w) callerA t (fun fin s' => ∃ f, fin = .done f ∧ (R (.ok f) s' ∧ leftWithCleanup s'.gens = false)) (fun e s' => R (.error e) s' ∧ leftWithCleanup s'.gens = false) s) :
    ∃ n r s' s'', runN (denote table) prog w n s ⟨t, .builtin "claim.caller" {}, default, []⟩ = .halted (outcomeOf r) s' ∧
      schedN (denote table) prog w n (.single s ⟨t, .builtin "claim.caller" {}, default, []⟩) = .halted (outcomeOf r) s' ∧ s'.forget = s''.forget ∧ R r s'' := by
  have h0 : Dirty (Code.builtin "claim.caller" {}) = false := by decide +kernel
  have h1 := h ⟨.builtin "claim.caller" {}, none, none, [], none⟩ default caller_in h0 (fun x hx => nomatch hx)
  have h2 : Sem.wp (model prog w) ⟨.builtin "claim.caller" {}, none, none, [], none⟩ t (Sem.finPost (model prog w) ⟨.builtin "claim.caller" {}, none, none, [], none⟩ fun r s' => R r s' ∧ leftWithCleanup s'.gens = false)
      (fun e _ s' => R (.error e) s' ∧ leftWithCleanup s'.gens = false) default s := by
    refine Sem.wp_mono _ _ t (fun fin p' s' h' => ?_) (fun _ _ _ h' => h') default s h1
    obtain ⟨f, rfl, hf⟩ := h'
    exact hf
  obtain ⟨n, r, s₁, s₂, hs, hn, hfo, hR⟩ := wp_halts_full (M := model prog w) (R := R) hreg h2
  exact ⟨n, r, s₂, s₁, hn, hs, hfo, hR⟩

theorem callFromC {c : ClaimW} {tree : List Value → Sem Fin} {w : World} {s : Shared} {free : Addr → Prop} {gens : Prop} {kept : Heap → Prop} (hz : s.asleep) (hgens : s.gens = #[])
    (hspec : ∀ args, c.pre args = true → WData.layableAll args = true → ∀ ord : List DictEntry → List DictEntry, (∀ l, (ord l).Perm l) →
      ∃ vs s₁, layAllW c.records (classAt s.heap) w.params ord args s = some (vs, s₁) ∧
        wpC (model c.prog w) callerA (tree vs) (fun fin s' => ∃ f, fin = .done f ∧ (c.Ends s args vs s₁ (.ok f) s' ∧ s'.os = s.os ∧ AllBare s'.gens ∧ kept s'.heap))
          (fun e s' => c.Ends s args vs s₁ (.error e) s' ∧ s'.os = s.os ∧ AllBare s'.gens ∧ kept s'.heap) s₁) :
    c.CallFrom (fun vs => ⟨tree vs, .builtin "claim.caller" {}, default, []⟩) w free gens kept s := by
  intro args hpre hlay ord hord
  obtain ⟨vs, s₁, hlaid, hcode⟩ := hspec args hpre hlay ord hord
  have hal := layAllW_rest _ _ _ hlaid
  obtain ⟨k, r, s', s'', hrun, hsched, hfo, hcase, hos, hkp⟩ := thread_endsC (prog := c.prog) (w := w) (t := tree vs) (s := s₁)
    (R := fun r s' => c.Ends s args vs s₁ r s' ∧ s'.os = s.os ∧ kept s'.heap) (Shared.asleep_of_life hal.2.2.2 hz)
    (wpC_mono hcode (by rintro fin s' ⟨f, e, h1, h2, h3, h4⟩; exact ⟨f, e, ⟨h1, h2, h4⟩, leftWithCleanup_false_of_bare h3⟩) (by rintro e s' ⟨h1, h2, h3, h4⟩; exact ⟨⟨h1, h2, h4⟩, leftWithCleanup_false_of_bare h3⟩))
  obtain ⟨eh, _, _, eo, _⟩ := Shared.forget_eq hfo
  have hcase := hcase.congr eh
  rw [← eh] at hkp
  rw [← eo] at hos
  have hlife : s'.heap.life = s.heap.life := (runN_life _ _ _ hrun).trans hal.2.2.2
  refine ⟨vs, s₁, hlaid, k, _, s', hsched, ?_, (fun _ i x hx => by rw [hgens] at hx; simp at hx), hkp, by rw [hlife], Shared.rest_eq hos⟩
  rcases hcase with ⟨v, rfl, d1, d2, d3, d4, d5⟩ | ⟨e, ob, cls, rfl, d1, d2, d3, d4, d5⟩
  · exact .inl ⟨v, rfl, d1, d2, d3, fun b o y _ => d4 b o y, d5⟩
  · exact .inr ⟨e, ob, cls, rfl, d1, d2, d3, d4, fun b o y _ => d5 b o y⟩

theorem open_anyC {r : RowW} {run : Value → List Value → Sem Value} {tree : List Value → Sem Fin} {q : Program} {loose defs kps : List Str} {writes : Bool} {Xt : Shared → Bool} {XP : (Str → Option Value) → Heap → Prop} {α : Type} {Yf : Shared → α} {Ya : World → α} {YP : World → Heap → Prop} {N : Nat}
    (left : LeftO r.prog q loose Xt Yf Ya N) (hY : ∀ w s, Yf s = Ya w → YP w s.heap) (hYk : ∀ w h h', YP w h → (∀ b o, h.get? b = some o → h'.get? b = some o) → YP w h') (hX : ∀ s, Xt s = true → XP (s.heap.nsMap mainGlobals) s.heap) (hXk : ∀ mg h h', XP mg h → (∀ b o, h.get? b = some o → h'.get? b = some o) → XP mg h')
    (hRf : ∀ s, Xt s = true → RecFacts r.records s.heap) (hwr : (!writes || r.records.isEmpty) = true) (ok : (chainsOk q && opensWell r.prog && (frees r && r.within.isEmpty)) = true) (hb : r.prog.bare) (hw : r.promised)
    (ht : ∀ vs (w : World) (s : Shared) mg f (Q : Fin → Shared → Prop) (E : Value → Shared → Prop), s.heap.Ns mainGlobals mg → mg r.name = some f → wpC (model r.prog w) callerA (run f vs) (fun v s' => Q (.done (.ret v)) s') E s → wpC (model r.prog w) callerA (tree vs) Q E s)
    (pin : ∀ w s, s.heap.isNs mainGlobals = true → Ground q loose [] XP w s (s.heap.nsMap mainGlobals) (s.heap.nsMap builtinsNs) s.heap → ∀ n ∈ defs, isTheDefsW r.prog s.heap n)
    (call : ∀ (w : World) (s₀ s₁ : Shared) (mg mb : Str → Option Value), Ground q loose r.records XP w s₀ mg mb s₁.heap → YP w s₁.heap → ∀ (args : List WData) (vs : List Value) (as : List Addr),
      r.claim.pre args = true → WData.layableAll args = true → Laid r.records w s₀ s₁ args vs as → sysModules < s₀.heap.objs.size → ∃ f, mg r.name = some f ∧
        wpC (model r.prog w) callerA (run f vs) (fun v s' => GoodWG r.claim (classAt s₀.heap) (ExcName.means s₀.heap) args s₁ (.ok (.ret v)) s')
          (fun e s' => GoodWG r.claim (classAt s₀.heap) (ExcName.means s₀.heap) args s₁ (.error e) s') s₁) : r.claim.HoldsOpenBy (fun vs => ⟨tree vs, .builtin "claim.caller" {}, default, []⟩) defs kps writes := by
  obtain ⟨ok, k5⟩ := Bool.and_eq_true_iff.mp ok
  obtain ⟨hch, o1⟩ := Bool.and_eq_true_iff.mp ok
  obtain ⟨k5, k6⟩ := Bool.and_eq_true_iff.mp k5
  obtain ⟨hsame, hu, ha, hap, hm⟩ := frees_parts k5
  refine ⟨⟨hb, o1, by show r.makers.map _ = []; rw [hm]; rfl⟩, hw.witness, fun w => ⟨(left.behind hX hch w).1, fun s' hs' => ?_⟩⟩
  obtain ⟨s₀, hf, hg0, s, hT, hz, hgens, hg, G00, y⟩ := (left.behind (XP := fun mg h => XP mg h ∧ RecFacts r.records h) (fun s hs => ⟨hX s hs, hRf s hs⟩) hch w).2 s' hs'
  have G0 : Ground q loose [] XP w s (s.heap.nsMap mainGlobals) (s.heap.nsMap builtinsNs) s.heap := ⟨G00.T, G00.B, G00.D, G00.TE, G00.TD, G00.W, G00.X.1, G00.cls, G00.has, G00.apart, G00.once, G00.K⟩
  have RF := G00.X.2
  have hT' := hT
  refine ⟨s₀, hf, hg0, s, hT, pin w s hg G0, RF.1, RF.2.1, ?_⟩
  have hgens : s.gens = #[] := Array.eq_empty_of_size_eq_zero (beq_iff_eq.mp hgens)
  have G : Ground q loose r.records XP w s _ _ s.heap := RF.ground G0
  refine callFromC (c := r.claim) hz hgens fun args hpre hlay ord hord => ?_
  obtain ⟨⟨vs, s₁⟩, hlaid⟩ := Option.isSome_iff_exists.mp (layAllW_isSome (P := w.params) (ord := ord) G.has args r.args s (pre_splitW hpre).1)
  have keeps := layAllW_keeps _ _ _ hlaid
  have hal := layAllW_rest _ _ _ hlaid
  obtain ⟨as, hrd, hin, hold⟩ := reads_layAllW hord _ _ _ hlaid hlay s₁.heap (fun _ _ e => e)
  have L : Laid r.records w s s₁ args vs as := ⟨⟨ord, hord, hlaid⟩, hrd, hin, hold, keeps, hal.1.trans hgens, hal.2.2.1⟩
  have G₁ := G.keeps hXk keeps
  obtain ⟨f, hf, h⟩ := call w s s₁ _ _ G₁ (hYk _ _ _ (hY w s y) keeps) args vs as hpre hlay L G.low
  have hi := ident_freeW hu ha hap
  have hwi : r.claim.within = [] := List.isEmpty_iff.mp k6
  exact ⟨vs, s₁, hlaid, ht vs w s₁ _ f _ _ G₁.T.g hf (wpC_mono h (fun v s' g => ⟨_, rfl, have z := g.laid (c := r.claim) hsame hwi hi L; ⟨z.1, z.2.1, z.2.2, fun q => ⟨namesKept_of hT' hg kps keeps g.2.1.old, noTable hwr q⟩⟩⟩) fun e s' g => have z := g.laid (c := r.claim) hsame hwi hi L; ⟨z.1, z.2.1, z.2.2, fun q => ⟨namesKept_of hT' hg kps keeps g.2.1.old, noTable hwr q⟩⟩)⟩

noncomputable abbrev WalkC (q : Program) (loose : List Str) (XP : (Str → Option Value) → Heap → Prop) (YP : World → Heap → Prop) (r : RowW) (d : DefRec) (kwd : List (Str × Expr)) (run : Value → List Value → Sem Value) : Prop :=
  ∀ (w : World) (s₀ s₁ : Shared) (mg mb : Str → Option Value), Ground q loose r.records XP w s₀ mg mb s₁.heap → YP w s₁.heap → ∀ (a : Addr) (o : Obj) (pm cd doc dV kV : Value), s₁.heap.get? a = some o →
    o.data = .func { docDef d.name d.params d.body d.scope pm cd doc with defaults := dV, kwdefaults := kV } → s₁.heap.CodeRec cd d.name → Dflts mg s₁.heap d.params kwd dV kV → mg d.name = some (.ref a) → s₁.gens = #[] →
    ∀ (args : List WData) (vals : List Value) (as : List Addr), r.claim.pre args = true → WData.layableAll args = true → ReadsAllW r.records (classAt s₀.heap) s₁.heap vals args as → WellAll w.params s₁.heap vals args → (∀ a ∈ as, (a == sysModules) = false) →
      wpC (model r.prog w) callerA (run (.ref a) vals) (fun v s' => GoodWG r.claim (classAt s₀.heap) (ExcName.means s₀.heap) args s₁ (.ok (.ret v)) s')
        (fun e s' => GoodWG r.claim (classAt s₀.heap) (ExcName.means s₀.heap) args s₁ (.error e) s') s₁

theorem holds_openC' {r : OpenRow} {q : Program} {loose : List Str} {Xt : Shared → Bool} {XP : (Str → Option Value) → Heap → Prop} {α : Type} {Yf : Shared → α} {Ya : World → α} {YP : World → Heap → Prop} {d : DefRec} {kwd : List (Str × Expr)} {N : Nat}
    (left : LeftO r.prog q loose Xt Yf Ya N) (hY : ∀ w s, Yf s = Ya w → YP w s.heap) (hYk : ∀ w h h', YP w h → (∀ b o, h.get? b = some o → h'.get? b = some o) → YP w h')
    (hX : ∀ s, Xt s = true → XP (s.heap.nsMap mainGlobals) s.heap) (hXk : ∀ mg h h', XP mg h → (∀ b o, h.get? b = some o → h'.get? b = some o) → XP mg h')
    (hdef : defOf q r.name = some (d, kwd)) (hp : r.prog.theDef r.name = some (d.params, d.body, d.scope)) (hk : kwWritten? d.params.kwonlyargs d.params.kw_defaults = some kwd) (hRf : ∀ s, Xt s = true → RecFacts r.records s.heap) (hwr : (!r.writes || r.records.isEmpty) = true)
    (k1 : r.wellSaid = true) (ok : (chainsOk q && opensWell r.prog && (frees r.toRowW && r.within.isEmpty)) = true) (hb : r.prog.bare) (hw : r.toRowW.promised)
    (call : WalkC q loose XP YP r.toRowW d kwd fun f vs => PySem.call f vs) : r.Holds := by
  refine ⟨k1, hw, open_anyC (r := r.toRowW) (run := fun f vs => PySem.call f vs) (tree := fun vs => do match ← nsGet mainNs r.name with
      | some f => do ret (← PySem.call f vs)
      | none => unsupported "claim.caller:no-such-global") left hY hYk hX hXk hRf hwr ok hb hw
    (fun vs w s mg f Q E hg hf h => wpC_bindA (wpAny_nsGet hg (by rw [hf]; exact wpC_bind (wpC_mono h (fun _ _ x => wpC_pure x) fun _ _ x => x))))
    (fun w s hg G n hn => ?_) fun w s₀ s₁ mg mb G Y args vs as hpre hlay L low => ?_⟩
  · obtain rfl : n = r.name := by split at hn <;> simp_all
    exact pinned_of_view hg G hdef hp hk
  · obtain ⟨a, o, pm, cd, doc, dV, kV, h1, h2, h3, h4, h5⟩ := G.fn hdef
    exact ⟨.ref a, h1, call w s₀ s₁ mg mb G Y a o pm cd doc dV kV h2 h3 h4 h5 (defOf_name hdef ▸ h1) L.gens args vs as hpre hlay L.reads L.well (L.low low)⟩
end Mine

end
section
open PySem PySem.W PyProof.Rows
namespace Mine

/-- the top's run over a tree of objects in the place of an array -/
noncomputable def topRunT (stp : SharedT → Thread → Option (SharedT × Thread)) (n₀ : Nat) (ann : Option Value) : Nat → SharedT → Thread → Option SharedT
  | 0, _, _ => none
  | n + 1, s, t => match through t with
    | true => some s
    | false => match stepOk n₀ ann t with
      | false => none
      | true => match stp s t with
        | some (s', t') => topRunT stp n₀ ann n s' t'
        | none => none
theorem topRunT_spec {tb : String → Option Builtin} {p : Program} {w : World} {n₀ : Nat} {ann : Option Value} : ∀ {n : Nat} {s s' : SharedT} {t : Thread},
    topRunT (stepT (denote tb) p w) n₀ ann n s t = some s' → topRun tb p w n₀ ann n s.abs t = some s'.abs
  | 0, _, _, _, h => by cases h
  | n + 1, s, s', t, h => by
    unfold topRunT at h
    unfold topRun
    cases ht : through t with
    | true => rw [ht] at h; cases h; rfl
    | false =>
      rw [ht] at h
      cases hk : stepOk n₀ ann t with
      | false => rw [hk] at h; cases h
      | true =>
        rw [hk] at h
        cases hs : stepT (denote tb) p w s t with
        | none => rw [hs] at h; cases h
        | some r => obtain ⟨s₂, t₂⟩ := r; rw [hs] at h; dsimp only; rw [stepT_spec hs]; exact topRunT_spec h

noncomputable abbrev PR : Program := PySem.Challenge.rw_sa0229_01.row.prog
noncomputable def bootTree (P : Params) : BT := ((boot_heap P).objs.toList.foldl (fun (r : BT × Nat) o => (r.1.ins r.2 o, r.2 + 1)) (.nil, 0)).1
noncomputable def bootS (w : World) (os : OsState) : SharedT := ⟨bootTree w.params, (boot_heap w.params).objs.size, (boot_heap w.params).life, #[], boot_drawn, boot_toks, os⟩
theorem boot_tree (P : Params) : absHeap (bootTree P) (boot_heap P).objs.size (boot_heap P).life = boot_heap P := by kernel_rfl
theorem boot_look (P : Params) : ((boot_heap P).isNs mainGlobals) = true := by kernel_rfl
theorem boot_prog : opening PR = plainProg PR.main.scope.names := by kernel_rfl
theorem boot_fence (s : Shared) : fenceModules? PR s = some s := by kernel_rfl

noncomputable def runP (p : Program) (w : World) (os : OsState) : Option SharedT :=
  topRunT (stepT (denote treeTable) p w) (boot_heap w.params).objs.size ((boot_heap w.params).nsMap mainGlobals "__annotations__") 5828 (bootS w os) (topStub p)

theorem left_ok {p q : Program} {loose : List Str} {Xt : Shared → Bool} {α : Type} {Yf : Shared → α} {Ya : World → α}
    (b1 : opening p = plainProg p.main.scope.names) (b2 : ∀ s, fenceModules? p s = some s)
    (h0 : ∀ w os, (runP p w os).map (fun s => staticsOk (importedModules p.main.body) (boot_heap w.params) s.abs.heap && namesBound p s.abs.heap && gensDone s.abs && laidKept (boot_heap w.params) s.abs.heap) = some true)
    (h1 : ∀ w os, (runP p w os).map (fun s => openSeen q loose (importedModules p.main.body) Xt true s.abs) = some (openGood q loose))
    (h2 : ∀ w os, (runP p w os).map (fun s => Yf s.abs) = some (Ya w)) : LeftO p q loose Xt Yf Ya 5828 true := by
  intro w
  obtain ⟨s₀, e0, e1⟩ := Option.map_eq_some_iff.mp (boot_open (p := p) (N := 5828) b1 (by decide) b2 w)
  obtain ⟨hp, g, d, tk, os⟩ := s₀
  simp only [Prod.mk.injEq] at e1
  obtain ⟨rfl, rfl, rfl, rfl⟩ := e1
  obtain ⟨s₁, r1, g0⟩ := Option.map_eq_some_iff.mp (h0 w os)
  obtain ⟨s₂, r2, g1⟩ := Option.map_eq_some_iff.mp (h1 w os)
  obtain ⟨s₃, r3, g2⟩ := Option.map_eq_some_iff.mp (h2 w os)
  obtain rfl : s₁ = s₂ := Option.some.inj (r1.symm.trans r2)
  obtain rfl : s₁ = s₃ := Option.some.inj (r1.symm.trans r3)
  have hb : (bootS w os).abs = ⟨boot_heap w.params, #[], boot_drawn, boot_toks, os⟩ := by
    unfold bootS SharedT.abs
    simp only [boot_tree]
  have hr := topRunT_spec r1
  rw [hb] at hr
  unfold openEnds
  rw [e0]
  show Option.map _ (topFrom treeTable p w 5828 _) = _
  unfold topFrom
  have hl : ((boot_heap w.params).isNs mainGlobals && (#[] : Array GenState).size == 0) = true := by rw [boot_look]; rfl
  simp only [hl]
  rw [hr]
  show Option.map _ (match (staticsOk (importedModules p.main.body) (boot_heap w.params) s₁.abs.heap && namesBound p s₁.abs.heap && gensDone s₁.abs && laidKept (boot_heap w.params) s₁.abs.heap) with | true => some s₁.abs | false => none) = _
  rw [g0]
  show some (openSeen q loose _ Xt true s₁.abs, Yf s₁.abs) = _
  rw [g1, g2]

theorem wake : opensWell PR = true := by kernel_rfl
noncomputable abbrev tP : Program := PySem.Challenge.rw_sa0229_01.row.prog
theorem tP_eq : PR = tP := rfl
noncomputable def keep : List Nat := [0, 1, 2, 3, 4, 6, 7, 9, 10, 11, 12, 13, 15, 16, 17, 18, 19, 20, 21, 22, 23, 24, 25, 26, 27, 28, 29, 30, 31, 32, 33, 34, 35, 36, 37, 38, 39, 40, 41, 42, 43, 45, 46, 47, 48, 49, 50, 51, 52, 53, 54, 55, 56, 57]
noncomputable def loose : List Str := [Str.ofString "CLAUSE_SORTS"]
noncomputable def looseV : List (Str × WData) := [(Str.ofString "CLAUSE_SORTS", WData.tuple [WData.int 0, WData.int 1, WData.int 2, WData.int 4])]
noncomputable def recs : WRecords := PySem.Challenge.rw_sa0229_01.row.toRowW.records
noncomputable def XtOf (p : Program) (s : Shared) : Bool := xlAt (view p keep) looseV s && recOk recs s
noncomputable def stp (p : Program) : World → SharedT → Thread → Option (SharedT × Thread) := fun w => stepT (denote treeTable) p w
noncomputable def stpQ : World → SharedT → Thread → Option (SharedT × Thread) := fun w => PySem.W.Fast.tw10156331382660048174 (PySem.W.Fast.tw11892475500146522536 PySem.W.Fast.tw14364793385576792824) tP w
theorem stp_eq : stp PR = stpQ := by
  unfold stp stpQ
  rw [tP_eq, PySem.W.Fast.te10156331382660048174, PySem.W.Fast.te11892475500146522536, PySem.W.Fast.te14364793385576792824]
noncomputable def runW (st : World → SharedT → Thread → Option (SharedT × Thread)) (p : Program) (w : World) (os : OsState) : Option SharedT :=
  topRunT (st w) (boot_heap w.params).objs.size ((boot_heap w.params).nsMap mainGlobals "__annotations__") 5828 (bootS w os) (topStub p)
theorem run_eq : runP PR = runW stpQ tP := by
  rw [← stp_eq, ← tP_eq]
  rfl
/-- what the top has left, looked at over the tree -/
noncomputable def sc (w : World) (s : SharedT) := PySem.W.Fast.tw4187177175401517315 (view tP keep) loose (importedModules tP.main.body) (XtOf tP) true s.abs
theorem seenA : ∀ w os, (runW stpQ tP w os).map (fun s => ((sc w s).1, (sc w s).2.1)) = some (expectedOf (view tP keep), bltViewBooted) := by
  intro w os
  kernel_rfl
theorem seenB : ∀ w os, (runW stpQ tP w os).map (fun s => ((sc w s).2.2.2.1, (sc w s).2.2.2.2.1, (sc w s).2.2.2.2.2.2.2.1)) = some (true, pinGoodD (drecsOf (view tP keep)), wideGood (view tP keep)) := by
  intro w os
  kernel_rfl
theorem seenC : ∀ w os, (runW stpQ tP w os).map (fun s => (sc w s).2.2.2.2.2.1) = some (plainGoodE (view tP keep) (looseW (view tP keep) loose)) := by
  intro w os
  kernel_rfl
theorem seenD : ∀ w os, (runW stpQ tP w os).map (fun s => (staticsOk (importedModules tP.main.body) (boot_heap w.params) s.abs.heap && namesBound tP s.abs.heap && gensDone s.abs && laidKept (boot_heap w.params) s.abs.heap,
      (sc w s).2.2.1, (sc w s).2.2.2.2.2.2.1, (sc w s).2.2.2.2.2.2.2.2)) = some (true, true, plainGoodD (view tP keep) loose, clsGoodW (view tP keep) loose) := by
  intro w os
  kernel_rfl
theorem map_some {α β : Type} {f : α → β} {x : Option α} {s : α} {b : β} (h : x.map f = some b) (e : x = some s) : f s = b := by
  subst e
  exact Option.some.inj h
theorem cond_ok : ∀ w os, (runP PR w os).map (fun s => staticsOk (importedModules PR.main.body) (boot_heap w.params) s.abs.heap && namesBound PR s.abs.heap && gensDone s.abs && laidKept (boot_heap w.params) s.abs.heap) = some true := by
  rw [run_eq, tP_eq]
  intro w os
  obtain ⟨s, e, g⟩ := Option.map_eq_some_iff.mp (seenD w os)
  simp only [Prod.mk.injEq] at g
  rw [e]
  exact congrArg some g.1
theorem seen_ok : ∀ w os, (runP PR w os).map (fun s => openSeen (view PR keep) loose (importedModules PR.main.body) (XtOf PR) true s.abs) = some (openGood (view PR keep) loose) := by
  rw [run_eq, tP_eq, PySem.W.Fast.te4187177175401517315]
  intro w os
  obtain ⟨s, e, g3⟩ := Option.map_eq_some_iff.mp (seenD w os)
  have g0 := map_some (seenA w os) e
  have g1 := map_some (seenB w os) e
  have g2 := map_some (seenC w os) e
  simp only [Prod.mk.injEq] at g0 g1 g3
  rw [e]
  show some (sc w s) = some (expectedOf (view tP keep), bltViewBooted, true, true, pinGoodD (drecsOf (view tP keep)), plainGoodE (view tP keep) (looseW (view tP keep) loose), plainGoodD (view tP keep) loose, wideGood (view tP keep), clsGoodW (view tP keep) loose)
  exact congrArg some (Prod.ext g0.1 (Prod.ext g0.2 (Prod.ext g3.2.1 (Prod.ext g1.1 (Prod.ext g1.2.1 (Prod.ext g2 (Prod.ext g3.2.2.1 (Prod.ext g1.2.2 g3.2.2.2))))))))
noncomputable def lookT (s : SharedT) (a : Addr) : Option Obj := match Nat.blt a s.n with
  | true => alive ((s.tree.get a).getD default)
  | false => none
theorem lookT_eq (s : SharedT) (a : Addr) : s.abs.heap.get? a = lookT s a := by
  unfold lookT
  cases h : Nat.blt a s.n with
  | true =>
    have h' : a < s.n := Nat.blt_eq.mp h
    show Heap.get? (absHeap s.tree s.n s.life) a = alive _
    unfold Heap.get?
    rw [absHeap_at, if_pos h']
    generalize (s.tree.get a).getD default = o
    obtain ⟨c, d, dt, sl⟩ := o
    cases dt <;> rfl
  | false =>
    exact abs_get_none fun h' => by rw [Nat.blt_eq.mpr h'] at h; cases h
/-- what the law says of itself, look by look -/
theorem looks_ok : looksOpen PySem.Challenge.rw_sa0229_01.row.prog = true := by
  unfold looksOpen
  iterate 5 (refine look_both ?_ (by decide +kernel))
  decide +kernel
theorem said_ok : PySem.Challenge.rw_sa0229_01.wellSaid = true := by
  unfold OpenLaw.wellSaid
  iterate 18 (refine look_both ?_ (by decide +kernel))
  unfold OpenRow.wellSaid
  iterate 2 (refine look_both ?_ (by decide +kernel))
  unfold OpenRow.partSaid
  iterate 13 (refine look_both ?_ (by decide +kernel))
  exact looks_ok
theorem obs_T {K : Params → Frag} {as : List Addr} {e : ∀ P, as = (K P).map (·.1)} (h : ∀ w os, (runP PR w os).map (fun s => as.map (lookT s)) = some ((K w.params).map fun p => some p.2)) :
    ∀ w os, (runP PR w os).map (fun s => (kHook K as e).obs s.abs) = some ((kHook K as e).val w) := fun w os => by
  rw [show (fun s : SharedT => (kHook K as e).obs s.abs) = fun s => as.map (lookT s) from funext fun s => List.map_congr_left fun a _ => lookT_eq s a]
  exact h w os
end Mine


local macro_rules | `(tactic| o_head $H) => `(tactic| (
  refine Mine.holds_openC' (q := view Mine.PR Mine.keep) (loose := Mine.loose) (Xt := Mine.XtOf Mine.PR) (XP := XL (view Mine.PR Mine.keep) Mine.looseV) (Yf := Hook.obs $H) (Ya := Hook.val $H) (YP := Hook.says $H) (N := 5828) ?hl (Hook.of $H) (Hook.keeps $H) (fun s e => xl_of s (Bool.and_eq_true_iff.mp e).1) XL.keeps (by rfl) (by rfl) (by rfl) (fun s e => recFacts_of (Bool.and_eq_true_iff.mp e).2) (by first | rfl) (by first | assumption | decide +kernel) (by decide +kernel) ⟨rfl, rfl, rfl, rfl, rfl, by decide +kernel⟩ ?hw ?hc
  case hl =>
    refine Mine.left_ok Mine.boot_prog Mine.boot_fence Mine.cond_ok Mine.seen_ok (Mine.obs_T ?_)
    rw [Mine.run_eq]
    intro w os
    kernel_rfl))
local macro_rules | `(tactic| o_law) => `(tactic| refine holds_law Mine.said_ok fun said => ?_)
set_option maxHeartbeats 8000000 in
open_top Mine.hd for PySem.Challenge.rw_sa0229_01

end
open PySem PySem.W PySem.Calls PyProof.Rows
namespace Mine
local macro_rules | `(tactic| omega) => `(tactic| first | lia | omega +splitDisjunctions)
local macro_rules | `(tactic| walk_at "ks") => `(tactic| (first | (k_unfold; (try dsimp only)) | (k_end; wrow_close) | (walk1 <;> (try dsimp only)) | (dsimp only; walk1) | (leave1; walk_say "STEP leave1"; try dsimp only) | fail "no step"))
local macro_rules | `(tactic| k_steps) => `(tactic| repeat' walk_at "ks")
theorem fill : (∀ P, hd.heap_1 P = hd.heap_1 P) ∧ PySem.Challenge.rw_sa0229_01 = PySem.Challenge.rw_sa0229_01 := by
  k_fill
  exact ⟨fun _ => rfl, rfl⟩
section
open PySem PySem.W PySem.Calls PyProof.Rows
noncomputable abbrev VW : Program := view Mine.PR Mine.keep
noncomputable abbrev LS : List Str := looseW (view Mine.PR Mine.keep) Mine.loose

noncomputable def KeepBut (D : List Addr) (h h' : Heap) : Prop := ∀ b o, b ∉ D → h.get? b = some o → h'.get? b = some o
theorem KeepBut.refl (D : List Addr) (h : Heap) : KeepBut D h h := fun _ _ _ e => e
theorem KeepBut.trans {D : List Addr} {h1 h2 h3 : Heap} (x : KeepBut D h1 h2) (y : KeepBut D h2 h3) : KeepBut D h1 h3 := fun b o n e => y b o n (x b o n e)
theorem KeepBut.mono {D D' : List Addr} {h h' : Heap} (x : KeepBut D h h') (k : ∀ b ∈ D, b ∈ D') : KeepBut D' h h' := fun b o n e => x b o (fun q => n (k b q)) e

noncomputable def Exc (base : Heap) (fr : List Env) (e : Addr) (h : Heap) : Prop := ∃ a0, Heap.FlyingW base fr e (.ref 51) a0 h

structure Site (w : World) (mean : ExcName → Option Value) (mg mb : Str → Option Value) (n : Nat) (A : Around) (base : Heap) (fr : List Env) (s : Shared) (D : List Addr) : Prop where
  B : Below A base fr s.heap
  K : (hd.heap_1 w.params).In base
  T : Top VW LS mean mg mb base
  hh : A.handled = none
  room : A.depth + n ≤ 900
  unit : A.units + 10 * n ≤ 9000
  fresh : ∀ d ∈ D, base.get? d = none
  apart : ∀ d ∈ D, ∀ env ∈ fr, env.frame ≠ some d

/-- what a call of the text's def at address f does -/
noncomputable def Spec (w : World) (mean : ExcName → Option Value) (mg mb : Str → Option Value) (n : Nat) (f : Addr) (vs : List Value) (D : List Addr) (pre : Heap → Prop) (post : Heap → Value → Heap → Prop) (exc : Prop) : Prop :=
  ∀ (A : Around) (base : Heap) (fr : List Env) (s : Shared) (Q E : Value → Shared → Prop), Site w mean mg mb n A base fr s D → pre s.heap →
    (∀ v h' tk, KeepBut D s.heap h' → post s.heap v h' → Q v { s with heap := h', toks := tk }) →
    (exc → ∀ e h' tk, Exc base fr e h' → (hideAll s.heap D).UpToSlots h' → E (.ref e) { s with heap := h', toks := tk }) →
    wpAny (model PySem.Challenge.rw_sa0229_01.row.prog w) A (call (.ref f) vs) Q E s

section
variable {w : World} {mean : ExcName → Option Value} {mg mb : Str → Option Value} {n : Nat} {A : Around} {base h₀ : Heap} {fr : List Env} {s : Shared} {L a : Addr} {m : Str → Option Value} {env : Env} {news : List (Addr × Obj)} {D : List Addr}

theorem frames_in {h base : Heap} {l : List Env} (x : h.FunFrames base l) : ∀ env ∈ l, ∃ L o, env.frame = some L ∧ h.get? L = some o := funFrames_in x

/-- the site of a call within a body -/
theorem Site.inner (B : Below A base fr h₀) (K : (hd.heap_1 w.params).In base) (T : Top VW LS mean mg mb base) (hh : A.handled = none) (r1 : A.depth + (n + 1) ≤ 900) (r2 : A.units + 10 * (n + 1) ≤ 9000)
    (F : Fr h₀ L s.heap m) (N : News h₀ L s.heap news) (hD : ∀ d ∈ D, d ∈ news.map (·.1)) (hk : env.frame = some L ∧ env.scope.kind = .function) :
    Site w mean mg mb n (A.deeper env) base (env :: fr) s D where
  B := pushX B F hk.1 hk.2
  K := K
  T := T
  hh := hh
  room := by show A.depth + 1 + n ≤ 900; omega
  unit := by show A.units + 3 + 10 * n ≤ 9000; omega
  fresh := fun d hd => by
    obtain ⟨p, hp, rfl⟩ := List.mem_map.mp (hD d hd)
    cases q : base.get? p.1 with
    | none => rfl
    | some o => have := B.stays _ _ q; rw [(N p hp).2.2] at this; cases this
  apart := fun d hd env he hf => by
    obtain ⟨p, hp, rfl⟩ := List.mem_map.mp (hD d hd)
    cases he with
    | head => exact (N p hp).2.1 (Option.some.inj (hk.1.symm.trans hf)).symm
    | tail _ he =>
      obtain ⟨L', o, hf', ho⟩ := frames_in B.frames env he
      rw [hf] at hf'
      rw [← Option.some.inj hf', (N p hp).2.2] at ho
      cases ho

theorem Fr.keepBut {h' : Heap} (F : Fr h₀ L s.heap m) (N : News h₀ L s.heap news) (hD : ∀ d ∈ D, d ∈ news.map (·.1)) (k : KeepBut D s.heap h') : Fr h₀ L h' m := by
  obtain ⟨oL, es, ep, hL, r⟩ := F.ns
  have nD : ∀ b o, h₀.get? b = some o → b ∉ D := fun b o e q => by
    obtain ⟨p, hp, rfl⟩ := List.mem_map.mp (hD b q)
    rw [(N p hp).2.2] at e; cases e
  have nL : L ∉ D := fun q => by
    obtain ⟨p, hp, e⟩ := List.mem_map.mp (hD L q)
    exact (N p hp).2.1 e
  exact ⟨⟨oL, es, ep, k L oL nL hL, r⟩, fun b o e => k b o (nD b o e) (F.keep b o e), F.above⟩

theorem News.keepBut {h' : Heap} {news' : List (Addr × Obj)} (N : News h₀ L s.heap news) (k : KeepBut D s.heap h') (hs : ∀ p ∈ news', p ∈ news ∧ p.1 ∉ D) : News h₀ L h' news' := fun p hp =>
  ⟨k _ _ (hs p hp).2 (N p (hs p hp).1).1, (N p (hs p hp).1).2⟩

/-- an exception that comes out of a call within a body leaves the body -/
theorem leaves {e : Addr} {h' : Heap} {tk : Nat} {E₀ E₁ : Value → Shared → Prop} (B : Below A base fr h₀) (F : Fr h₀ L s.heap m) (N : News h₀ L s.heap news) (hD : ∀ d ∈ D, d ∈ news.map (·.1))
    (X : Exc base (env :: fr) e h') (U : (hideAll s.heap D).UpToSlots h')
    (hE : ∀ e h' tk, Exc base fr e h' → h₀.UpToSlots h' → E₀ (.ref e) { s with heap := h', toks := tk }) (hk : env.frame = some L ∧ env.scope.kind = .function) {M : Model} :
    wpAny M (A.deeper env) (leaving env (.ref e)) (fun _ s'' => E₀ (.ref e) s'') E₁ { s with heap := h', toks := tk } := by
  obtain ⟨a0, X⟩ := X
  refine wpAny_leaves_onW (Around.frames_deeper B.stack) hk.1 X fun h'' x1 x2 => ?_
  refine hE e h'' tk ⟨a0, x1⟩ (Heap.UpToSlots.trans (Heap.UpToSlots.trans (Heap.UpToSlots.of_keeps fun b o q => ?_) U) x2)
  refine hideAll_get _ (F.keep b o q) fun hm => ?_
  obtain ⟨p, hp, rfl⟩ := List.mem_map.mp (hD b hm)
  rw [(N p hp).2.2] at q; cases q
end

section
variable {w : World} {mean : ExcName → Option Value} {mg mb : Str → Option Value} {n : Nat} {A : Around} {base : Heap} {fr : List Env} {s : Shared} {Q E : Value → Shared → Prop}
  {oc : Value} {od an : Option Addr} {name qual : Str} {params : Arguments} {body : List Stmt} {scope : Scope} {dV kV doc pm cdv ct : Value} {osl : Array (Option Value)} {f : Addr} {vs : List Value} {binds : List (Str × Value)}

/-- a def of the text is entered -/
theorem enterK {exc : Prop} (news : List (Addr × Obj)) (S : Site w mean mg mb (n + 1) A base fr s (news.map (·.1))) (hn : ∀ p ∈ news, s.heap.get? p.1 = some p.2)
    (ho : List.lookup f (hd.heap_1 w.params) = some ⟨oc, od, .func (fnOf name qual params body scope dV kV doc pm an cdv ct), osl⟩) (hcd : codeIn (hd.heap_1 w.params) cdv qual = true)
    (hbind : BindsTo s (fnOf name qual params body scope dV kV doc pm an cdv ct) ⟨vs, []⟩ binds) (hloc : ∀ y ∈ binds, scope.names.lookup y.1 = some .local)
    (hE : exc → ∀ e h' tk, Exc base fr e h' → (hideAll s.heap (news.map (·.1))).UpToSlots h' → E (.ref e) { s with heap := h', toks := tk })
    (h : ∀ g L h₁, (∀ b o, b ∉ news.map (·.1) → s.heap.get? b = some o → g.get? b = some o) → (∀ p ∈ news, p.1 < L) → Below A base fr g → (hd.heap_1 w.params).In g → Top VW LS mean mg mb g →
      Fr g L h₁ (fun y => binds.reverse.lookup y) → News g L h₁ news → s.heap.objs.size ≤ L →
      (exc → ∀ e h' tk, Exc base fr e h' → g.UpToSlots h' → E (.ref e) { s with heap := h', toks := tk }) →
      wpAny (model PySem.Challenge.rw_sa0229_01.row.prog w) (A.deeper (envOf qual scope L f cdv)) (execs body (envOf qual scope L f cdv)) (fun fl s' => Q (match fl with | .ret v => v | _ => .none) s')
        (fun e s' => wpAny (model PySem.Challenge.rw_sa0229_01.row.prog w) (A.deeper (envOf qual scope L f cdv)) (leaving (envOf qual scope L f cdv) e) (fun _ s'' => E e s'') (fun e' s'' => E e' s'') s')
        { s with heap := h₁, toks := s.toks + binds.length })
    (hco : scope.isCoroutine = false) (hgen : scope.isGenerator = false) (hk : scope.kind = .function) (hcell : ∀ x ∈ scope.names, x.2 ≠ .cell) :
    codeAny (model PySem.Challenge.rw_sa0229_01.row.prog w) A (.call (.ref f) ⟨vs, []⟩) (fun r s' => match r with | .ok (.ret v) => Q v s' | .ok _ => False | .error e => E e s') s := by
  have st : ∀ b o, base.get? b = some o → b ∉ news.map (·.1) := fun b o e q => by rw [S.fresh b q] at e; cases e
  have gk : ∀ b o, b ∉ news.map (·.1) → s.heap.get? b = some o → (hideAll s.heap (news.map (·.1))).get? b = some o := fun b o nm e => hideAll_get _ e nm
  have stg : base.StaysIn (hideAll s.heap (news.map (·.1))) := fun b o e => gk b o (st b o e) (S.B.stays b o e)
  have X := S.K.keeps S.B.stays
  refine (codeAny_call_def (fd := fnOf name qual params body scope dV kV doc pm an cdv ct) (body := body) (binds := binds) (Nat.lt_of_lt_of_le (show A.depth < 901 by have := S.room; omega) (by decide)) (X _ _ ho) rfl ((S.T.keeps S.B.stays).nolimit) (codeRec_of X hcd) rfl hbind hcell hloc (fun h₁ hns hk₁ => ?_) hco hgen hk)
  have B' : Below A base fr (hideAll s.heap (news.map (·.1))) := ⟨S.B.stack, stg, funFrames_hideAll S.B.frames fun env he b hb => S.apart b hb env he⟩
  have X' : (hd.heap_1 w.params).In (hideAll s.heap (news.map (·.1))) := S.K.keeps stg
  have T' : Top VW LS mean mg mb (hideAll s.heap (news.map (·.1))) := S.T.keeps stg
  refine wpAny_mono (h (hideAll s.heap (news.map (·.1))) s.heap.objs.size h₁ gk (fun p hp => Heap.lt_size (hn p hp)) B' X' T'
    ⟨hns, fun b o e => hk₁ b o (of_hideAll _ e), Nat.le_of_eq (hideAll_size _ _)⟩ (fun p hp => ⟨hk₁ _ _ (hn p hp), Nat.ne_of_lt (Heap.lt_size (hn p hp)), hideAll_none _ (List.mem_map_of_mem hp)⟩) (Nat.le_refl _) hE) (fun fl s' hl => hl) fun _ _ y => y
theorem enter {exc : Prop} (news : List (Addr × Obj)) (S : Site w mean mg mb (n + 1) A base fr s (news.map (·.1))) (hn : ∀ p ∈ news, s.heap.get? p.1 = some p.2)
    (ho : List.lookup f (hd.heap_1 w.params) = some ⟨oc, od, .func (fnOf name qual params body scope dV kV doc pm an cdv ct), osl⟩) (hcd : codeIn (hd.heap_1 w.params) cdv qual = true)
    (hbind : BindsTo s (fnOf name qual params body scope dV kV doc pm an cdv ct) ⟨vs, []⟩ binds) (hloc : ∀ y ∈ binds, scope.names.lookup y.1 = some .local)
    (hE : exc → ∀ e h' tk, Exc base fr e h' → (hideAll s.heap (news.map (·.1))).UpToSlots h' → E (.ref e) { s with heap := h', toks := tk })
    (h : ∀ g L h₁, (∀ b o, b ∉ news.map (·.1) → s.heap.get? b = some o → g.get? b = some o) → (∀ p ∈ news, p.1 < L) → Below A base fr g → (hd.heap_1 w.params).In g → Top VW LS mean mg mb g →
      Fr g L h₁ (fun y => binds.reverse.lookup y) → News g L h₁ news → s.heap.objs.size ≤ L →
      (exc → ∀ e h' tk, Exc base fr e h' → g.UpToSlots h' → E (.ref e) { s with heap := h', toks := tk }) →
      wpAny (model PySem.Challenge.rw_sa0229_01.row.prog w) (A.deeper (envOf qual scope L f cdv)) (execs body (envOf qual scope L f cdv)) (fun fl s' => Q (match fl with | .ret v => v | _ => .none) s')
        (fun e s' => wpAny (model PySem.Challenge.rw_sa0229_01.row.prog w) (A.deeper (envOf qual scope L f cdv)) (leaving (envOf qual scope L f cdv) e) (fun _ s'' => E e s'') (fun e' s'' => E e' s'') s')
        { s with heap := h₁, toks := s.toks + binds.length })
    (hco : scope.isCoroutine = false) (hgen : scope.isGenerator = false) (hk : scope.kind = .function) (hcell : ∀ x ∈ scope.names, x.2 ≠ .cell) :
    wpAny (model PySem.Challenge.rw_sa0229_01.row.prog w) A (call (.ref f) vs) Q E s :=
  wpAny_call (enterK news S hn ho hcd hbind hloc hE h hco hgen hk hcell)
end
/-- as Spec, over clean stacks -/
noncomputable def SpecC (w : World) (mean : ExcName → Option Value) (mg mb : Str → Option Value) (n : Nat) (f : Addr) (vs : List Value) (D : List Addr) (pre : Heap → Prop) (post : Heap → Value → Heap → Prop) (exc : Prop) : Prop :=
  ∀ (A : Around) (base : Heap) (fr : List Env) (s : Shared) (Q E : Value → Shared → Prop), Site w mean mg mb n A base fr s D → pre s.heap →
    (∀ v h' tk, KeepBut D s.heap h' → post s.heap v h' → Q v { s with heap := h', toks := tk }) →
    (exc → ∀ e h' tk, Exc base fr e h' → (hideAll s.heap D).UpToSlots h' → E (.ref e) { s with heap := h', toks := tk }) →
    wpC (model PySem.Challenge.rw_sa0229_01.row.prog w) A (call (.ref f) vs) Q E s
theorem Spec.toC {w : World} {mean : ExcName → Option Value} {mg mb : Str → Option Value} {n : Nat} {f : Addr} {vs : List Value} {D : List Addr} {pre : Heap → Prop} {post : Heap → Value → Heap → Prop} {exc : Prop} (h : Spec w mean mg mb n f vs D pre post exc) : SpecC w mean mg mb n f vs D pre post exc :=
  fun A base fr s Q E S hp ok er => wpC_of (h A base fr s Q E S hp ok er)
theorem Fr.kept {s : Shared} {D : List Addr} {g h' : Heap} {L : Addr} {m : Str → Option Value} (gk : ∀ b o, b ∉ D → s.heap.get? b = some o → g.get? b = some o) (F : Fr g L h' m) : KeepBut D s.heap h' := fun b o n e => F.keep b o (gk b o n e)
end
section
open PySem PySem.W PySem.Calls PyProof.Rows
open Builtin Builtin.ObjectAttr
/-! an exception of an own class that stands two steps above its built-in base, and whose base brings an __init__ -/
section
variable {prog : Program} {w : World} {A : Around} {E : Value → Shared → Prop} {R : Result → Shared → Prop} {h : Heap} {g : Array GenState} {d : Drawn} {t : Nat} {os : OsState}
variable {nm q : Str} {C N : Addr} {bs bm bmB : List Value} {hdct : Bool} {sn : List Str} {sub : List Value} {ab : Bool} {col : Option Bool} {dd : Option Addr} {k0 k1 k2 k3 k5 : Option Value} {B newId initId : String}
noncomputable abbrev freshExc (C t : Addr) : Obj := { cls := .ref C, data := .fields #[.ref t, .none, .none, .none, .bool false, .none] }
theorem check_newB (F : ExcBaseFacts B newId initId bmB) {M : Model} {rest : List Value} {Q : Unit → Shared → Prop} (hC : h.get? C = some (excClassObj nm q C N bs bm hdct sn sub ab col dd k0 k1 k2 k3 k5 newId))
    (c1 : (Value.ref C :: bm).contains (.type B) = true) (hq : Q () ⟨h, g, d, t, os⟩) : wpAny M A (checkBuiltinCall newId ⟨.ref C :: rest, []⟩) Q E ⟨h, g, d, t, os⟩ := by
  have hstar := F.noStar
  simp only [checkBuiltinCall, F.newKind, F.newSplit, F.newRow]
  repeat (first | refine wpAny_loadPart_at hC ?_ | (refine wpAny_isSubtype_exc hC ?_; rw [c1]) | refine wpAny_staticBase_exc hC ?_ | refine wpAny_madeBy_exc hC ?_ | simp only [bne_self_eq_false, Bool.false_eq_true, if_false] | wp_step)
  exact hq
theorem exc_newB (F : ExcBaseFacts B newId initId bmB) {rest : List Value} (hC : h.get? C = some (excClassObj nm q C N bs bm hdct sn sub ab col dd k0 k1 k2 k3 k5 newId))
    (c1 : (Value.ref C :: bm).contains (.type B) = true) (c2 : (Value.ref C :: bm).contains (.type "AttributeError") = false) (c3 : (Value.ref C :: bm).contains (.type "NameError") = false)
    (hq : R (.ok (.ret (.ref (h.objs.size + 1)))) ⟨(h.push { cls := .type "tuple", data := .seq rest.toArray }).push (freshExc C h.objs.size), g, d, t, os⟩) (hrest : rest.length ≤ sizeLine) :
    codeAny (model prog w) A (.builtin newId ⟨.ref C :: rest, []⟩) R ⟨h, g, d, t, os⟩ := by
  have hends := F.ends
  refine codeAny_builtinAt F.entry ?_
  unfold Builtin.«BaseException.__new__»
  refine PySem.wpAt_bind ?_
  show PySem.wpAt _ _ _ (stack >>= _) _ _ _
  refine PySem.wpAt_bind (PySem.wpAt_stack fun p below => PySem.wpAt_of_wpAny ?_)
  wp_walk
  refine PySem.wpAt_of_wpAny ?_
  rw [F.owner]
  repeat (first | with_reducible refine wpAny_madeHere_exc F.canon hC ?_ | with_reducible refine wpAny_loadPart_at hC ?_ | (with_reducible refine wpAny_isSubtype_exc hC ?_; first | rw [c1] | rw [c2] | rw [c3]) | wp_step)
  show R _ _
  rw [Heap.size_push]
  exact hq
theorem exc_typeCall (F : ExcBaseFacts B newId initId bmB) {rest : List Value} {fI : Addr} {oI : Obj} {Q : Fin → Shared → Prop}
    (hC : h.get? C = some (excClassObj nm q C N bs bm hdct sn sub ab col dd k0 k1 k2 k3 k5 newId)) (hi : Looks (model prog w) h (typeLookup (.ref C) "__init__") (some (.ref fI)))
    (hfI : h.get? fI = some oI) (hfc : oI.cls = .type "function")
    (c1 : (Value.ref C :: bm).contains (.type B) = true) (c2 : (Value.ref C :: bm).contains (.type "AttributeError") = false) (c3 : (Value.ref C :: bm).contains (.type "NameError") = false)
    (hq : ∀ h' e, Heap.MadeExcOf h h' e (.ref C) rest →
      wpAny (model prog w) A (call (.ref fI) (.ref e :: rest)) (fun r s' => r = .none ∧ Q (.done (.ret (.ref e))) s') E ⟨h', g, d, t, os⟩) (hrest : rest.length ≤ sizeLine) :
    wpAny (model prog w) A (Builtin.«type.__call__» ⟨.ref C :: rest, []⟩) Q E ⟨h, g, d, t, os⟩ := by
  repeat (first | with_reducible refine wpAny_loadPart_at hC ?_ | with_reducible refine wpAny_madeBy_exc hC ?_ | wp_step)
  refine codeAny_call_builtin_code (Code.quiet_builtin _ F.quiet) (check_newB F hC c1 ?_)
  refine exc_newB F hC c1 c2 c3 ?_ hrest
  show wpAny _ _ _ _ _ _
  have hk : ∀ b o, h.get? b = some o → ((h.push { cls := .type "tuple", data := .seq rest.toArray }).push (freshExc C h.objs.size)).get? b = some o := fun b o e => Heap.get?_push_of_some _ (Heap.get?_push_of_some _ e)
  have hC₁ := hk _ _ hC
  have hfI₁ := hk _ _ hfI
  have hget : ((h.push { cls := .type "tuple", data := .seq rest.toArray }).push (freshExc C h.objs.size)).get? (h.objs.size + 1) = some (freshExc C h.objs.size) := by heap_get
  have hcC : (Value.ref C :: bm).contains (.ref C) = true := by simp
  unfold isInstance
  repeat (first | with_reducible refine wpAny_loadPart_at hget ?_ | (with_reducible refine wpAny_isSubtype_exc hC₁ ?_; rw [hcC]) | wp_step)
  show wpAny _ _ (typeLookup (.ref C) _) _ _ _
  refine (hi.keeps hk).here ?_
  refine wpAny_holding (wpAny_bind ?_)
  unfold bindSpecial
  refine wpAny_bind (wpAny_typeOf (T := "function") ⟨_, hfI₁, hfc⟩ ?_)
  rw [if_pos (by decide)]
  refine wpAny_pure (wpAny_bind (wpAny_mono (hq _ (h.objs.size + 1) ⟨hk, Heap.get?_none_of_le (Nat.le_succ _), h.objs.size, hget, Heap.get?_none_of_le (Nat.le_refl _), ?_⟩) (fun r s' hr => ?_) fun _ _ x => x))
  · exact Heap.get?_push_of_some _ (Heap.get?_push_at rfl rfl)
  · obtain ⟨rfl, hQ⟩ := hr
    wp_walk
    exact hQ
theorem exc_call (F : ExcBaseFacts B newId initId bmB) {rest : List Value} {fI : Addr} {oI : Obj} {Q : Value → Shared → Prop}
    (hC : h.get? C = some (excClassObj nm q C N bs bm hdct sn sub ab col dd k0 k1 k2 k3 k5 newId)) (hi : Looks (model prog w) h (typeLookup (.ref C) "__init__") (some (.ref fI)))
    (hfI : h.get? fI = some oI) (hfc : oI.cls = .type "function")
    (c1 : (Value.ref C :: bm).contains (.type B) = true) (c2 : (Value.ref C :: bm).contains (.type "AttributeError") = false) (c3 : (Value.ref C :: bm).contains (.type "NameError") = false)
    (hq : ∀ h' e, Heap.MadeExcOf h h' e (.ref C) rest →
      wpAny (model prog w) (A.under (.builtin "type.__call__" ⟨.ref C :: rest, []⟩)) (call (.ref fI) (.ref e :: rest)) (fun r s' => r = .none ∧ Q (.ref e) s') E ⟨h', g, d, t, os⟩) (hrest : rest.length ≤ sizeLine) :
    wpAny (model prog w) A (call (.ref C) rest) Q E ⟨h, g, d, t, os⟩ := by
  have f1 := tc_lookup
  have f2 := tc_bind (.ref C)
  have hT : (⟨h, g, d, t, os⟩ : Shared).TypeIs (.ref C) "type" := ⟨_, hC, rfl⟩
  refine wpAny_call (codeAny_of_tree ?_)
  show wpAny _ _ (callAny (.ref C) _) _ _ _
  repeat (any_goals (first | assumption | with_reducible refine wpAny_loadPart_at hC ?_ | wp_step))
  refine ⟨rfl, ?_⟩
  refine codeAny_call_builtin_at (Code.quiet_builtin _ (by decide +kernel)) entry_typeCall (wpAny_check_type_call_sub hC (exc_typeCall F hC hi hfI hfc c1 c2 c3 (fun h' e hm => ?_) hrest))
  exact hq h' e hm
end
end
section
open PySem PySem.W PySem.Calls PyProof.Rows
open Builtin Builtin.ObjectAttr

theorem refuse_exc (self : Value) (c1 c2 : Addr) : refuseLoop self "__setattr__" [.ref c1, .ref c2, .type "Exception", .type "BaseException", .type "object"] = pure () := by
  rw [refuseLoop_ref, refuseLoop_ref]
  exact PySem.F.store_Exception.passes self
/-- a BadImage that its __init__ still fills; all of h₀ stands -/
structure ExcAt (h₀ h : Heap) (e : Addr) (t : Addr) (k : Nat) : Prop where
  new : h₀.get? e = none
  keep : ∀ b o, h₀.get? b = some o → h.get? b = some o
  at_ : ∃ od, h.get? e = some { cls := .ref 51, dict := od, data := .fields #[.ref t, .none, .none, .none, .bool false, .none] } ∧ (od = none ∨ ∃ dx mA ns, od = some dx ∧ dx ≠ e ∧ h₀.get? dx = none ∧ h.Ns1 dx mA ∧ Within mA ns ∧ ns.length ≤ k)
section
variable {w : World} {A : Around} {E : Value → Shared → Prop} {R : Result → Shared → Prop} {s : Shared} {name : Str} {v : Value} {e t : Addr} {k : Nat} {h₀ : Heap}
noncomputable abbrev MD (w : World) : Model := model PySem.Challenge.rw_sa0229_01.row.prog w
theorem exc_type {h : Heap} (hx : ExcAt h₀ h e t k) {M : Model} : Looks M h (typeOf (.ref e)) (.ref 51) := by
  obtain ⟨od, hx, _⟩ := hx.at_
  exact (Looks.ld hx).andThen .now
theorem exc_store {tk : Tok} {cd : ClassData} (X₀ : (hd.heap_1 w.params).In h₀) (I : ExcAt h₀ s.heap e t k) (hk : k ≤ 1000) (hcd : clsIn (hd.heap_1 w.params) 51 = some cd) (hm : cd.mro = [.ref 51, .ref 38, .type "Exception", .type "BaseException", .type "object"]) (hdct : cd.hasDict = true)
    (hs : subIn (hd.heap_1 w.params) (.ref 51) (.type "object") = some true) (ht : findIn (hd.heap_1 w.params) (.ref 51) name = some none)
    (hq : ∀ h' tk', ExcAt h₀ h' e t (k + 1) → R (.ok (.ret .none)) { s with heap := h', toks := tk' }) :
    codeAny (MD w) A (.call (.builtin "object.__setattr__") ⟨[.ref e, .str name tk, v], []⟩) R s := by
  have X := X₀.keeps I.keep
  have SF := PySem.F.store_object
  have TY := exc_type (M := MD w) I
  have sub : Looks (MD w) s.heap (isInstance (.ref e) (.type "object")) true := TY.andThen (looks_subIn X hs)
  refine codeAny_call_builtin SF.slot.plain SF.entry (@check_slot (MD w) _ _ s "object.__setattr__" "object" "__setattr__" (.ref e) [.str name tk, v] [] _ SF.kind SF.split sub (SF.args (.ref e) (.str name tk) v) ?_)
  have hmr : Looks (MD w) s.heap (mroOf (.ref 51)) cd.mro := (looks_clsIn X hcd).andThen .now
  rw [osa_eq, refuse_eq]
  refine wpAny_bind (wpAny_bind (TY.here (wpAny_bind (hmr.here ?_))))
  rw [hm, refuse_exc]
  refine wpAny_pure (wpAny_bind (TY.here (wpAny_bind ((looks_findIn X ht).here ?_))))
  refine wpAny_bind (wpAny_pure ?_)
  show wpAny _ _ (storeInOwnDict (.ref e) (.ref 51) (.str name tk) name v false) _ _ _
  obtain ⟨hnew, hkeep, od, hx, hd⟩ := I
  unfold storeInOwnDict ownDictForStores instanceDict
  refine wpAny_bind (wpAny_pure (wpAny_bind (wpAny_bind (wpAny_loadPart hx (wpAny_bind ((looks_clsIn X hcd).here ?_))))))
  rw [hdct]
  have nem : ∀ b o, h₀.get? b = some o → b ≠ e := fun b o e1 q => by rw [q, hnew] at e1; cases e1
  rcases hd with rfl | ⟨dx, mA, ns, rfl, hne', hdx, hns, hw, hl⟩
  · have hx₁ : (s.heap.push { cls := .type "dict", data := .dict #[] }).get? e = some { cls := .ref 51, dict := none, data := .fields #[.ref t, .none, .none, .none, .bool false, .none] } := Heap.get?_push_of_some _ hx
    have hxs : e ≠ s.heap.objs.size := Nat.ne_of_lt (Heap.lt_size hx)
    show wpAny _ _ (alloc { cls := .type "dict", data := .dict #[] } >>= _) _ _ _
    refine wpAny_bind (wpAny_alloc ?_)
    refine wpAny_bind (wpAny_update hx₁ ?_)
    show wpAny _ _ (pure _) _ _ _
    refine wpAny_pure ?_
    have hgd : ((s.heap.push { cls := .type "dict", data := .dict #[] }).update e fun o => { o with dict := some s.heap.objs.size }).get? s.heap.objs.size = some { cls := .type "dict", data := .dict #[] } :=
      (Heap.get?_update_ne _ _ _ _ hxs.symm).trans (Heap.get?_push_at rfl rfl)
    have hnd : ((s.heap.push { cls := .type "dict", data := .dict #[] }).update e fun o => { o with dict := some s.heap.objs.size }).Ns s.heap.objs.size (fun _ => none) :=
      ⟨_, #[], _, hgd, rfl, fun e he => absurd he (by simp), fun _ => rfl⟩
    show wpAny _ _ (storeInDict s.heap.objs.size (.str name tk) name v) _ _ _
    unfold storeInDict newKeyGuard
    refine wpAny_bind (wpAny_pure (wpAny_bind (wpAny_nsSet1 (Heap.Ns1.of_empty hnd) fun h' hn' hs => ?_)))
    obtain ⟨oD, esD, epD, hoD, hdD, hcD⟩ := hn'.count (Within.cons name v Within.nil)
    refine wpAny_bind (wpAny_lookBehind hoD (by rw [hdD]; exact pastItsLine_dict (Nat.le_trans hcD (by rw [List.length_cons, List.length_nil, sizeLine_eq]; omega))) ?_)
    have h0s : h₀.get? s.heap.objs.size = none := by
      cases q : h₀.get? s.heap.objs.size with
      | none => rfl
      | some o => exact absurd (Heap.lt_size (hkeep _ _ q)) (Nat.lt_irrefl _)
    refine wpAny_pure (hq h' _ ⟨hnew, fun b o e1 => ?_, some s.heap.objs.size, (hs.2 e hxs).trans (Heap.get?_update_self _ hx₁ rfl), .inr ⟨_, _, _, rfl, hxs.symm, h0s, hn', Within.cons name v Within.nil, by simp⟩⟩)
    exact (hs.2 b (Nat.ne_of_lt (Heap.lt_size (hkeep _ _ e1)))).trans ((Heap.get?_update_ne _ _ _ _ (nem b o e1)).trans (Heap.get?_push_of_some _ (hkeep _ _ e1)))
  · show wpAny _ _ (pure _) _ _ _
    refine wpAny_pure ?_
    show wpAny _ _ (storeInDict dx (.str name tk) name v) _ _ _
    unfold storeInDict newKeyGuard
    refine wpAny_bind (wpAny_pure (wpAny_bind (wpAny_nsSet1 hns fun h' hn' hs => ?_)))
    obtain ⟨oD, esD, epD, hoD, hdD, hcD⟩ := hn'.count (Within.cons name v hw)
    refine wpAny_bind (wpAny_lookBehind hoD (by rw [hdD]; exact pastItsLine_dict (Nat.le_trans hcD (by rw [List.length_cons, sizeLine_eq]; omega))) ?_)
    refine wpAny_pure (hq h' _ ⟨hnew, fun b o e1 => (hs.2 b fun q => by rw [q, hdx] at e1; cases e1).trans (hkeep _ _ e1), some dx, (hs.2 e hne'.symm).trans hx, .inr ⟨_, _, _, rfl, hne', hdx, hn', Within.cons name v hw, by rw [List.length_cons]; omega⟩⟩)
theorem exc_set {Q : Unit → Shared → Prop} {cd : ClassData} (X₀ : (hd.heap_1 w.params).In h₀) (I : ExcAt h₀ s.heap e t k) (hk : k ≤ 1000) (hcd : clsIn (hd.heap_1 w.params) 51 = some cd) (hm : cd.mro = [.ref 51, .ref 38, .type "Exception", .type "BaseException", .type "object"]) (hdct : cd.hasDict = true)
    (hs : subIn (hd.heap_1 w.params) (.ref 51) (.type "object") = some true) (ht : findIn (hd.heap_1 w.params) (.ref 51) name = some none)
    (hsa : findIn (hd.heap_1 w.params) (.ref 51) "__setattr__" = some (some (.builtin "object.__setattr__")))
    (hq : ∀ h' tk', ExcAt h₀ h' e t (k + 1) → Q () { s with heap := h', toks := tk' }) :
    wpAny (MD w) A (setAttr (.ref e) name v) Q E s := by
  refine wpAny_bind (wpAny_mkText (wpAny_bind (wpAny_bind (wpAny_bind (exc_type I _ _ _ _ (fun _ _ e => e) (looks_findIn (X₀.keeps I.keep) hsa _ _ _ _ (fun _ _ e => e) (wpAny_holding ?_)))))))
  rw [PySem.F.store_object.slot.bind]
  refine wpAny_bind (wpAny_pure (wpAny_bind (wpAny_call (codeAny_mono (exc_store (s := { s with toks := s.toks + 1 }) X₀ I hk hcd hm hdct hs ht (R := fun r s' => match r with | .ok (.ret v) => Q () s' | .ok _ => False | .error e => False) hq) fun r s' z => ?_))))
  rcases r with e | (v | _ | _ | _) <;> first | exact z.elim | exact wpAny_pure (wpAny_pure z)
end

/-- what stands behind «BadImage(a, b)» -/
noncomputable def MadeBad (h h' : Heap) (e : Addr) : Prop := (∀ b o, h.get? b = some o → h'.get? b = some o) ∧ h.get? e = none ∧ ∃ t od, h'.get? e = some { cls := .ref 51, dict := od, data := .fields #[.ref t, .none, .none, .none, .bool false, .none] }
theorem Site.underMake {w : World} {mean : ExcName → Option Value} {mg mb : Str → Option Value} {n : Nat} {A : Around} {base : Heap} {fr : List Env} {s s' : Shared} {D D' : List Addr} {vs : List Value}
    (S : Site w mean mg mb (n + 1) A base fr s D) (k : ∀ b o, s.heap.get? b = some o → s'.heap.get? b = some o) (f1 : ∀ d ∈ D', base.get? d = none) (f2 : ∀ d ∈ D', ∀ env ∈ fr, env.frame ≠ some d) {C : Addr} :
    Site w mean mg mb n (A.under (.builtin "type.__call__" ⟨.ref C :: vs, []⟩)) base fr s' D' where
  B := ⟨S.B.stack, fun b o e => k b o (S.B.stays b o e), S.B.frames.of_keeps fun b o e _ => ⟨o, k b o e, rfl⟩⟩
  K := S.K
  T := S.T
  hh := S.hh
  room := by
    have := S.room
    show A.depth + (Code.builtin "type.__call__" ⟨.ref C :: vs, []⟩).weight + n ≤ 900
    have : (Code.builtin "type.__call__" ⟨.ref C :: vs, []⟩).weight = 1 := rfl
    omega
  unit := by
    have := S.unit
    show A.units + (Code.builtin "type.__call__" ⟨.ref C :: vs, []⟩).cUnits + 10 * n ≤ 9000
    have : (Code.builtin "type.__call__" ⟨.ref C :: vs, []⟩).cUnits = 1 := rfl
    omega
  fresh := f1
  apart := f2
noncomputable abbrev badObj : Obj := excClassObj (Str.ofString "BadImage") (Str.ofString "BadImage") 51 50 [.ref 38] [.ref 38, .type "Exception", .type "BaseException", .type "object"] true [] [] false none none (some (.ref 42)) none
  (some (.str (Str.ofString "BadImage") 235)) (some (.str (Str.ofString "BadImage") 243)) (some (.bool true)) "Exception.__new__"
theorem bad_obj {w : World} : List.lookup 51 (hd.heap_1 w.params) = some badObj := by k_is
theorem bad_init {w : World} : findIn (hd.heap_1 w.params) (.ref 51) "__init__" = some (some (.ref 35)) := by k_is
set_option maxHeartbeats 2000000 in
theorem bad_call {w : World} {mean : ExcName → Option Value} {mg mb : Str → Option Value} {n : Nat} {A : Around} {base : Heap} {fr : List Env} {s : Shared} {D : List Addr} {v1 v2 : Value} {Q E : Value → Shared → Prop}
    (S : Site w mean mg mb (n + 3) A base fr s D) (hq : ∀ h' e tk, MadeBad s.heap h' e → Q (.ref e) { s with heap := h', toks := tk }) : wpAny (MD w) A (call (.ref 51) [v1, v2]) Q E s := by
  have X := S.K.keeps S.B.stays
  have hC := X _ _ (bad_obj (w := w))
  have hi : findIn (hd.heap_1 w.params) (.ref 51) "__init__" = some (some (.ref 35)) := bad_init
  obtain ⟨oI, hoI, hcI⟩ : ∃ o, List.lookup 35 (hd.heap_1 w.params) = some o ∧ o.cls = .type "function" := ⟨_, by k_is, rfl⟩
  obtain ⟨hp, gg, dd, tt, os⟩ := s
  refine exc_call (rest := [v1, v2]) PySem.F.excBase_Exception hC (looks_findIn X hi) (X _ _ hoI) hcI (by decide) (by decide) (by decide) (fun h' e hm => ?_) (show 2 ≤ sizeLine by decide)
  obtain ⟨t, hte, htn, htt⟩ := hm.there
  have S' := S.underMake (n := n + 2) (D' := [e]) (C := 51) (vs := [v1, v2]) (s' := ⟨h', gg, dd, tt, os⟩) hm.keeps (fun d hd => ?_) (fun d hd env he hf => ?_)
  rotate_left
  · obtain rfl : d = e := by simpa using hd
    cases q : base.get? d with
    | none => rfl
    | some o => have := S.B.stays _ _ q; rw [hm.new] at this; cases this
  · obtain rfl : d = e := by simpa using hd
    obtain ⟨L', o, hf', ho⟩ := frames_in S.B.frames env he
    rw [hf] at hf'
    rw [← Option.some.inj hf', hm.new] at ho
    cases ho
  refine enter (binds := [(Str.ofString "self", .ref e), (Str.ofString "code", v1), (Str.ofString "at", v2)]) [(e, freshExc 51 t)] S' (fun p hp => by cases hp with | head => exact hte | tail _ q => nomatch q) (by k_is) (by k_is) (BindsTo.of_eq rfl) (locs rfl) (exc := False) (fun q => q.elim) ?_ rfl rfl rfl (by decide)
  intro g L h₁ gk lt B X T F N sz hE
  (try dsimp only)
  k_fold
  have hcls : clsIn (hd.heap_1 w.params) 51 = some { name := Str.ofString "BadImage", bases := [.ref 38], mro := [.ref 51, .ref 38, .type "Exception", .type "BaseException", .type "object"], ns := 50, qualname := Str.ofString "BadImage" } := by k_is
  have hsub : subIn (hd.heap_1 w.params) (.ref 51) (.type "object") = some true := by k_is
  have ht1 : findIn (hd.heap_1 w.params) (.ref 51) (Str.ofString "code") = some none := by k_is
  have ht2 : findIn (hd.heap_1 w.params) (.ref 51) (Str.ofString "at") = some none := by k_is
  have hsa : findIn (hd.heap_1 w.params) (.ref 51) (Str.ofString "__setattr__") = some (some (.builtin "object.__setattr__")) := by k_is
  have hh' : ∀ b o, hp.get? b = some o → g.get? b = some o := fun b o q => gk b o (fun hm' => by
    obtain rfl : b = e := by simpa using hm'
    rw [hm.new] at q; cases q) (hm.keeps b o q)
  have heN := N (e, freshExc 51 t) (List.mem_cons_self ..)
  have ne : ∀ b o, g.get? b = some o → b ∉ [e] := fun b o q hm' => by
    obtain rfl : b = e := by simpa using hm'
    rw [heN.2.2] at q; cases q
  have kg : ∀ b o, g.get? b = some o → (hideAll h₁ [e]).get? b = some o := fun b o q => hideAll_get _ (F.keep b o q) (ne b o q)
  have I₀ : ExcAt (hideAll h₁ [e]) h₁ e t 0 := ⟨hideAll_none _ (List.mem_singleton_self _), fun b o q => of_hideAll _ q, none, heN.1, .inl rfl⟩
  have fr : ∀ {h'' : Heap} {k : Nat}, ExcAt (hideAll h₁ [e]) h'' e t k → Fr g L h'' (fun y => List.lookup y [(Str.ofString "at", v2), (Str.ofString "code", v1), (Str.ofString "self", .ref e)]) := fun I => by
    obtain ⟨oL, es, ep, hL, r⟩ := F.ns
    exact ⟨⟨oL, es, ep, I.keep _ _ (hideAll_get _ hL fun hm' => heN.2.1 (List.mem_singleton.mp hm').symm), r⟩, fun b o q => I.keep b o (kg b o q), F.above⟩
  have XX := X.keeps kg
  refine wpAny_execs_cons (plainObj_wpAny_Assign_Attribute (ld F rfl (ld F rfl (exc_set XX I₀ (by decide) hcls rfl rfl hsub ht1 hsa fun h2 tk2 I₂ => ?_))))
  have F₂ := fr I₂
  refine wpAny_execs_cons (plainObj_wpAny_Assign_Attribute (ld F₂ rfl (ld F₂ rfl (exc_set (s := ⟨h2, gg, dd, tk2, os⟩) XX I₂ (by decide) hcls rfl rfl hsub ht2 hsa fun h3 tk3 I₃ => ?_))))
  refine wpAny_execs_nil ⟨rfl, hq h3 e tk3 ⟨fun b o q => I₃.keep b o (kg b o (hh' b o q)), hm.new, t, ?_⟩⟩
  obtain ⟨od, x, _⟩ := I₃.at_
  exact ⟨od, x⟩
theorem Raise_bad {w : World} {A : Around} {env : Env} {x : Expr} {pos : Pos} {s : Shared} {Q : Flow → Shared → Prop} {E : Value → Shared → Prop} (hh : A.handled = none)
    (h : wpAny (MD w) A (eval x env) (fun v s₁ => ∃ e h₀, v = .ref e ∧ h₀.get? 51 = some badObj ∧ MadeBad h₀ s₁.heap e ∧ E (.ref e) s₁) E s) : wpAny (MD w) A (exec (.Raise (some x) none pos) env) Q E s := by
  rw [arm_exec_Raise]
  show wpAny _ A (do standAt pos; raiseStmt env (some (do let v ← eval x env; standAt pos; pure v)) none) Q E s
  refine wpAny_bind (wpAny_standAt ?_)
  unfold raiseStmt
  refine wpAny_bind (wpAny_mono (Q := fun v s₁ => ∃ e h₀, v = .ref e ∧ h₀.get? 51 = some badObj ∧ MadeBad h₀ s₁.heap e ∧ E (.ref e) s₁) (wpAny_bind (wpAny_mono h (fun v s₃ h₃ => wpAny_bind (wpAny_standAt (wpAny_pure h₃))) fun _ _ x => x)) (fun v s₁ h₁ => ?_) fun _ _ x => x)
  obtain ⟨e, h₀, rfl, hC, ⟨kp, hn, t, od, he⟩, hE⟩ := h₁
  have hC := kp _ _ hC
  have hcB : (Value.ref 51 :: [Value.ref 38, .type "Exception", .type "BaseException", .type "object"]).contains (.type "BaseException") = true := by decide
  obtain ⟨hp, g, d, tk, os⟩ := s₁
  repeat (first | with_reducible refine wpAny_loadPart_at he ?_ | with_reducible refine wpAny_loadPart_at hC ?_ | (with_reducible refine wpAny_isSubtype_exc hC ?_; rw [hcB]) | wp_step)
  exact wpAny_raiseNew_none hh hE

/-- an own exception, made in a body, leaves it -/
theorem leaves_bad {w : World} {A : Around} {base h₀ h₁ : Heap} {fr : List Env} {L e : Addr} {m : Str → Option Value} {env : Env} {s : Shared} {E₀ E₁ : Value → Shared → Prop}
    (B : Below A base fr h₀) (F : Fr h₀ L h₁ m) (I : MadeBad h₁ s.heap e) (hk : env.frame = some L ∧ env.scope.kind = .function)
    (hE : ∀ e h' tk, Exc base fr e h' → h₀.UpToSlots h' → E₀ (.ref e) { s with heap := h', toks := tk }) {M : Model} :
    wpAny M (A.deeper env) (leaving env (.ref e)) (fun _ s'' => E₀ (.ref e) s'') E₁ s := by
  obtain ⟨hp, g, d, tk, os⟩ := s
  obtain ⟨kp, hn, t, od, he⟩ := I
  have hn₀ : h₀.get? e = none := by
    cases q : h₀.get? e with
    | none => rfl
    | some o => have := F.keep _ _ q; rw [hn] at this; cases this
  have hnb : base.get? e = none := by
    cases q : base.get? e with
    | none => rfl
    | some o => have := B.stays _ _ q; rw [hn₀] at this; cases this
  have B' := pushX B F hk.1 hk.2
  have ff : hp.FunFrames base (env :: fr) := B'.frames.of_keeps fun b o q _ => ⟨o, kp b o q, rfl⟩
  have st : base.StaysIn hp := fun b o q => kp b o (B'.stays b o q)
  refine wpAny_leaving_firstW (Around.frames_deeper B.stack) ff hk.1 he st hnb rfl rfl rfl fun h' hl => ?_
  obtain ⟨k1, ⟨_, _, k2⟩, k3, k4⟩ := hl
  refine hE e h' tk ⟨_, k1, hnb, k2, k3⟩ (Heap.UpToSlots.trans (Heap.UpToSlots.of_keeps fun b o q => kp b o (F.keep b o q)) k4)
end
section
open PySem PySem.W PySem.Calls PyProof.Rows
section
variable {w : World} {mean : ExcName → Option Value} {mg mb : Str → Option Value} {n n' : Nat} {A : Around} {base h₀ : Heap} {fr : List Env} {s s₀ : Shared} {L a : Addr} {m : Str → Option Value} {env : Env}
  {news : List (Addr × Obj)} {D D₀ : List Addr} {Q E₀ E₁ : Value → Shared → Prop} {f : Addr} {vs : List Value} {pre : Heap → Prop} {post : Heap → Value → Heap → Prop} {exc : Prop} {g : Array GenState} {dr : Drawn} {os : OsState}

theorem Site.body (S : Site w mean mg mb n' A base fr s₀ D₀) (B : Below A base fr h₀) (F : Fr h₀ L s.heap m) (N : News h₀ L s.heap news) (hD : ∀ d ∈ D, d ∈ news.map (·.1)) (hk : env.frame = some L ∧ env.scope.kind = .function) (hn : n + 1 ≤ n') :
    Site w mean mg mb n (A.deeper env) base (env :: fr) s D :=
  Site.inner B S.K S.T S.hh (by have := S.room; omega) (by have := S.unit; omega) F N hD hk

/-- a call of a function that changes nothing that stood before -/
theorem use (h : Spec w mean mg mb n f vs D pre post exc) (S : Site w mean mg mb n' A base fr s₀ D₀) (B : Below A base fr h₀) (F : Fr h₀ L s.heap m) (N : News h₀ L s.heap news)
    (hD : ∀ d ∈ D, d ∈ news.map (·.1)) (hn : n + 1 ≤ n') (hk : env.frame = some L ∧ env.scope.kind = .function) (hp : pre s.heap)
    (ok : ∀ v h' tk, KeepBut D s.heap h' → Fr h₀ L h' m → post s.heap v h' → Q v { s with heap := h', toks := tk })
    (er : exc → ∀ e h' tk, Exc base fr e h' → h₀.UpToSlots h' → E₀ (.ref e) { s with heap := h', toks := tk }) :
    wpAny (MD w) (A.deeper env) (call (.ref f) vs) Q
      (fun e s' => wpAny (MD w) (A.deeper env) (leaving env e) (fun _ s'' => E₀ e s'') (fun e' s'' => E₁ e' s'') s') s :=
  h _ base _ s Q _ (S.body B F N hD hk hn) hp (fun v h' tk k p => ok v h' tk k (Fr.keepBut F N hD k) p) fun q e h' tk X U => leaves B F N hD X U (er q) hk
theorem bad_use {v1 v2 : Value} {E : Value → Shared → Prop} (S : Site w mean mg mb n' A base fr s₀ D₀) (B : Below A base fr h₀) (F : Fr h₀ L s.heap m) (hn : 4 ≤ n') (hk : env.frame = some L ∧ env.scope.kind = .function)
    (hq : ∀ h' e tk, MadeBad s.heap h' e → Q (.ref e) { s with heap := h', toks := tk }) : wpAny (MD w) (A.deeper env) (call (.ref 51) [v1, v2]) Q E s :=
  bad_call (n := 0) (D := []) (S.body (n := 3) (news := []) B F (fun _ q => nomatch q) (fun _ q => nomatch q) hk hn) hq
/-- «raise BadImage(a, b)» in a body -/
theorem bad_raise {v1 v2 : Value} (S : Site w mean mg mb n' A base fr s₀ D₀) (B : Below A base fr h₀) (F : Fr h₀ L s.heap m) (hn : 4 ≤ n') (hk : env.frame = some L ∧ env.scope.kind = .function)
    (hE : ∀ e h' tk, Exc base fr e h' → h₀.UpToSlots h' → E₀ (.ref e) { s with heap := h', toks := tk }) {M : Model} :
    wpAny (MD w) (A.deeper env) (call (.ref 51) [v1, v2]) (fun v s₁ => ∃ e h₀, v = .ref e ∧ h₀.get? 51 = some badObj ∧ MadeBad h₀ s₁.heap e ∧
      wpAny M (A.deeper env) (leaving env (.ref e)) (fun _ s'' => E₀ (.ref e) s'') (fun e' s'' => E₁ e' s'') s₁)
      (fun e s' => wpAny M (A.deeper env) (leaving env e) (fun _ s'' => E₀ e s'') (fun e' s'' => E₁ e' s'') s') s :=
  bad_use S B F hn hk fun h' e tk I => ⟨e, s.heap, rfl, (S.K.keeps (fun b o q => F.keep b o (B.stays b o q))) _ _ bad_obj, I, leaves_bad (w := w) (s := { s with heap := h', toks := tk }) B F I hk hE⟩
/-- the entry of an object's own dictionary -/
noncomputable abbrev ent (w : World) (name : String) (t : Tok) (v : Value) : DictEntry := ⟨PyData.keyHash w.params (Str.ofString name), .str (Str.ofString name) t, v⟩
end
end
section
open PySem PySem.W PySem.Spec PyProof.V PyProof.Rows
theorem or_eq (x y : Int) : Builtin.bitOr x y = x + y - Builtin.bitAnd x y := bitOr_and x y
theorem and_zero (d : Int) : Builtin.bitAnd 0 d = 0 := by
  have h := kbt_mask 0 0
  have := bitAnd_range d (y := 0) (by omega)
  rw [bitAnd_comm]; omega
theorem and_shift : ∀ (k : Nat) (x d : Int), 0 ≤ x → x < 2 ^ k → Builtin.bitAnd x (d * 2 ^ k) = 0
  | 0, x, d, h0, h1 => by
    have : x = 0 := by simp at h1; omega
    rw [this]; exact and_zero _
  | k + 1, x, d, h0, h1 => by
    rw [kbt_halves, show d * 2 ^ (k + 1) / 2 = d * 2 ^ k by rw [Int.pow_succ, ← Int.mul_assoc]; omega,
      and_shift k (x / 2) d (by omega) (by rw [Int.pow_succ] at h1; omega)]
    have : ¬(d * 2 ^ (k + 1) % 2 = 1) := by rw [Int.pow_succ, ← Int.mul_assoc]; omega
    simp [this]
theorem or_shift (k : Nat) (x d : Int) (h0 : 0 ≤ x) (h1 : x < 2 ^ k) : Builtin.bitOr x (d * 2 ^ k) = x + d * 2 ^ k := by
  rw [or_eq, and_shift k x d h0 h1]; omega
noncomputable abbrev le1 (ks : List Int) (i : Nat) : Int := ks.getD i 0
noncomputable def le2 (ks : List Int) (i : Nat) : Int := ks.getD i 0 + 256 * ks.getD (i + 1) 0
noncomputable def le4 (ks : List Int) (i : Nat) : Int := ks.getD i 0 + 256 * ks.getD (i + 1) 0 + 65536 * ks.getD (i + 2) 0 + 16777216 * ks.getD (i + 3) 0
theorem or_le1 (a : Int) : Builtin.bitOr 0 (a * 2 ^ 0) = a := by rw [or_shift 0 0 a (by omega) (by decide)]; omega
theorem or_le2 (a b : Int) (ha : 0 ≤ a) (ha' : a < 256) : Builtin.bitOr (Builtin.bitOr 0 (a * 2 ^ 0)) (b * 2 ^ 8) = a + 256 * b := by
  rw [or_le1, or_shift 8 a b ha (by omega)]; omega
theorem or_le4 (a b c d : Int) (ha : 0 ≤ a) (ha' : a < 256) (hb : 0 ≤ b) (hb' : b < 256) (hc : 0 ≤ c) (hc' : c < 256) :
    Builtin.bitOr (Builtin.bitOr (Builtin.bitOr (Builtin.bitOr 0 (a * 2 ^ 0)) (b * 2 ^ 8)) (c * 2 ^ 16)) (d * 2 ^ 24) = a + 256 * b + 65536 * c + 16777216 * d := by
  rw [or_le2 a b ha ha', show a + 256 * b = a + 256 * b from rfl, or_shift 16 _ c (by omega) (by omega), or_shift 24 _ d (by omega) (by omega)]; omega
end
section
open PySem PySem.W PySem.Spec PyProof.V PyProof.Rows
theorem sec_all : ∀ n : Fin 128, (Builtin.bitAnd ((n.val : Nat) : Int) (Builtin.bitNot (Builtin.bitOr 64 128)) = 1 ↔ (n.val = 1 ∨ n.val = 65)) ∧ (Builtin.bitAnd ((n.val : Nat) : Int) 64 = 0 ↔ n.val / 64 % 2 = 0) ∧ Builtin.bitAnd ((n.val : Nat) : Int) 128 = 0 := by decide +kernel
theorem sec_bits {v : Int} (h0 : 0 ≤ v) (h1 : v < 128) : (Builtin.bitAnd v (Builtin.bitNot (Builtin.bitOr 64 128)) = 1 ↔ (v = 1 ∨ v = 65)) ∧ (Builtin.bitAnd v 64 = 0 ↔ v / 64 % 2 = 0) ∧ Builtin.bitAnd v 128 = 0 := by
  obtain ⟨n, rfl⟩ := Int.eq_ofNat_of_zero_le h0
  have z := sec_all ⟨n, by omega⟩
  simp only at z
  refine ⟨z.1.trans (by omega), z.2.1.trans (by omega), z.2.2⟩
end
section
open PySem PySem.W PySem.Calls PyProof.Rows
theorem and_m1 (x : Int) : Builtin.bitAnd x (-1) = x := by
  have e : (Builtin.bitNot (-1)).toNat = 0 := by decide
  cases x with
  | ofNat a => simp [Builtin.bitAnd, e]
  | negSucc a =>
    have z : (Builtin.bitNot (Int.negSucc a)).toNat = a := by rw [kbt_not]; omega
    show Builtin.bitNot (((Builtin.bitNot (Int.negSucc a)).toNat ||| (Builtin.bitNot (-1)).toNat : Nat) : Int) = _
    rw [e, z, Nat.or_zero, kbt_not]
    omega
theorem bitF {x : Int} : Builtin.bitAnd x (Builtin.bitNot (Builtin.bitOr 8 16)) = 12291 ↔ (x = 12291 ∨ x = 12299 ∨ x = 12307 ∨ x = 12315) := by
  have e : Builtin.bitNot (Builtin.bitOr 8 16) = -25 := by decide
  rw [e, kbt_halves x, kbt_halves (x / 2), kbt_halves (x / 2 / 2), kbt_halves (x / 2 / 2 / 2), kbt_halves (x / 2 / 2 / 2 / 2)]
  rw [show (-25 / 2 / 2 / 2 / 2 / 2 : Int) = -1 by decide, and_m1]
  have c : ((-25 : Int) % 2 = 1) ∧ ((-25 : Int) / 2 % 2 = 1) ∧ ((-25 : Int) / 2 / 2 % 2 = 1) ∧ ¬ ((-25 : Int) / 2 / 2 / 2 % 2 = 1) ∧ ¬ ((-25 : Int) / 2 / 2 / 2 / 2 % 2 = 1) := by decide
  simp only [c, and_true, and_false, if_false]
  (repeat' split) <;> omega
theorem bit3 (x : Int) : Builtin.bitAnd x 3 = x % 4 := kbt_mask x 2
theorem bit8 (x : Int) : Builtin.bitAnd x 8 = (x / 8 % 2) * 8 := kbt_bit x 3
theorem fdiv4 (v : Int) : v.fdiv (2 ^ Int.toNat 2) = v / 4 := by rw [Int.fdiv_eq_ediv_of_nonneg _ (by decide)]; rfl
theorem or_le8 (a b : Int) (ha : 0 ≤ a) (ha' : a < 256) : Builtin.bitOr a (b * 2 ^ Int.toNat 8) = a + 256 * b := (or_shift 8 a b ha ha').trans (by rw [Int.mul_comm b]; rfl)
end
section
open PySem PySem.W PySem.Calls PyProof.Rows
theorem bb_bytes : typeLookup (.type "bytes") "__bytes__" = pure (some (.builtin "bytes.__bytes__")) := by rw [typeLookup_type, builtinLookup_eq_fast]; kernel_rfl
theorem ba_bytes : typeLookup (.type "bytearray") "__bytes__" = pure none := by rw [typeLookup_type, builtinLookup_eq_fast]; kernel_rfl
theorem ba_index : typeLookup (.type "bytearray") "__index__" = pure none := by rw [typeLookup_type, builtinLookup_eq_fast]; kernel_rfl
theorem ba_buffer : typeLookup (.type "bytearray") "__buffer__" = pure (some (.builtin "bytearray.__buffer__")) := by rw [typeLookup_type, builtinLookup_eq_fast]; kernel_rfl
section
variable {prog : Program} {w : World} {A : Around} {E : Value → Shared → Prop} {s : Shared}
theorem bb_new {b : Array UInt8} {t : Tok} {Q : Value → Shared → Prop} (hQ : Q (.bytes b t) s) :
    codeAny (model prog w) A (.call (.builtin "bytes.__new__") ⟨[.type "bytes", .bytes b t], []⟩) (wants Q E) s := by
  refine codeAny_of_tree ?_
  show wpAny _ A.in1 (do checkBuiltinCall "bytes.__new__" ⟨[.type "bytes", .bytes b t], []⟩; again (.builtin "bytes.__new__" ⟨[.type "bytes", .bytes b t], []⟩)) _ _ s
  refine wpAny_bind (wpAny_of_eq (F.bm_newCall _) (wpAny_pure ⟨plainId_quiet F.bm_plain _, codeAny_builtin F.bm_entry ?_⟩))
  rw [Around.under_plainId F.bm_plain _]
  unfold Builtin.«bytes.__new__»
  refine wpAny_bind (wpAny_of_eq (a := true) rfl ?_)
  refine bm_if_false rfl ?_
  refine wpAny_bind (wpAny_of_eq F.bm_sub ?_)
  refine bm_if_false rfl ?_
  refine wpAny_bind (wpAny_of_eq (F.bm_bind _) ?_)
  refine wpAny_bind (wpAny_of_eq (a := ()) rfl ?_)
  refine wpAny_bind (wpAny_of_eq (a := ()) rfl ?_)
  refine bm_if_false rfl ?_
  refine wpAny_bind (wpAny_specialOf (typeIs_bytes _ _ _) bb_bytes ?_)
  refine wpAny_bind (wpAny_rule ?_)
  refine wpAny_bind (wpAny_of_eq (a := Value.type "bytes") rfl ?_)
  refine bm_if_true rfl ?_
  show wpAny _ _ (if (Value.type "bytes" == Value.type "bytes") = true then _ else _) _ _ _
  refine bm_if_true (by decide) ?_
  first
    | exact wpAny_pure hQ
    | exact wpAny_bind (wpAny_pure (wpAny_pure hQ))
theorem call_bytes_bytes {b : Array UInt8} {t : Tok} {Q : Value → Shared → Prop} (hQ : Q (.bytes b t) s) : wpAny (model prog w) A (call (.type "bytes") [.bytes b t]) Q E s := by
  refine callType_codes (Q₁ := fun obj s₁ => s₁.TypeIs obj "bytes" ∧ Q obj s₁) F.bm_called (F.bm_typeCall _) F.entry_object_init
    (bb_new ⟨PySem.W.typeIs_bytes _ _ _, hQ⟩) fun obj s₁ h₁ => ?_
  exact ⟨h₁.1, F.args_object_init_2 obj _, object_init_meets F.bm_called.init.lookup F.bm_called.made (by decide) prog w A.in1 _ s₁ ⟨h₁.1, rfl, h₁.2⟩⟩

theorem C_call_entry {T : String} {name : Str} {id : String} {b : Builtin} {self : Value} {rest : List Value} {Q : Value → Shared → Prop} (h : Slot T name id) (hT : s.TypeIs self T) (hb : entryFor table id = some b) (hd : dirtyIds.contains id = false)
    (hc : wpC (model prog w) A.in1 (b ⟨self :: rest, []⟩) (fun fin s' => ∃ v, fin = .done (.ret v) ∧ Q v s') E s) (ha : argsOk id ⟨self :: rest, []⟩) :
    wpC (model prog w) A (call (.builtin id) (self :: rest)) Q E s := by
  refine wpC_call (codeC_of_tree rfl ?_)
  show wpC _ A.in1 (do checkBuiltinCall id ⟨self :: rest, []⟩; again (.builtin id ⟨self :: rest, []⟩)) _ _ s
  refine wpC_bindA (h.check _ _ _ _ _ _ _ _ hT ha (wpC_pure ⟨plainId_quiet h.plain _, codeC_of_tree hd ?_⟩))
  rw [Around.under_plainId h.plain _]
  show wpC _ _ (match entryFor table id with | some b => b ⟨self :: rest, []⟩ | none => unsupported ((withoutEnding? id "#data").getD id)) _ _ s
  rw [hb]
  refine wpC_mono hc (fun fin s' h' => ?_) fun _ _ h' => h'
  obtain ⟨v, rfl, hv⟩ := h'
  exact hv
theorem wpC_ite_false {α : Type} {M : Model} {c : Bool} {a b : Sem α} {Q : α → Shared → Prop} (hc : c = false) (h : wpC M A b Q E s) : wpC M A (if c = true then a else b) Q E s := by
  subst hc
  exact h
theorem wpC_ite_true {α : Type} {M : Model} {c : Bool} {a b : Sem α} {Q : α → Shared → Prop} (hc : c = true) (h : wpC M A a Q E s) : wpC M A (if c = true then a else b) Q E s := by
  subst hc
  exact h
end
section
open Builtin.Bytes
variable {M : Model} {A : Around} {E : Value → Shared → Prop} {s : Shared}
theorem wpC_exported {v : Value} {Q : Bool → Shared → Prop} (h : Q false s) : wpC M A (exported v) Q E s := fun Γ p hΓ a b => by
  have hany : ∀ {f : Code × Pos → Bool}, (∀ x, Dirty x.1 = false → f x = false) → Q (((Γ.code, p) :: Γ.below).any f) s := fun {f} hf => by
    rw [List.any_eq_false.mpr fun x hx => by
      rcases List.mem_cons.mp hx with rfl | hx
      · rw [hf _ a]; exact Bool.false_ne_true
      · rw [hf x (b x hx)]; exact Bool.false_ne_true]
    exact h
  unfold exported
  refine hany fun x hx => ?_
  obtain ⟨c, q⟩ := x
  cases c with
  | builtin id args =>
    obtain ⟨pos, kw⟩ := args
    have ne : ∀ z : String, dirtyIds.contains z = true → id ≠ z := fun z hz e => by
      subst e
      exact Bool.noConfusion (hz.symm.trans hx)
    unfold exported.match_1
    show (if h : id = _ then _ else _) = false
    rw [dif_neg (ne "bytearray.__contains__" (by decide)), dif_neg (ne "bytearray.__mod__" (by decide)), dif_neg (ne "bytearray.__rmod__" (by decide)), dif_neg (ne "_struct.pack_into.held" (by decide)), dif_neg (ne "bytearray.find.held" (by decide))]
    cases pos with
    | nil => rfl
    | cons v l =>
      have : decodersThatHold.contains id = false := by
        have hx' : dirtyIds.contains id = false := hx
        unfold dirtyIds at hx'
        rw [List.contains_eq_any_beq, List.any_append, Bool.or_eq_false_iff] at hx'
        rw [List.contains_eq_any_beq]
        exact hx'.2
      show (_ && decodersThatHold.contains id) = false
      rw [this, Bool.and_false]
  | _ => rfl
end
end
section
open PySem PySem.W PySem.Calls PyProof.Rows
section
variable {prog : Program} {w : World} {A : Around} {E : Value → Shared → Prop} {s : Shared}
theorem dirty_b {id : String} {args : Args} (h : dirtyIds.contains id = false) : Dirty (.builtin id args) = false := h
theorem codeC_builtin {id : String} {args : Args} {b : Builtin} {R : Result → Shared → Prop} (hd : dirtyIds.contains id = false) (hb : entryFor table id = some b)
    (h : wpC (model prog w) (A.under (.builtin id args)) (b args)
      (fun fin s' => match fin with | .done f => R (.ok f) s' | .again c' => c'.quiet = true ∧ codeC (model prog w) A c' R s') (fun e s' => R (.error e) s') s) :
    codeC (model prog w) A (.builtin id args) R s := by
  refine codeC_of_tree (dirty_b hd) ?_
  show wpC _ _ (match entryFor table id with | some b => b args | none => unsupported ((withoutEnding? id "#data").getD id)) _ _ s
  rw [hb]; exact h
theorem C_callType {T newId initId : String} {args : List Value} {Q Q₁ : Value → Shared → Prop} (ft : TypeCalled T newId initId) (hct : checkTypeCall T ⟨args, []⟩ = pure ())
    (hnew : codeAny (model prog w) A.in1 (.call (.builtin newId) ⟨.type T :: args, []⟩) (wants Q₁ E) s)
    (hinit : ∀ obj s₁, Q₁ obj s₁ → s₁.TypeIs obj T ∧ wpC (model prog w) A.in1 (call (.builtin initId) (obj :: args)) (fun r s₂ => r = .none ∧ Q obj s₂) E s₁) :
    wpC (model prog w) A (call (.type T) args) Q E s := by
  obtain ⟨c, tl, hmro⟩ := ft.mro
  refine wpC_call (codeC_of_tree rfl ?_)
  show wpC _ _ (callAny (.type T) _) _ _ _
  refine wpC_pure ⟨Code.quiet_builtin _ (by decide +kernel), codeC_builtin (by decide +kernel) F.entry_type_call ?_⟩
  rw [Around.under_plain (weight_type_call_type T args []) rfl]
  unfold Builtin.«type.__call__»
  dsimp only
  rw [ft.notType, ft.canCreate]
  refine wpC_ite_false rfl ?_
  refine wpC_ite_false rfl ?_
  rw [hct, hmro]
  refine wpC_bindA (wpAny_pure ?_)
  refine wpC_bindA (wpAny_pure ?_)
  refine wpC_ite_false rfl ?_
  rw [ft.made]
  refine wpC_bindA (wpAny_pure ?_)
  dsimp only
  refine wpC_bindA (wpAny_pure ?_)
  refine wpC_bindA (wpAny_holding (wpAny_call (codeAny_mono hnew fun r s₁ hr => ?_)))
  cases r with
  | error e => exact hr
  | ok fl =>
    cases fl with
    | ret obj =>
      obtain ⟨hT, hin⟩ := hinit obj s₁ hr
      refine wpC_bindA (wpAny_isInstance hT ft.sub ?_)
      refine wpC_ite_false rfl ?_
      refine wpC_bind (wpC_holding ?_)
      unfold callSpecial?
      refine wpC_bindA (wpAny_specialOf hT ft.init.lookup ?_)
      refine wpC_holding (wpC_bindA (wpAny_of_eq (ft.init.bind obj) ?_))
      refine wpC_bind (wpC_mono hin (fun r s₂ hr₂ => ?_) fun _ _ x => x)
      obtain ⟨rfl, hq⟩ := hr₂
      refine wpC_pure ?_
      exact wpC_ite_false (by decide) (wpC_pure hq)
    | _ => exact hr.elim

noncomputable abbrev baObj (bs : Array UInt8) : Obj := { cls := .type "bytearray", data := .bytearray bs 0 }
theorem ba_append : Slot "bytearray" "append" "bytearray.append" :=
  .of (owner := "bytearray") (n := "append") (by rw [typeLookup_type, builtinLookup_eq_fast]; kernel_rfl) (by decide +kernel) (by decide +kernel) (by decide +kernel)
    (by first | exact .inl (by decide +kernel) | exact .inr (by decide +kernel)) (by rw [isSubtype_type]; kernel_rfl)
theorem ba_extend : Slot "bytearray" "extend" "bytearray.extend" :=
  .of (owner := "bytearray") (n := "extend") (by rw [typeLookup_type, builtinLookup_eq_fast]; kernel_rfl) (by decide +kernel) (by decide +kernel) (by decide +kernel)
    (by first | exact .inl (by decide +kernel) | exact .inr (by decide +kernel)) (by rw [isSubtype_type]; kernel_rfl)
theorem ba_init : Slot "bytearray" "__init__" "bytearray.__init__" :=
  .of (owner := "bytearray") (n := "__init__") (by rw [typeLookup_type, builtinLookup_eq_fast]; kernel_rfl) (by decide +kernel) (by decide +kernel) (by decide +kernel)
    (by first | exact .inl (by decide +kernel) | exact .inr (by decide +kernel)) (by rw [isSubtype_type]; kernel_rfl)
theorem ba_len : Slot "bytearray" "__len__" "bytearray.__len__" :=
  .of (owner := "bytearray") (n := "__len__") (by rw [typeLookup_type, builtinLookup_eq_fast]; kernel_rfl) (by decide +kernel) (by decide +kernel) (by decide +kernel)
    (by first | exact .inl (by decide +kernel) | exact .inr (by decide +kernel)) (by rw [isSubtype_type]; kernel_rfl)
theorem ba_ty_append : typeOf (.builtin "bytearray.append") = pure (.type "method_descriptor") := by show builtinType _ = _; rw [builtinType_eq_fast]; kernel_rfl
theorem ba_ty_extend : typeOf (.builtin "bytearray.extend") = pure (.type "method_descriptor") := by show builtinType _ = _; rw [builtinType_eq_fast]; kernel_rfl
theorem ba_e_append : entryFor table "bytearray.append" = some Builtin.«bytearray.append» := by first | exact entryFor_of_fast (by kernel_rfl) | exact entryFor_of_tree (by kernel_rfl)
theorem ba_e_extend : entryFor table "bytearray.extend" = some Builtin.«bytearray.extend» := by first | exact entryFor_of_fast (by kernel_rfl) | exact entryFor_of_tree (by kernel_rfl)
theorem ba_e_init : entryFor table "bytearray.__init__" = some Builtin.«bytearray.__init__» := by first | exact entryFor_of_fast (by kernel_rfl) | exact entryFor_of_tree (by kernel_rfl)
theorem ba_e_len : entryFor table "bytearray.__len__" = some Builtin.«bytearray.__len__» := by first | exact entryFor_of_fast (by kernel_rfl) | exact entryFor_of_tree (by kernel_rfl)
theorem ba_a_append (a b : Value) : argsOk "bytearray.append" ⟨[a, b], []⟩ := by unfold argsOk; kernel_rfl
theorem ba_a_extend (a b : Value) : argsOk "bytearray.extend" ⟨[a, b], []⟩ := by unfold argsOk; kernel_rfl
theorem ba_a_init (a : Value) : argsOk "bytearray.__init__" ⟨[a], []⟩ := by unfold argsOk; kernel_rfl
theorem ba_a_len (a : Value) : argsOk "bytearray.__len__" ⟨[a], []⟩ := by unfold argsOk; kernel_rfl
theorem ba_plain : PlainAttrs "bytearray" :=
  ⟨⟨"bytearray.__getattribute__", by rw [typeLookup_type, builtinLookup_eq_fast]; kernel_rfl, by decide +kernel⟩, by rw [typeLookup_type, builtinLookup_eq_fast]; kernel_rfl⟩
theorem buffer_eq' {id : String} {b : Array UInt8} {t : Tok} {full : Bool} : Builtin.Bytes.buffer? id (.bytes b t) full = pure (some b) := by
  unfold Builtin.Bytes.buffer?
  rw [KBy.special_eq KBy.look_buffer, KBy.own_buffer, KBy.own_release]
  kernel_rfl
theorem takeQuiet_eq {id : String} {b : Array UInt8} {t : Tok} : Builtin.Bytes.takeBufferQuiet? id (.bytes b t) 0 = pure (some (b, none)) := by
  unfold Builtin.Bytes.takeBufferQuiet? Builtin.Bytes.takeBuffer?
  rw [KBy.special_eq KBy.look_buffer, KBy.own_buffer, buffer_eq']
  kernel_rfl
open Builtin.Bytes in
theorem C_checkResize {M : Model} {a : Addr} {bs : Array UInt8} {Q : Unit → Shared → Prop} (hb : s.heap.get? a = some (baObj bs)) (h : Q () s) : wpC M A (checkResize (.ref a)) Q E s := by
  unfold checkResize
  refine wpC_bind ?_
  refine wpC_bind (wpC_exported ?_)
  refine wpC_of ?_
  show wpAny _ _ (exportsOf (.ref a) >>= fun x => pure (decide (x > 0))) _ _ _
  unfold exportsOf
  refine wpAny_bind (wpAny_bind (wpAny_load hb (wpAny_pure (wpAny_pure ?_))))
  exact wpC_ite_false rfl (wpC_pure h)
open Builtin.Bytes in
theorem C_write {M : Model} {a : Addr} {bs : Array UInt8} {f : Array UInt8 → Array UInt8} {Q : Unit → Shared → Prop} (hb : s.heap.get? a = some (baObj bs)) (hz : (f bs).size ≤ sizeLine)
    (h : ∀ h', h'.get? a = some (baObj (f bs)) → Heap.SameBut a s.heap h' → Q () { s with heap := h' }) : wpAny M A (Builtin.Bytes.write (.ref a) f) Q E s := by
  show wpAny _ _ (updateBytearray a f) _ _ _
  unfold updateBytearray
  refine wpAny_bind (wpAny_load hb ?_)
  show wpAny _ _ (update a (Obj.mapBytearray f) >>= fun _ => lookBehind a) _ _ _
  refine wpAny_bind (wpAny_update hb ?_)
  have hS₂ : (s.heap.update a (Obj.mapBytearray f)).get? a = some (baObj (f bs)) := Heap.get?_update_self (Obj.mapBytearray f) hb rfl
  refine wpAny_lookBehind hS₂ ?_ (h _ hS₂ (Heap.SameBut.update ..))
  show (if (f bs).size > sizeLine then some "bytearray:memory" else none) = none
  rw [if_neg (by omega)]
theorem C_append {a : Addr} {bs : Array UInt8} {n : Int} {t : Tok} {Q : Value → Shared → Prop} (hb : s.heap.get? a = some (baObj bs)) (h0 : 0 ≤ n) (h1 : n < 256) (hz : bs.size < sizeLine)
    (h : ∀ h', h'.get? a = some (baObj (bs.push n.toNat.toUInt8)) → Heap.SameBut a s.heap h' → Q .none { s with heap := h' }) : wpC (model prog w) A (call (.builtin "bytearray.append") [.ref a, .int n t]) Q E s := by
  refine C_call_entry ba_append ⟨_, hb, rfl⟩ ba_e_append (by decide +kernel) ?_ (ba_a_append _ _)
  unfold Builtin.«bytearray.append»
  refine wpC_bindA (wpAny_of_eq (a := (Value.ref a, Value.int n t)) rfl ?_)
  dsimp only
  refine wpC_bindA ?_
  unfold Builtin.Bytes.byteValue
  refine wpAny_bind (wpAny_of_eq (rfl : asIndex (.int n t) = pure n) ?_)
  refine bm_if_false (by simp only [Bool.or_eq_false_iff, decide_eq_false_iff_not]; omega) (wpAny_pure ?_)
  refine wpC_bind (C_checkResize hb ?_)
  refine wpC_bindA (C_write hb (by rw [Array.size_push]; omega) fun h' e1 e2 => ?_)
  exact wpC_pure ⟨.none, rfl, h h' e1 e2⟩
theorem C_extend {a : Addr} {bs b : Array UInt8} {t : Tok} {Q : Value → Shared → Prop} (hb : s.heap.get? a = some (baObj bs)) (hz : bs.size + b.size ≤ sizeLine)
    (h : ∀ h', h'.get? a = some (baObj (bs ++ b)) → Heap.SameBut a s.heap h' → Q .none { s with heap := h' }) : wpC (model prog w) A (call (.builtin "bytearray.extend") [.ref a, .bytes b t]) Q E s := by
  refine C_call_entry ba_extend ⟨_, hb, rfl⟩ ba_e_extend (by decide +kernel) ?_ (ba_a_extend _ _)
  unfold Builtin.«bytearray.extend»
  refine wpC_bindA (wpAny_of_eq (a := (Value.ref a, Value.bytes b t)) rfl ?_)
  dsimp only
  refine wpC_bindA (wpAny_of_eq (KBy.special_eq KBy.look_buffer) ?_)
  refine wpC_ite_true rfl ?_
  refine wpC_bindA (wpAny_rule ?_)
  refine wpC_bindA ?_
  unfold Builtin.Bytes.payload Builtin.Bytes.payload?
  refine wpAny_bind (wpAny_bind (wpAny_load hb ?_))
  refine wpAny_pure (wpAny_pure ?_)
  refine wpC_bindA (wpAny_of_eq takeQuiet_eq ?_)
  dsimp only
  refine wpC_ite_true rfl ?_
  show wpC _ _ (if (!b.isEmpty) = true then (Builtin.Bytes.checkResize (.ref a) >>= fun _ => (Builtin.Bytes.write (.ref a) (· ++ b) >>= fun _ => ret .none)) else (Builtin.Bytes.write (.ref a) (· ++ b) >>= fun _ => ret .none)) _ _ _
  have rest : wpC (model prog w) A.in1 (Builtin.Bytes.write (.ref a) (· ++ b) >>= fun _ => ret .none) (fun fin s' => ∃ v, fin = .done (.ret v) ∧ Q v s') E s :=
    wpC_bindA (C_write hb (by rw [Array.size_append]; exact hz) fun h' e1 e2 => wpC_pure ⟨.none, rfl, h h' e1 e2⟩)
  by_cases he : (!b.isEmpty) = true
  · rw [if_pos he]
    exact wpC_bind (C_checkResize hb rest)
  · rw [if_neg he]
    exact rest
theorem ba_owner : ("list.__new__".splitOn ".__new__").headD "" = "list" := owner_list_new
theorem ba_mro : mroOf (.type "bytearray") = pure [.type "bytearray", .type "object"] := by rw [mroOf_type]; kernel_rfl
theorem ba_lookup_new : typeLookup (.type "bytearray") "__new__" = pure (some (.builtin "bytearray.__new__")) := by rw [typeLookup_type, builtinLookup_eq_fast]; kernel_rfl
theorem ba_called : TypeCalled "bytearray" "bytearray.__new__" "bytearray.__init__" :=
  ⟨by decide +kernel, by decide +kernel, ⟨_, _, ba_mro⟩, madeBy_type ba_mro ba_lookup_new (by decide +kernel), by decide +kernel, by rw [isSubtype_type]; kernel_rfl, ba_init⟩
theorem ba_typeCall : checkTypeCall "bytearray" ⟨[], []⟩ = pure () := by kernel_rfl
theorem ba_newCall : checkBuiltinCall "bytearray.__new__" ⟨[.type "bytearray"], []⟩ = pure () := by kernel_rfl
theorem ba_plain_new : plainId "bytearray.__new__" = true := by decide +kernel
theorem ba_release : typeLookup (.type "bytearray") "__release_buffer__" = pure (some (.builtin "bytearray.__release_buffer__")) := by rw [typeLookup_type, builtinLookup_eq_fast]; kernel_rfl
theorem ba_sub : isSubtype (.type "bytearray") (.type "bytearray") = pure true := F.sub_bytearray_bytearray
theorem ba_optional : Builtin.Bytes.bindOptional "bytearray.__init__" "bytearray" ["source", "encoding", "errors"] [] [] = pure [none, none, none] := by kernel_rfl
theorem ba_slotOwn {a : Addr} {bs : Array UInt8} {M : Model} {Q : Bool → Shared → Prop} (hb : s.heap.get? a = some (baObj bs)) (h : Q false s) : wpAny M A (Builtin.Bytes.ownRelease (.ref a)) Q E s := by
  unfold Builtin.Bytes.ownRelease Builtin.Bytes.slotIsOwn
  refine wpAny_bind (wpAny_bind (wpAny_specialOf ⟨_, hb, rfl⟩ ba_release ?_))
  refine bm_if_false (by decide +kernel) ?_
  have key : ∀ x : String, x = "bytearray" → wpAny M A (isInstance (.ref a) (.type x)) (fun r s' => wpAny M A (pure !r) Q E s') E s := fun x hx => by
    subst hx
    exact wpAny_isInstance ⟨_, hb, rfl⟩ ba_sub (wpAny_pure h)
  exact key _ (by decide +kernel)
theorem C_init {a : Addr} {Q : Value → Shared → Prop} (hb : s.heap.get? a = some (baObj #[]))
    (h : ∀ h', h'.get? a = some (baObj #[]) → Heap.SameBut a s.heap h' → Q .none { s with heap := h' }) : wpC (model prog w) A (call (.builtin "bytearray.__init__") [.ref a]) Q E s := by
  refine C_call_entry ba_init ⟨_, hb, rfl⟩ ba_e_init (by decide +kernel) ?_ (ba_a_init _)
  unfold Builtin.«bytearray.__init__»
  refine wpC_bindA (ba_slotOwn hb ?_)
  refine wpC_ite_false rfl ?_
  refine wpC_bindA (wpAny_of_eq ba_optional ?_)
  refine wpC_bindA (wpAny_of_eq (a := ()) rfl ?_)
  refine wpC_bindA (wpAny_of_eq (a := ()) rfl ?_)
  refine wpC_bind (wpC_bind (wpC_exported ?_))
  refine wpC_of ?_
  show wpAny _ _ (Builtin.Bytes.exportsOf (.ref a) >>= fun x => pure (decide (x > 0))) _ _ _
  unfold Builtin.Bytes.exportsOf
  refine wpAny_bind (wpAny_bind (wpAny_load hb (wpAny_pure (wpAny_pure ?_))))
  refine wpC_ite_false rfl ?_
  refine wpC_bindA (C_write hb (Nat.zero_le _) fun h' e1 e2 => ?_)
  refine wpC_bindA (bm_if_false rfl ?_)
  exact bm_if_false rfl (wpAny_pure (wpC_pure ⟨.none, rfl, h h' e1 e2⟩))
theorem ba_e_new : entryFor table "bytearray.__new__" = some Builtin.«list.__new__» := entryFor_alias (id' := "list.__new__") (by kernel_rfl) rfl (by decide +kernel) (by kernel_rfl)
set_option maxHeartbeats 4000000 in
theorem ba_owner_new : ("bytearray.__new__".splitOn ".__new__").headD "" = "bytearray" := by simp +decide [String.splitOn, String.splitOnAux]
theorem ba_new {Q₁ : Value → Shared → Prop}
    (h : Q₁ (.ref s.heap.objs.size) { s with heap := s.heap.push (baObj #[]) }) :
    codeAny (model prog w) A (.call (.builtin "bytearray.__new__") ⟨[.type "bytearray"], []⟩) (wants Q₁ E) s := by
  refine codeAny_of_tree ?_
  show wpAny _ A.in1 (do checkBuiltinCall "bytearray.__new__" ⟨[.type "bytearray"], []⟩; again (.builtin "bytearray.__new__" ⟨[.type "bytearray"], []⟩)) _ _ s
  refine wpAny_bind (wpAny_of_eq ba_newCall (wpAny_pure ⟨plainId_quiet ba_plain_new _, codeAny_builtin_stack ba_e_new rfl fun p st => ?_⟩))
  rw [Around.under_plainId ba_plain_new _]
  have hsub := ba_sub
  have hown := ba_owner_new
  obtain ⟨hp, g, d, tk, os⟩ := s
  simp only [hown]
  wp_walk
  exact h
theorem C_bytearray {Q : Value → Shared → Prop} (h : ∀ h', h'.get? s.heap.objs.size = some (baObj #[]) → (∀ b o, s.heap.get? b = some o → h'.get? b = some o) → Q (.ref s.heap.objs.size) { s with heap := h' }) :
    wpC (model prog w) A (call (.type "bytearray") []) Q E s := by
  refine C_callType (Q₁ := fun obj s₁ => obj = .ref s.heap.objs.size ∧ s₁ = { s with heap := s.heap.push (baObj #[]) }) ba_called ba_typeCall (ba_new ⟨rfl, rfl⟩) fun obj s₁ h₁ => ?_
  obtain ⟨rfl, rfl⟩ := h₁
  have hb : (s.heap.push (baObj #[])).get? s.heap.objs.size = some (baObj #[]) := Heap.get?_push_size _ rfl
  exact ⟨⟨_, hb, rfl⟩, C_init hb fun h' e1 e2 => ⟨rfl, h h' e1 fun b o q => (e2.2 b (Nat.ne_of_lt (Heap.lt_size q))).trans (Heap.get?_push_of_some _ q)⟩⟩
theorem ba_getMethod {a : Addr} {bs : Array UInt8} {name : Str} {id : String} {M : Model} {pl : Sem Bool} {Q : Value × List Value → Shared → Prop} (slot : Slot "bytearray" name id) (hty : typeOf (.builtin id) = pure (.type "method_descriptor"))
    (hb : s.heap.get? a = some (baObj bs)) (h : Q (.builtin id, [.ref a]) s) : wpAny M A (getMethod (.ref a) name pl) Q E s :=
  getMethod_builtin ⟨_, hb, rfl⟩ ba_plain slot hty (fun a' e => by cases e; exact ⟨_, hb, rfl⟩) h
end
end
section
open PySem PySem.W PySem.Calls PyProof.Rows
section
variable {prog : Program} {w : World} {A : Around} {E : Value → Shared → Prop} {s : Shared}
theorem ba_own_buffer {a : Addr} {bs : Array UInt8} {M : Model} {Q : Bool → Shared → Prop} (hb : s.heap.get? a = some (baObj bs)) (h : Q true s) : wpAny M A (Builtin.Bytes.slotIsOwn (.ref a) "__buffer__") Q E s := by
  unfold Builtin.Bytes.slotIsOwn
  refine wpAny_bind (wpAny_specialOf ⟨_, hb, rfl⟩ ba_buffer ?_)
  refine bm_if_false (by decide +kernel) ?_
  have key : ∀ x : String, x = "bytearray" → wpAny M A (isInstance (.ref a) (.type x)) Q E s := fun x hx => by
    subst hx
    exact wpAny_isInstance ⟨_, hb, rfl⟩ ba_sub h
  exact key _ (by decide +kernel)
theorem ba_bytes_new {a : Addr} {bs : Array UInt8} {Q : Value → Shared → Prop} (hb : s.heap.get? a = some (baObj bs)) (hz : bs.size ≤ sizeLine) (hQ : ∀ t k, Q (.bytes bs t) { s with toks := k }) :
    codeAny (model prog w) A (.call (.builtin "bytes.__new__") ⟨[.type "bytes", .ref a], []⟩) (wants Q E) s := by
  refine codeAny_of_tree ?_
  show wpAny _ A.in1 (do checkBuiltinCall "bytes.__new__" ⟨[.type "bytes", .ref a], []⟩; again (.builtin "bytes.__new__" ⟨[.type "bytes", .ref a], []⟩)) _ _ s
  refine wpAny_bind (wpAny_of_eq (F.bm_newCall _) (wpAny_pure ⟨plainId_quiet F.bm_plain _, codeAny_builtin F.bm_entry ?_⟩))
  rw [Around.under_plainId F.bm_plain _]
  have hT : s.TypeIs (.ref a) "bytearray" := ⟨_, hb, rfl⟩
  unfold Builtin.«bytes.__new__»
  refine wpAny_bind (wpAny_of_eq (a := true) rfl ?_)
  refine bm_if_false rfl ?_
  refine wpAny_bind (wpAny_of_eq F.bm_sub ?_)
  refine bm_if_false rfl ?_
  refine wpAny_bind (wpAny_of_eq (F.bm_bind _) ?_)
  refine wpAny_bind (wpAny_of_eq (a := ()) rfl ?_)
  refine wpAny_bind (wpAny_of_eq (a := ()) rfl ?_)
  refine bm_if_false rfl ?_
  refine wpAny_bind (wpAny_specialOf hT ba_bytes ?_)
  refine wpAny_bind (wpAny_bind ?_)
  show wpAny _ _ (load a >>= _) _ _ _
  refine wpAny_bind (wpAny_load hb ?_)
  refine wpAny_pure (wpAny_pure ?_)
  refine bm_if_false rfl ?_
  refine wpAny_bind (wpAny_specialOf hT ba_index ?_)
  refine bm_if_true rfl ?_
  first
    | show wpAny _ _ (Builtin.Bytes.buffer? "bytes.__new__" (.ref a) true >>= _) _ _ _
    | (refine wpAny_bind ?_; show wpAny _ _ (Builtin.Bytes.buffer? "bytes.__new__" (.ref a) true >>= _) _ _ _)
  refine wpAny_bind ?_
  unfold Builtin.Bytes.buffer?
  refine wpAny_bind (wpAny_specialOf hT ba_buffer ?_)
  refine wpAny_bind (ba_own_buffer hb ?_)
  refine bm_if_false rfl ?_
  refine wpAny_bind (wpAny_specialOf hT ba_buffer ?_)
  refine wpAny_bind (ba_slotOwn hb ?_)
  refine bm_if_false rfl ?_
  refine wpAny_bind ?_
  unfold Builtin.Bytes.payload Builtin.Bytes.payload?
  refine wpAny_bind (wpAny_bind (wpAny_load hb ?_))
  refine wpAny_pure (wpAny_pure (wpAny_pure ?_))
  refine wpAny_bind (wpAny_rule ?_)
  refine wpAny_bind (wpAny_mkBytes ?_ hz)
  refine bm_if_true (by decide) ?_
  first
    | exact wpAny_pure (hQ _ _)
    | exact wpAny_bind (wpAny_pure (wpAny_pure (hQ _ _)))
theorem call_bytes_ba {a : Addr} {bs : Array UInt8} {Q : Value → Shared → Prop} (hb : s.heap.get? a = some (baObj bs)) (hz : bs.size ≤ sizeLine) (hQ : ∀ t k, Q (.bytes bs t) { s with toks := k }) : wpAny (model prog w) A (call (.type "bytes") [.ref a]) Q E s := by
  refine callType_codes (Q₁ := fun obj s₁ => s₁.TypeIs obj "bytes" ∧ Q obj s₁) F.bm_called (F.bm_typeCall _) F.entry_object_init
    (ba_bytes_new hb hz fun t k => ⟨PySem.W.typeIs_bytes _ _ _, hQ t k⟩) fun obj s₁ h₁ => ?_
  exact ⟨h₁.1, F.args_object_init_2 obj _, object_init_meets F.bm_called.init.lookup F.bm_called.made (by decide) prog w A.in1 _ s₁ ⟨h₁.1, rfl, h₁.2⟩⟩
theorem ba_len_call {a : Addr} {bs : Array UInt8} {Q : Value → Shared → Prop} (hb : s.heap.get? a = some (baObj bs)) (hz : (bs.size : Int) < 2 ^ 63) (hQ : ∀ t k, Q (.int (bs.size : Nat) t) { s with toks := k }) : wpAny (model prog w) A (call (.builtin "len") [.ref a]) Q E s := by
  refine call_len_slot (T := "bytearray") (n := (bs.size : Nat)) ⟨_, hb, rfl⟩ ba_len (fun Q' h' => ?_) (by omega) (by omega) (hQ _ _)
  refine wpAny_call_entry ba_len ⟨_, hb, rfl⟩ ba_e_len ?_ (ba_a_len _)
  unfold Builtin.«bytearray.__len__»
  refine wpAny_bind (wpAny_of_eq (a := (Value.ref a, [])) rfl ?_)
  dsimp only
  refine wpAny_bind ?_
  unfold Builtin.Bytes.payload Builtin.Bytes.payload?
  refine wpAny_bind (wpAny_bind (wpAny_load hb ?_))
  refine wpAny_pure (wpAny_pure ?_)
  exact wpAny_bind (wpAny_mkInt (wpAny_pure ⟨_, rfl, h'⟩))
end
end
section
open PySem PySem.W PySem.Calls PyProof.Rows
section
variable {prog : Program} {w : World} {A : Around} {E : Value → Shared → Prop} {s : Shared} {env : Env} {h₀ : Heap} {x : Str} {body : List Stmt} {Q : Flow → Shared → Prop}
/-- a loop over a range, by an invariant of the names and the ledger -/
theorem iter_rangeInv (J : Nat → (Str → Option Value) → List (Addr × Obj) → Prop) {r : Addr} {a₀ b₀ : Int} {t₀ u₀ v₀ : Tok} {n : Nat} {m₀ : Str → Option Value} {news : List (Addr × Obj)}
    (hh : A.handled = none) (hr : IsRange s.heap r a₀ b₀ 1 t₀ u₀ v₀) (hsmall : Builtin.Range.small a₀ b₀ 1 = true) (hn : Builtin.Range.rangeSize a₀ b₀ 1 = (n : Int)) (F : Fr h₀ env.locals s.heap m₀) (N : News h₀ env.locals s.heap news)
    (j0 : J 0 m₀ news)
    (step : ∀ I : Addr, (∀ p ∈ news, @LT.lt Nat _ p.1 I) → ∀ i m₁ news₁ t h tk, i < n → J i m₁ news₁ → (∀ p ∈ news₁, @Ne Nat p.1 I) → Fr h₀ env.locals h (fun y => if y = x then some (.int (a₀ + (i : Int)) t) else m₁ y) →
      News h₀ env.locals h ((I, itR (a₀ + ((i + 1 : Nat) : Int)) ((n : Int) - ((i + 1 : Nat) : Int))) :: news₁) →
      wpAny (model prog w) A (execs body env) (UnrPost h₀ env.locals { s with heap := h, toks := tk } I (itR (a₀ + ((i + 1 : Nat) : Int)) ((n : Int) - ((i + 1 : Nat) : Int))) (J (i + 1)) Q) E { s with heap := h, toks := tk })
    (fin : ∀ h tk m' news', Fr h₀ env.locals h m' → News h₀ env.locals h news' → J n m' news' → Q .next { s with heap := h, toks := tk }) :
    wpAny (model prog w) A (pyIter (.ref r)) (fun it s₂ => LoopAtV prog w A h₀ env x body Q E it s₂) E s := by
  refine wpAny_pyIter_range hr hsmall ?_
  have step' := step s.heap.objs.size fun p hp => Heap.lt_size (N p hp).1
  have W : Walks prog w A s.heap.objs.size [s.heap.objs.size] [s.heap.objs.size] n (fun i v => i < n ∧ ∃ t, v = .int (a₀ + i * 1) t)
      (fun i h => IsRangeIter h s.heap.objs.size (a₀ + (i : Nat) * 1) ((n : Int) - (i : Nat)) 1) := (Walks.range hh _ a₀ 1 n).bound
  have hnew := next_is_new F
  refine ⟨_, _, _, n, _, _, m₀, news, J, rfl, W, ?_, ?_, ?_, (by show IsRangeIter _ _ _ _ _; rw [hn]; simpa using Heap.get?_push_size _ rfl), F.push _, (fun p hp => ⟨Heap.get?_push_of_some _ (N p hp).1, (N p hp).2⟩), j0, ?_, ?_⟩
  · intro hm
    exact absurd F.ns.lt ((List.mem_singleton.mp hm) ▸ Nat.lt_irrefl _)
  · intro b hb
    rw [List.mem_singleton.mp hb]
    exact hnew
  · intro p hp hI
    exact absurd (Heap.lt_size (N p hp).1) ((List.mem_singleton.mp hI) ▸ Nat.lt_irrefl _)
  · rintro i v m₁ news₁ s₁ own ⟨hh', tk', rfl⟩ hin ⟨_, t, rfl⟩ hJ hoff hown hget hall hst F₁ N₁
    have hst' : hh'.get? s.heap.objs.size = some (itR (a₀ + ((i + 1 : Nat) : Int)) ((n : Int) - ((i + 1 : Nat) : Int))) := by
      have q : IsRangeIter hh' s.heap.objs.size (a₀ + ((i + 1 : Nat) : Int) * 1) ((n : Int) - ((i + 1 : Nat) : Int)) 1 := hst
      rw [Int.mul_one] at q
      exact q
    have hmem := hall s.heap.objs.size (List.mem_singleton.mpr rfl) hnew _ hst'
    have e1 : a₀ + (i : Int) * 1 = a₀ + (i : Int) := by rw [Int.mul_one]
    rw [e1] at F₁
    have N₂ : News h₀ env.locals hh' ((s.heap.objs.size, itR (a₀ + ((i + 1 : Nat) : Int)) ((n : Int) - ((i + 1 : Nat) : Int))) :: news₁) := fun p hp => by
      rcases List.mem_cons.mp hp with rfl | hp
      · exact N₁ _ (List.mem_append_left _ hmem)
      · exact N₁ _ (List.mem_append_right _ hp)
    refine wpAny_mono (step' i m₁ news₁ t hh' tk' hin hJ (fun p hp q => hoff p hp (List.mem_singleton.mpr q)) F₁ N₂) (fun f s₂ p => ?_) fun _ _ e => e
    have fin : UnrEnd h₀ env.locals { s with heap := hh', toks := tk' } s.heap.objs.size (itR (a₀ + ((i + 1 : Nat) : Int)) ((n : Int) - ((i + 1 : Nat) : Int))) (J (i + 1)) s₂ →
        LoopStepU h₀ env.locals [s.heap.objs.size] own (J (i + 1)) { s with heap := hh', toks := tk' } .next s₂ := by
      rintro ⟨h', tk, m', news', e, F', N', ho, r⟩
      refine ⟨rfl, h', tk, m', news', e, F', fun p hp => ?_, fun p hp hI => ho p hp (List.mem_singleton.mp hI), r⟩
      rcases List.mem_append.mp hp with hp | hp
      · have h1 : p.1 = s.heap.objs.size := List.mem_singleton.mp (hown p hp)
        have h2 : hh'.get? p.1 = some p.2 := hget p hp
        have h3 : p = (s.heap.objs.size, itR (a₀ + ((i + 1 : Nat) : Int)) ((n : Int) - ((i + 1 : Nat) : Int))) := by
          rw [h1, hst'] at h2
          exact Prod.ext h1 (Option.some.inj h2).symm
        rw [h3]; exact N' _ (List.mem_cons_self ..)
      · exact N' _ (List.mem_cons_of_mem _ hp)
    cases f with
    | ret v => exact .ret p
    | brk => exact .brk p
    | next => exact .next (fin p)
    | cont => exact .cont (fin p)
  · rintro h' tk m' news' F' N' _ hJ
    exact fin h' tk m' news' F' N' hJ
end
/-- the names that a loop's body needs stand in front -/
noncomputable def front (l : List (Str × Value)) (m : Str → Option Value) : Str → Option Value := fun y => match l.lookup y with | some v => some v | none => m y
theorem front_eq {l : List (Str × Value)} {m : Str → Option Value} (h : ∀ p ∈ l, m p.1 = some p.2) : front l m = m := by
  funext y
  unfold front
  cases q : l.lookup y with
  | none => rfl
  | some v =>
    have : ∀ {l : List (Str × Value)}, l.lookup y = some v → (y, v) ∈ l := by
      intro l
      induction l with
      | nil => intro e; cases e
      | cons p r ih =>
        intro e
        obtain ⟨a, b⟩ := p
        rw [List.lookup_cons] at e
        split at e
        · rename_i hb
          have : y = a := by simpa using hb
          cases e; subst this; exact .head _
        · exact .tail _ (ih e)
    exact (h _ (this q)).symm
end
section
open PySem PySem.W PySem.Calls PyProof.Rows
section
variable {w : World} {mean : ExcName → Option Value} {mg mb : Str → Option Value} {n : Nat} {A : Around} {base : Heap} {fr : List Env} {s : Shared} {Q E : Value → Shared → Prop}
  {oc : Value} {od an : Option Addr} {name qual : Str} {params : Arguments} {body : List Stmt} {scope : Scope} {dV kV doc pm cdv ct : Value} {osl : Array (Option Value)} {f : Addr} {vs : List Value} {binds : List (Str × Value)}
/-- a def of the text whose frame has cells is entered -/
theorem enterC {exc : Prop} (news : List (Addr × Obj)) (S : Site w mean mg mb (n + 1) A base fr s (news.map (·.1))) (hn : ∀ p ∈ news, s.heap.get? p.1 = some p.2)
    (ho : List.lookup f (hd.heap_1 w.params) = some ⟨oc, od, .func (fnOf name qual params body scope dV kV doc pm an cdv ct), osl⟩) (hcd : codeIn (hd.heap_1 w.params) cdv qual = true)
    (hbind : BindsTo s (fnOf name qual params body scope dV kV doc pm an cdv ct) ⟨vs, []⟩ binds)
    (hkind : (binds.all fun y => scope.names.lookup y.1 == some .local || scope.names.lookup y.1 == some .cell) = true) (hnd : ((cellsFrom 0 scope.names []).map (·.1)).Nodup)
    (hE : exc → ∀ e h' tk, Exc base fr e h' → (hideAll s.heap (news.map (·.1))).UpToSlots h' → E (.ref e) { s with heap := h', toks := tk })
    (h : ∀ g L h₁ tk cells, (∀ b o, b ∉ news.map (·.1) → s.heap.get? b = some o → g.get? b = some o) → (∀ p ∈ news, p.1 < L) → Below A base fr g → (hd.heap_1 w.params).In g → Top VW LS mean mg mb g →
      Fr g L h₁ (bindL (envOfC qual scope L f cdv).kindOf binds fun _ => none) → News g L h₁ (cells ++ news) →
      CellsAre (bindC (envOfC qual scope L f cdv).kindOf binds fun _ => none) (cellsFrom (L + 1) scope.names []) cells → s.heap.objs.size ≤ L →
      (exc → ∀ e h' tk, Exc base fr e h' → g.UpToSlots h' → E (.ref e) { s with heap := h', toks := tk }) →
      wpAny (model PySem.Challenge.rw_sa0229_01.row.prog w) (A.deeper (envOfC qual scope L f cdv)) (execs body (envOfC qual scope L f cdv)) (fun fl s' => Q (match fl with | .ret v => v | _ => .none) s')
        (fun e s' => wpAny (model PySem.Challenge.rw_sa0229_01.row.prog w) (A.deeper (envOfC qual scope L f cdv)) (leaving (envOfC qual scope L f cdv) e) (fun _ s'' => E e s'') (fun e' s'' => E e' s'') s')
        { s with heap := h₁, toks := tk })
    (hco : scope.isCoroutine = false) (hgen : scope.isGenerator = false) (hk : scope.kind = .function) :
    wpAny (model PySem.Challenge.rw_sa0229_01.row.prog w) A (call (.ref f) vs) Q E s := by
  have st : ∀ b o, base.get? b = some o → b ∉ news.map (·.1) := fun b o e q => by rw [S.fresh b q] at e; cases e
  have gk : ∀ b o, b ∉ news.map (·.1) → s.heap.get? b = some o → (hideAll s.heap (news.map (·.1))).get? b = some o := fun b o nm e => hideAll_get _ e nm
  have stg : base.StaysIn (hideAll s.heap (news.map (·.1))) := fun b o e => gk b o (st b o e) (S.B.stays b o e)
  have X := S.K.keeps S.B.stays
  refine wpAny_call (codeAny_call_function (Nat.lt_of_lt_of_le (show A.depth < 901 by have := S.room; omega) (by decide)) (X _ _ ho) rfl hco hgen rfl (codeRec_of X hcd) (hbind _ _ _ _ ?_))
  refine wpAny_newFunctionEnv_cells hk (kindsX hkind _) fun env' he s' x => ?_
  subst he
  refine ⟨((S.T.keeps S.B.stays).nolimit).keeps x.toInCall.keep, codeAny_func ?_⟩
  obtain ⟨h₁, tk, rfl, _⟩ := x.done
  have hk₁ := x.toInCall.keep
  obtain ⟨cells, NC, Y⟩ := Cl.news (h₀ := s.heap) (Nat.le_refl _) fun n c hm => ⟨x.cell n c (lookup_of_mem_nodup (cellsFrom_names scope.names 0 (s.heap.objs.size + 1) [] [] rfl ▸ hnd) hm), x.above n c hm⟩
  have B' : Below A base fr (hideAll s.heap (news.map (·.1))) := ⟨S.B.stack, stg, funFrames_hideAll S.B.frames fun env he b hb => S.apart b hb env he⟩
  have X' : (hd.heap_1 w.params).In (hideAll s.heap (news.map (·.1))) := S.K.keeps stg
  have T' : Top VW LS mean mg mb (hideAll s.heap (news.map (·.1))) := S.T.keeps stg
  refine wpAny_mono (h (hideAll s.heap (news.map (·.1))) s.heap.objs.size h₁ tk cells gk (fun p hp => Heap.lt_size (hn p hp)) B' X' T'
    ⟨x.toInCall.ns, fun b o e => hk₁ b o (of_hideAll _ e), Nat.le_of_eq (hideAll_size _ _)⟩ (fun p hp => ?_) Y (Nat.le_refl _) hE) (fun fl s' hl => hl) fun _ _ y => y
  rcases List.mem_append.mp hp with hp | hp
  · refine ⟨(NC p hp).1, (NC p hp).2.1, ?_⟩
    cases q : (hideAll s.heap (news.map (·.1))).get? p.1 with
    | none => rfl
    | some o => have := of_hideAll _ q; rw [(NC p hp).2.2] at this; cases this
  · exact ⟨hk₁ _ _ (hn p hp), Nat.ne_of_lt (Heap.lt_size (hn p hp)), hideAll_none _ (List.mem_map_of_mem hp)⟩
end
end
section
open PySem PySem.W PySem.Calls PyProof.Rows
open PySem.Sem (wp)
section
variable {α : Type} {M : Model} {A : Around} {E : Value → Shared → Prop} {s : Shared} {env : Env}
theorem wpC_noted {m : Sem α} {Q : α → Shared → Prop} (h : wpC M A m Q (notedBy M A env E) s) : wpC M A (m.onRaise fun x => do noteFrame x env; theTreesLotGoes x) Q E s :=
  wpC_onRaise (wpC_mono h (fun _ _ q => q) fun _ _ hx => wpC_of (wpAny_bind (wpAny_mono hx (fun _ _ e => wpAny_theTreesLotGoes e) fun _ _ e => e)))
theorem wpC_runOwn {c : Code} {h : Option Value} {Q : Flow → Shared → Prop}
    (hc : codeC M (A.mark h) c (fun r s' => match r with | .ok f => Q f s' | .error e => cameBackBy M A env E e s') s) (hnb : h ≠ some byPass := by intro x; cases x) :
    wpC M A (runOwn c env h) Q E s := by
  unfold runOwn
  exact wpC_onRaise (wpC_mono (wpC_run (E := cameBackBy M A env E) hc hnb) (fun _ _ q => q) fun _ _ q => wpC_of q)
theorem wpC_passesOwn {t : Sem α} {Q : α → Shared → Prop} (hE : PassesOwn M A env E) (h : wpC M A t Q E s) : wpC M A t Q (notedBy M A env (cameBackBy M A env E)) s :=
  wpC_mono h (fun _ _ x => x) hE
end
section
variable {prog : Program} {w : World} {A : Around} {E : Value → Shared → Prop} {R : Result → Shared → Prop} {s : Shared} {env : Env} {h₀ : Heap}
theorem codeC_forLoop {target it body env} (I : Nat → Shared → Prop)
    (turn : ∀ n s, I n s → wpAny (model prog w) A (pyNext it) (fun r s₁ => match r with
      | none => R (.ok .next) s₁
      | some v => wpAny (model prog w) A (assign target env v) (fun _ s₂ => wpC (model prog w) A (execs body env) (fun f s₃ => match f with
          | .next | .cont => ∃ m, m < n ∧ I m s₃
          | .brk => R (.ok .next) s₃
          | .ret v => R (.ok (.ret v)) s₃) (notedBy (model prog w) A env fun e s' => R (.error e) s') s₂) (notedBy (model prog w) A env fun e s' => R (.error e) s') s₁) (notedBy (model prog w) A env fun e s' => R (.error e) s') s)
    (n : Nat) (h : I n s) (ht : ∀ v, letOwnedTupleGo target it v = pure () := by intro _; rfl) : codeC (model prog w) A (.forLoop target it body [] env) R s := by
  refine codeC_loop rfl rfl I (fun n s hI => ?_) n h
  show wpC _ _ ((forTurn target it body [] env).onRaise (fun x => do noteFrame x env; theTreesLotGoes x)) _ _ s
  refine wpC_noted ?_
  simp only [forTurn]
  refine wpC_bind (wpC_standAt (wpC_bindA (wpAny_onRaise (wpAny_mono (turn n s hI) (fun r s₁ h₁ => ?_) fun _ _ h' => wpAny_standAt h'))))
  cases r with
  | none => exact wpC_pure (.inr ⟨rfl, codeC_of (codeAny_block (wpAny_execs_nil h₁))⟩)
  | some v =>
    refine wpC_bindA (wpAny_of_eq (ht v) ?_)
    refine wpC_bindA (wpAny_mono h₁ (fun _ s₂ h₂ => wpC_bind (wpC_mono h₂ (fun f s₃ h₃ => ?_) fun _ _ h' => h')) fun _ _ h' => h')
    cases f with
    | next => exact wpC_pure (.inl ⟨rfl, h₃⟩)
    | cont => exact wpC_pure (.inl ⟨rfl, h₃⟩)
    | brk => exact wpC_pure h₃
    | ret v => exact wpC_pure h₃
/-- one turn's end: the ledger stands, the iterator is as it was at the turn's start -/
noncomputable def TurnEnd (h₀ : Heap) (L : Addr) (own : List (Addr × Obj)) (wr : List Addr) (Jn : (Str → Option Value) → List (Addr × Obj) → Prop) (s₁ s₂ : Shared) : Prop :=
  ∃ h' tk m' news', s₂ = { s₁ with heap := h', toks := tk } ∧ Fr h₀ L h' m' ∧ News h₀ L h' (own ++ news') ∧ (∀ p ∈ news', p.1 ∉ wr) ∧ Jn m' news'
theorem codeC_forLoop_inv {x : Str} {px : Pos} {body : List Stmt} {I : Addr} {fp wr : List Addr} {n : Nat} {P : Nat → Value → Prop} {St : Nat → Heap → Prop} {m : Str → Option Value}
    {news : List (Addr × Obj)} (W : Walks prog w A I fp wr n P St) (hx : env.kindOf x = some .local)
    (hp : (env.scope.kind == .class || (env.scope.kind == .module && env.locals != env.globals)) = false)
    (hLf : env.locals ∉ fp) (hwr : ∀ b ∈ wr, h₀.get? b = none) (hnw : ∀ p ∈ news, p.1 ∉ wr)
    (hst : St 0 s.heap) (F : Fr h₀ env.locals s.heap m) (N : News h₀ env.locals s.heap news)
    (J : Nat → (Str → Option Value) → List (Addr × Obj) → Prop) (h0 : J 0 m news)
    (step : ∀ i v m₁ news₁ s₁ own, (∃ h tk, s₁ = { s with heap := h, toks := tk }) → i < n → P i v → J i m₁ news₁ → (∀ p ∈ news₁, p.1 ∉ wr) → (∀ p ∈ own, p.1 ∈ fp) → (∀ p ∈ own, s₁.heap.get? p.1 = some p.2) → (∀ b ∈ fp, h₀.get? b = none → ∀ o, s₁.heap.get? b = some o → (b, o) ∈ own) → St (i + 1) s₁.heap →
      Fr h₀ env.locals s₁.heap (fun y => if y = x then some v else m₁ y) → News h₀ env.locals s₁.heap (own ++ news₁) →
      wpC (model prog w) A (execs body env) (fun f s₂ => f = .next ∧ TurnEnd h₀ env.locals own wr (J (i + 1)) s₁ s₂) (notedBy (model prog w) A env fun e s' => R (.error e) s') s₁)
    (hR : ∀ h' tk m' news', Fr h₀ env.locals h' m' → News h₀ env.locals h' news' → (∀ p ∈ news', p.1 ∉ wr) → J n m' news' → R (.ok .next) { s with heap := h', toks := tk }) :
    codeC (model prog w) A (.forLoop (.Name x px) (.ref I) body [] env) R s := by
  have hLw : env.locals ∉ wr := fun h => hLf (W.sub _ h)
  have old : ∀ b o, h₀.get? b = some o → b ∉ wr := fun b o e hb => by rw [hwr b hb] at e; cases e
  refine codeC_forLoop
    (fun k s' => ∃ h' tk m' news' i, s' = { s with heap := h', toks := tk } ∧ St i h' ∧ Fr h₀ env.locals h' m' ∧ News h₀ env.locals h' news' ∧ (∀ p ∈ news', p.1 ∉ wr) ∧ J i m' news' ∧ i ≤ n ∧ k = n + 1 - i) ?_ (n + 1)
    ⟨s.heap, s.toks, m, news, 0, rfl, hst, F, N, hnw, h0, Nat.zero_le _, rfl⟩
  rintro k s' ⟨h', tk, m', news', i, rfl, hst', F', N', hnw', hJ, hi, rfl⟩
  have next : ∀ h₁ : Heap, (∀ b o, b ∉ wr → h'.get? b = some o → h₁.get? b = some o) → Fr h₀ env.locals h₁ m' ∧ News h₀ env.locals h₁ news' := fun h₁ hk₁ =>
    ⟨⟨F'.ns.at' fun o e => hk₁ _ o hLw e, fun b o e => hk₁ b o (old b o e) (F'.keep b o e), F'.above⟩, fun p hp => ⟨hk₁ _ _ (hnw' p hp) (N' p hp).1, (N' p hp).2⟩⟩
  by_cases hlt : i < n
  · refine W.item i _ _ _ hlt hst' fun v h₁ tk₁ hP hst₁ hk₁ => ?_
    obtain ⟨F₁, N₁⟩ := next h₁ hk₁
    refine wpAny_assign_Name (wpAny_storeName_local hx F₁.ns (fun h₂ hn₂ hs₂ => ?_) hp)
    have F₂ := F₁.set hn₂ hs₂
    have Nown : News h₀ env.locals h₂ (ownOf h₀ fp h₂) := news_ownOf hLf
    have hst₂ : St (i + 1) h₂ := W.frame _ _ _ hst₁ fun b hb o e => (hs₂.2 b fun q => hLf (q ▸ hb)).trans e
    refine wpC_mono (step i v m' news' _ (ownOf h₀ fp h₂) ⟨_, _, rfl⟩ hlt hP hJ hnw' ownOf_sub (fun p hp => (Nown p hp).1) (fun b hb hn o e => mem_ownOf hb hn e) hst₂ F₂ (Nown.append (N₁.set hs₂))) (fun f s₃ h₃ => ?_) fun _ _ e => e
    obtain ⟨rfl, h₃', tk₃, m₂, news₂, rfl, F₃, N₃, ha₃, hJ₃⟩ := h₃
    refine ⟨n + 1 - (i + 1), by omega, h₃', tk₃, m₂, news₂, i + 1, rfl, ?_, F₃, N₃.right, ha₃, hJ₃, hlt, rfl⟩
    refine W.frame _ _ _ hst₁ fun b hb o e => ?_
    have e₂ : h₂.get? b = some o := (hs₂.2 b fun q => hLf (q ▸ hb)).trans e
    cases hn : h₀.get? b with
    | some o₀ =>
      have : o₀ = o := by have := F₂.keep b o₀ hn; rw [e₂] at this; exact (Option.some.inj this).symm
      exact this ▸ F₃.keep b o₀ hn
    | none => exact (N₃ _ (List.mem_append_left _ (mem_ownOf hb hn e₂))).1
  · have hin : i = n := by omega
    subst hin
    refine W.done _ _ _ hst' fun h₁ tk₁ hk₁ => ?_
    obtain ⟨F₁, N₁⟩ := next h₁ hk₁
    exact hR h₁ tk₁ m' news' F₁ N₁ hnw' hJ
/-- a loop over what pyIter gives, by an invariant, over clean stacks -/
noncomputable def LoopAtC (prog : Program) (w : World) (A : Around) (h₀ : Heap) (env : Env) (x : Str) (body : List Stmt) (Q : Flow → Shared → Prop) (E : Value → Shared → Prop) (it : Value) (s₂ : Shared) : Prop :=
  ∃ (I : Addr) (fp wr : List Addr) (n : Nat) (P : Nat → Value → Prop) (St : Nat → Heap → Prop) (m : Str → Option Value) (news : List (Addr × Obj)) (J : Nat → (Str → Option Value) → List (Addr × Obj) → Prop),
    it = .ref I ∧ Walks prog w A I fp wr n P St ∧ env.locals ∉ fp ∧ (∀ b ∈ wr, h₀.get? b = none) ∧ (∀ p ∈ news, p.1 ∉ wr) ∧ St 0 s₂.heap ∧ Fr h₀ env.locals s₂.heap m ∧ News h₀ env.locals s₂.heap news ∧ J 0 m news ∧
    (∀ i v m₁ news₁ s₁ own, (∃ h tk, s₁ = { s₂ with heap := h, toks := tk }) → i < n → P i v → J i m₁ news₁ → (∀ p ∈ news₁, p.1 ∉ wr) → (∀ p ∈ own, p.1 ∈ fp) → (∀ p ∈ own, s₁.heap.get? p.1 = some p.2) → (∀ b ∈ fp, h₀.get? b = none → ∀ o, s₁.heap.get? b = some o → (b, o) ∈ own) → St (i + 1) s₁.heap →
      Fr h₀ env.locals s₁.heap (fun y => if y = x then some v else m₁ y) → News h₀ env.locals s₁.heap (own ++ news₁) →
      wpC (model prog w) A (execs body env) (fun f s₃ => f = .next ∧ TurnEnd h₀ env.locals own wr (J (i + 1)) s₁ s₃) E s₁) ∧
    ∀ h' tk m' news', Fr h₀ env.locals h' m' → News h₀ env.locals h' news' → (∀ p ∈ news', p.1 ∉ wr) → J n m' news' → Q .next { s₂ with heap := h', toks := tk }
theorem C_For {Q : Flow → Shared → Prop} {x : Str} {px pos : Pos} {iter : Expr} {body : List Stmt} (h₀ : Heap) (hx : env.kindOf x = some .local)
    (hp : (env.scope.kind == .class || (env.scope.kind == .module && env.locals != env.globals)) = false)
    (h : wpAny (model prog w) A (eval iter env) (fun xv s₁ => wpAny (model prog w) A (pyIter xv) (fun it s₂ => LoopAtC prog w A h₀ env x body Q E it s₂) E s₁) E s)
    (hE : PassesOwn (model prog w) A env E) (hs : ∀ x, foldedSetIterable iter env x = pure x := by intro _; rfl) :
    wpC (model prog w) A (exec (.For (.Name x px) iter body [] pos) env) Q E s := by
  rw [exec_For]
  refine wpC_bind (wpC_standAt (wpC_bindA (wpAny_mono h (fun xv s₁ h₁ => wpC_bindA (wpAny_of_eq (hs xv) (wpC_bind (wpC_standAt (wpC_bind (wpC_holding
    (wpC_of (wpAny_mono h₁ (fun it s₂ h₂ => wpC_runOwn ?_) fun _ _ h' => h')))))))) fun _ _ h' => h')))
  obtain ⟨I, fp, wr, n, P, St, m, news, J, rfl, W, hLf, hwr, hnw, hst, F, N, h0, step, hQ⟩ := h₂
  exact codeC_forLoop_inv (R := fun r s' => match r with | .ok f => Q f s' | .error e => cameBackBy (model prog w) A env E e s') W hx hp hLf hwr hnw hst F N J h0 (by intros; exact wpC_passesOwn hE (by apply step <;> assumption)) hQ

theorem codeC_whileLoop {test body env} (I : Nat → Shared → Prop)
    (turn : ∀ n s, I n s →
      wpAny (model prog w) A (isTrue test env (eval test env)) (fun b s₂ =>
        if b then wpC (model prog w) A (execs body env) (fun f s₃ => f = .next ∧ ∃ m, m < n ∧ I m s₃) (notedBy (model prog w) A env fun e s' => R (.error e) s') s₂
        else R (.ok .next) s₂) (notedBy (model prog w) A env fun e s' => R (.error e) s') s)
    (n : Nat) (h : I n s) : codeC (model prog w) A (.whileLoop test body [] env) R s := by
  refine codeC_loop rfl rfl I (fun n s hI => ?_) n h
  show wpC _ _ ((whileTurn test body [] env).onRaise (fun x => do noteFrame x env; theTreesLotGoes x)) _ _ s
  refine wpC_noted ?_
  simp only [whileTurn]
  refine wpC_bindA (wpAny_mono (turn n s hI) (fun b s₂ h₂ => ?_) fun _ _ h' => h')
  cases b with
  | false => exact wpC_of (wpAny_bind (wpAny_execs_nil (wpAny_pure h₂)))
  | true =>
    refine wpC_bind (wpC_mono h₂ (fun f s₃ h₃ => ?_) fun _ _ h' => h')
    obtain ⟨rfl, h₃⟩ := h₃
    exact wpC_pure (.inl ⟨rfl, h₃⟩)
theorem C_While {test body pos} {Q : Flow → Shared → Prop} (I : Nat → Shared → Prop)
    (turn : ∀ n s, I n s →
      wpAny (model prog w) A (isTrue test env (eval test env)) (fun b s₂ =>
        if b then wpC (model prog w) A (execs body env) (fun f s₃ => f = .next ∧ ∃ m, m < n ∧ I m s₃) E s₂
        else Q .next s₂) E s)
    (n : Nat) (h : I n s) (hE : PassesOwn (model prog w) A env E) :
    wpC (model prog w) A (exec (.While test body [] pos) env) Q E s := by
  rw [exec_While]
  refine wpC_bind (wpC_standAt (wpC_runOwn (codeC_whileLoop I (fun n s hI => ?_) n h)))
  refine wpAny_mono (turn n s hI) (fun b s₂ h₂ => ?_) hE
  cases b with
  | false => exact h₂
  | true => exact wpC_mono h₂ (fun _ _ x => x) hE
theorem C_Try {body orelse : List Stmt} {hd : ExceptHandler} {hs : List ExceptHandler} {pos : Pos} {Q : Flow → Shared → Prop}
    (h : wpC (model prog w) A (execs body env) (fun f s₁ => match f with | .next => wpC (model prog w) A (execs orelse env) Q E s₁ | f => Q f s₁)
      (fun e s₁ => wpAny (model prog w) A (noteFrame e env) (fun _ s₂ => wpAny (model prog w) A (setFlight e none) (fun _ s₃ => wpAny (model prog w) A (handleBy e env (hd :: hs)) Q E s₃) E s₂) E s₁) s) :
    wpC (model prog w) A (exec (.Try body (hd :: hs) orelse [] pos) env) Q E s := by
  rw [arm_exec_Try]
  refine wpC_bind (wpC_standAt ?_)
  unfold tryStmt
  simp only [List.isEmpty_nil, if_true, List.isEmpty_cons, Bool.false_and, Bool.false_eq_true, if_false]
  refine wpC_bind (wpC_attempt (wpC_mono h (fun f s₁ h₁ => ?_) fun e s₁ h₁ => ?_))
  · cases f <;> first | exact h₁ | exact wpC_pure h₁
  · exact wpC_of (wpAny_bind (wpAny_mono h₁ (fun _ _ h₂ => wpAny_bind h₂) fun _ _ x => x))
theorem C_Return {e : Expr} {pos : Pos} {Q : Flow → Shared → Prop} (h : wpC (model prog w) A (eval e env) (fun v => Q (.ret v)) E s) : wpC (model prog w) A (exec (.Return (some e) pos) env) Q E s := by
  rw [exec_Return_some]
  exact wpC_bind (wpC_standAt (wpC_bind (wpC_mono h (fun v s' h' => wpC_pure h') fun _ _ x => x)))
end
end
section
open PySem PySem.W PySem.Calls PyProof.Rows
section
variable {prog : Program} {w : World} {A : Around} {E : Value → Shared → Prop} {s : Shared} {env : Env} {h₀ : Heap} {x : Str} {body : List Stmt} {Q : Flow → Shared → Prop}
/-- one turn's end of a loop whose iterator is the object oI at I -/
noncomputable def TurnI (h₀ : Heap) (L I : Addr) (oI : Obj) (Jn : (Str → Option Value) → List (Addr × Obj) → Prop) (s₁ s₂ : Shared) : Prop :=
  ∃ h' tk m' news', s₂ = { s₁ with heap := h', toks := tk } ∧ Fr h₀ L h' m' ∧ News h₀ L h' ((I, oI) :: news') ∧ (∀ p ∈ news', @Ne Nat p.1 I) ∧ Jn m' news'
theorem TurnI.intro {L I : Addr} {oI : Obj} {Jn : (Str → Option Value) → List (Addr × Obj) → Prop} {s₁ : Shared} {h' : Heap} {tk : Nat} {m' : Str → Option Value} {all : List (Addr × Obj)} (F : Fr h₀ L h' m') (N : News h₀ L h' all) (news' : List (Addr × Obj))
    (sub : ∀ p ∈ (I, oI) :: news', p ∈ all) (off : ∀ p ∈ news', @Ne Nat p.1 I) (r : Jn m' news') : TurnI h₀ L I oI Jn s₁ { s₁ with heap := h', toks := tk } := ⟨h', tk, m', news', rfl, F, fun p hp => N p (sub p hp), off, r⟩
/-- what a turn is to do -/
noncomputable def TurnsC (prog : Program) (w : World) (A : Around) (E : Value → Shared → Prop) (s : Shared) (env : Env) (h₀ : Heap) (x : Str) (body : List Stmt) (n : Nat) (P : Nat → Value → Prop) (news : List (Addr × Obj)) (J : Nat → (Str → Option Value) → List (Addr × Obj) → Prop) : Prop :=
  ∀ (I : Addr) (oI : Obj), (∀ p ∈ news, @LT.lt Nat _ p.1 I) → ∀ i v m₁ news₁ h tk, i < n → P i v → J i m₁ news₁ → (∀ p ∈ news₁, @Ne Nat p.1 I) → Fr h₀ env.locals h (fun y => if y = x then some v else m₁ y) → News h₀ env.locals h ((I, oI) :: news₁) →
    wpC (model prog w) A (execs body env) (fun f s₂ => f = .next ∧ TurnI h₀ env.locals I oI (J (i + 1)) { s with heap := h, toks := tk } s₂) E { s with heap := h, toks := tk }
theorem loopC {s₂ : Shared} {fp : List Addr} {n : Nat} {P : Nat → Value → Prop} {St : Nat → Heap → Prop} {m₀ : Str → Option Value} {news : List (Addr × Obj)} {o₀ : Obj} (hs : s₂ = { s with heap := s.heap.push o₀ })
    (W : Walks prog w A s.heap.objs.size fp [s.heap.objs.size] n P St) (hfp : ∀ b ∈ fp, b ≠ s.heap.objs.size → ∃ o, h₀.get? b = some o) (hin : s.heap.objs.size ∈ fp) (hL : env.locals ∉ fp) (hst : St 0 s₂.heap)
    (hI : ∀ i h, St i h → ∃ o, h.get? s.heap.objs.size = some o) (F : Fr h₀ env.locals s.heap m₀) (N : News h₀ env.locals s.heap news) (J : Nat → (Str → Option Value) → List (Addr × Obj) → Prop) (j0 : J 0 m₀ news)
    (step : TurnsC prog w A E s env h₀ x body n P news J)
    (fin : ∀ h tk m' news', Fr h₀ env.locals h m' → News h₀ env.locals h news' → J n m' news' → Q .next { s with heap := h, toks := tk }) :
    LoopAtC prog w A h₀ env x body Q E (.ref s.heap.objs.size) s₂ := by
  subst hs
  have hnew := next_is_new F
  have step' := fun oI => step s.heap.objs.size oI fun p hp => Heap.lt_size (N p hp).1
  refine ⟨_, fp, _, n, P, St, m₀, news, J, rfl, W, hL, ?_, ?_, hst, F.push _, (fun p hp => ⟨Heap.get?_push_of_some _ (N p hp).1, (N p hp).2⟩), j0, ?_, ?_⟩
  · intro b hb
    rw [List.mem_singleton.mp hb]
    exact hnew
  · intro p hp hI
    exact absurd (Heap.lt_size (N p hp).1) ((List.mem_singleton.mp hI) ▸ Nat.lt_irrefl _)
  · rintro i v m₁ news₁ s₁ own ⟨hh', tk', rfl⟩ hin' hP hJ hoff hown hget hall hst F₁ N₁
    obtain ⟨oI, hoI⟩ := hI _ _ hst
    have hmem := hall _ hin hnew _ hoI
    have N₂ : News h₀ env.locals hh' ((s.heap.objs.size, oI) :: news₁) := fun p hp => by
      rcases List.mem_cons.mp hp with rfl | hp
      · exact N₁ _ (List.mem_append_left _ hmem)
      · exact N₁ _ (List.mem_append_right _ hp)
    refine wpC_mono (step' oI i v m₁ news₁ hh' tk' hin' hP hJ (fun p hp q => hoff p hp (List.mem_singleton.mpr q)) F₁ N₂) (fun f s₂ p => ?_) fun _ _ e => e
    obtain ⟨rfl, h', tk, m', news', rfl, F', N', off', r⟩ := p
    refine ⟨rfl, h', tk, m', news', rfl, F', fun p hp => ?_, fun p hp hI => off' p hp (List.mem_singleton.mp hI), r⟩
    rcases List.mem_append.mp hp with hp | hp
    · have h2 : hh'.get? p.1 = some p.2 := hget p hp
      have h1 : p.1 = s.heap.objs.size := Classical.byContradiction fun ne => by
        obtain ⟨o, ho⟩ := hfp _ (hown p hp) ne
        have := (N₁ p (List.mem_append_left _ hp)).2.2
        rw [ho] at this; cases this
      have h3 : p = (s.heap.objs.size, oI) := by
        rw [h1, hoI] at h2
        exact Prod.ext h1 (Option.some.inj h2).symm
      rw [h3]; exact N' _ (List.mem_cons_self ..)
    · exact N' _ (List.mem_cons_of_mem _ hp)
  · rintro h' tk m' news' F' N' _ hJ
    exact fin h' tk m' news' F' N' hJ
theorem C_iter_range (J : Nat → (Str → Option Value) → List (Addr × Obj) → Prop) {r : Addr} {a₀ b₀ : Int} {t₀ u₀ v₀ : Tok} {n : Nat} {m₀ : Str → Option Value} {news : List (Addr × Obj)}
    (hh : A.handled = none) (hr : IsRange s.heap r a₀ b₀ 1 t₀ u₀ v₀) (hsmall : Builtin.Range.small a₀ b₀ 1 = true) (hn : Builtin.Range.rangeSize a₀ b₀ 1 = (n : Int)) (F : Fr h₀ env.locals s.heap m₀) (N : News h₀ env.locals s.heap news)
    (j0 : J 0 m₀ news) (step : TurnsC prog w A E s env h₀ x body n (fun i v => ∃ t, v = .int (a₀ + i) t) news J)
    (fin : ∀ h tk m' news', Fr h₀ env.locals h m' → News h₀ env.locals h news' → J n m' news' → Q .next { s with heap := h, toks := tk }) :
    wpAny (model prog w) A (pyIter (.ref r)) (fun it s₂ => LoopAtC prog w A h₀ env x body Q E it s₂) E s := by
  refine wpAny_pyIter_range hr hsmall ?_
  have W := Walks.range (prog := prog) (w := w) hh s.heap.objs.size a₀ 1 n
  refine loopC rfl W ?_ (.head _) ?_ (by show IsRangeIter _ _ _ _ _; rw [hn]; simpa using Heap.get?_push_size _ rfl) (fun i h st => ⟨_, st⟩) F N J j0 (fun I oI hI i v m₁ news₁ h tk hi hP => step I oI hI i v m₁ news₁ h tk hi ?_) fin
  · intro b hb ne
    exact absurd (List.mem_singleton.mp hb) ne
  · intro hm
    exact absurd F.ns.lt ((List.mem_singleton.mp hm) ▸ Nat.lt_irrefl _)
  · obtain ⟨t, rfl⟩ := hP
    exact ⟨t, by rw [Int.mul_one]⟩
theorem C_iter_list (J : Nat → (Str → Option Value) → List (Addr × Obj) → Prop) {r : Addr} {items : Array Value} {m₀ : Str → Option Value} {news : List (Addr × Obj)}
    (hh : A.handled = none) (hr : h₀.IsList r items) (F : Fr h₀ env.locals s.heap m₀) (N : News h₀ env.locals s.heap news) (hLr : @Ne Nat env.locals r)
    (j0 : J 0 m₀ news) (step : TurnsC prog w A E s env h₀ x body items.size (fun i v => items[i]? = some v) news J)
    (fin : ∀ h tk m' news', Fr h₀ env.locals h m' → News h₀ env.locals h news' → J items.size m' news' → Q .next { s with heap := h, toks := tk }) :
    wpAny (model prog w) A (pyIter (.ref r)) (fun it s₂ => LoopAtC prog w A h₀ env x body Q E it s₂) E s := by
  have hr' : s.heap.IsList r items := by obtain ⟨o, ho, q⟩ := hr; exact ⟨o, F.keep _ _ ho, q⟩
  refine wpAny_pyIter_list hr' ?_
  have hne : @Ne Nat r s.heap.objs.size := by obtain ⟨o, ho, _⟩ := hr'; exact Nat.ne_of_lt (Heap.lt_size ho)
  have W := Walks.list (prog := prog) (w := w) hh s.heap.objs.size r hne items
  refine loopC rfl W ?_ (.head _) ?_ ⟨⟨_, Heap.get?_push_size _ rfl, rfl, rfl⟩, hr'.push _⟩ (fun i h st => by obtain ⟨⟨o, ho, _⟩, _⟩ := st; exact ⟨o, ho⟩) F N J j0 step fin
  · intro b hb ne
    rcases List.mem_cons.mp hb with e | hb
    · exact absurd e ne
    · rw [List.mem_singleton.mp hb]
      obtain ⟨o, ho, _⟩ := hr; exact ⟨o, ho⟩
  · intro hm
    rcases List.mem_cons.mp hm with e | hm
    · exact absurd F.ns.lt (e ▸ Nat.lt_irrefl _)
    · exact hLr (List.mem_singleton.mp hm)
theorem C_iter_tuple (J : Nat → (Str → Option Value) → List (Addr × Obj) → Prop) {r : Addr} {items : Array Value} {m₀ : Str → Option Value} {news : List (Addr × Obj)}
    (hh : A.handled = none) (hr : h₀.IsTuple r items) (F : Fr h₀ env.locals s.heap m₀) (N : News h₀ env.locals s.heap news) (hLr : @Ne Nat env.locals r)
    (j0 : J 0 m₀ news) (step : TurnsC prog w A E s env h₀ x body items.size (fun i v => items[i]? = some v) news J)
    (fin : ∀ h tk m' news', Fr h₀ env.locals h m' → News h₀ env.locals h news' → J items.size m' news' → Q .next { s with heap := h, toks := tk }) :
    wpAny (model prog w) A (pyIter (.ref r)) (fun it s₂ => LoopAtC prog w A h₀ env x body Q E it s₂) E s := by
  have hr' : s.heap.IsTuple r items := by obtain ⟨o, ho, q⟩ := hr; exact ⟨o, F.keep _ _ ho, q⟩
  refine wpAny_pyIter_tuple hr' ?_
  have hne : @Ne Nat r s.heap.objs.size := by obtain ⟨o, ho, _⟩ := hr'; exact Nat.ne_of_lt (Heap.lt_size ho)
  have W := Walks.tuple (prog := prog) (w := w) hh s.heap.objs.size r hne items
  refine loopC rfl W ?_ (.head _) ?_ ⟨⟨_, Heap.get?_push_size _ rfl, rfl, rfl⟩, hr'.push _⟩ (fun i h st => by obtain ⟨⟨o, ho, _⟩, _⟩ := st; exact ⟨o, ho⟩) F N J j0 step fin
  · intro b hb ne
    rcases List.mem_cons.mp hb with e | hb
    · exact absurd e ne
    · rw [List.mem_singleton.mp hb]
      obtain ⟨o, ho, _⟩ := hr; exact ⟨o, ho⟩
  · intro hm
    rcases List.mem_cons.mp hm with e | hm
    · exact absurd F.ns.lt (e ▸ Nat.lt_irrefl _)
    · exact hLr (List.mem_singleton.mp hm)
end
end
section
open PySem PySem.W PySem.Calls PyProof.Rows
section
variable {prog : Program} {w : World} {A : Around} {E : Value → Shared → Prop} {s : Shared} {env : Env} {h₀ : Heap} {x : Str} {body : List Stmt} {Q : Flow → Shared → Prop}
noncomputable def TurnPost (h₀ : Heap) (L I : Addr) (oI : Obj) (Jn : (Str → Option Value) → List (Addr × Obj) → Prop) (Q : Flow → Shared → Prop) (s₁ : Shared) (f : Flow) (s₂ : Shared) : Prop :=
  match f with
  | .ret v => Q (.ret v) s₂
  | .brk => Q .next s₂
  | _ => TurnI h₀ L I oI Jn s₁ s₂
noncomputable def TurnsV (prog : Program) (w : World) (A : Around) (E : Value → Shared → Prop) (s : Shared) (env : Env) (h₀ : Heap) (x : Str) (body : List Stmt) (n : Nat) (P : Nat → Value → Prop) (news : List (Addr × Obj)) (J : Nat → (Str → Option Value) → List (Addr × Obj) → Prop) (Q : Flow → Shared → Prop) : Prop :=
  ∀ (I : Addr) (oI : Obj), (∀ p ∈ news, @LT.lt Nat _ p.1 I) → ∀ i v m₁ news₁ h tk, i < n → P i v → J i m₁ news₁ → (∀ p ∈ news₁, @Ne Nat p.1 I) → Fr h₀ env.locals h (fun y => if y = x then some v else m₁ y) → News h₀ env.locals h ((I, oI) :: news₁) →
    wpAny (model prog w) A (execs body env) (TurnPost h₀ env.locals I oI (J (i + 1)) Q { s with heap := h, toks := tk }) E { s with heap := h, toks := tk }
theorem loopV {s₂ : Shared} {fp : List Addr} {n : Nat} {P : Nat → Value → Prop} {St : Nat → Heap → Prop} {m₀ : Str → Option Value} {news : List (Addr × Obj)} {o₀ : Obj} (hs : s₂ = { s with heap := s.heap.push o₀ })
    (W : Walks prog w A s.heap.objs.size fp [s.heap.objs.size] n P St) (hfp : ∀ b ∈ fp, b ≠ s.heap.objs.size → ∃ o, h₀.get? b = some o) (hin : s.heap.objs.size ∈ fp) (hL : env.locals ∉ fp) (hst : St 0 s₂.heap)
    (hI : ∀ i h, St i h → ∃ o, h.get? s.heap.objs.size = some o) (F : Fr h₀ env.locals s.heap m₀) (N : News h₀ env.locals s.heap news) (J : Nat → (Str → Option Value) → List (Addr × Obj) → Prop) (j0 : J 0 m₀ news)
    (step : TurnsV prog w A E s env h₀ x body n P news J Q)
    (fin : ∀ h tk m' news', Fr h₀ env.locals h m' → News h₀ env.locals h news' → J n m' news' → Q .next { s with heap := h, toks := tk }) :
    LoopAtV prog w A h₀ env x body Q E (.ref s.heap.objs.size) s₂ := by
  subst hs
  have hnew := next_is_new F
  have step' := fun oI => step s.heap.objs.size oI fun p hp => Heap.lt_size (N p hp).1
  refine ⟨_, fp, _, n, P, St, m₀, news, J, rfl, W, hL, ?_, ?_, hst, F.push _, (fun p hp => ⟨Heap.get?_push_of_some _ (N p hp).1, (N p hp).2⟩), j0, ?_, ?_⟩
  · intro b hb
    rw [List.mem_singleton.mp hb]
    exact hnew
  · intro p hp hI
    exact absurd (Heap.lt_size (N p hp).1) ((List.mem_singleton.mp hI) ▸ Nat.lt_irrefl _)
  · rintro i v m₁ news₁ s₁ own ⟨hh', tk', rfl⟩ hin' hP hJ hoff hown hget hall hst F₁ N₁
    obtain ⟨oI, hoI⟩ := hI _ _ hst
    have hmem := hall _ hin hnew _ hoI
    have N₂ : News h₀ env.locals hh' ((s.heap.objs.size, oI) :: news₁) := fun p hp => by
      rcases List.mem_cons.mp hp with rfl | hp
      · exact N₁ _ (List.mem_append_left _ hmem)
      · exact N₁ _ (List.mem_append_right _ hp)
    refine wpAny_mono (step' oI i v m₁ news₁ hh' tk' hin' hP hJ (fun p hp q => hoff p hp (List.mem_singleton.mpr q)) F₁ N₂) (fun f s₂ p => ?_) fun _ _ e => e
    have fin : TurnI h₀ env.locals s.heap.objs.size oI (J (i + 1)) { s with heap := hh', toks := tk' } s₂ → LoopStepU h₀ env.locals [s.heap.objs.size] own (J (i + 1)) { s with heap := hh', toks := tk' } .next s₂ := by
      rintro ⟨h', tk, m', news', e, F', N', off', r⟩
      refine ⟨rfl, h', tk, m', news', e, F', fun p hp => ?_, fun p hp hI => off' p hp (List.mem_singleton.mp hI), r⟩
      rcases List.mem_append.mp hp with hp | hp
      · have h2 : hh'.get? p.1 = some p.2 := hget p hp
        have h1 : p.1 = s.heap.objs.size := Classical.byContradiction fun ne => by
          obtain ⟨o, ho⟩ := hfp _ (hown p hp) ne
          have := (N₁ p (List.mem_append_left _ hp)).2.2
          rw [ho] at this; cases this
        have h3 : p = (s.heap.objs.size, oI) := by
          rw [h1, hoI] at h2
          exact Prod.ext h1 (Option.some.inj h2).symm
        rw [h3]; exact N' _ (List.mem_cons_self ..)
      · exact N' _ (List.mem_cons_of_mem _ hp)
    cases f with
    | ret v => exact .ret p
    | brk => exact .brk p
    | next => exact .next (fin p)
    | cont => exact .cont (fin p)
  · rintro h' tk m' news' F' N' _ hJ
    exact fin h' tk m' news' F' N' hJ
theorem V_iter_range (J : Nat → (Str → Option Value) → List (Addr × Obj) → Prop) {r : Addr} {a₀ b₀ : Int} {t₀ u₀ v₀ : Tok} {n : Nat} {m₀ : Str → Option Value} {news : List (Addr × Obj)}
    (hh : A.handled = none) (hr : IsRange s.heap r a₀ b₀ 1 t₀ u₀ v₀) (hsmall : Builtin.Range.small a₀ b₀ 1 = true) (hn : Builtin.Range.rangeSize a₀ b₀ 1 = (n : Int)) (F : Fr h₀ env.locals s.heap m₀) (N : News h₀ env.locals s.heap news)
    (j0 : J 0 m₀ news) (step : TurnsV prog w A E s env h₀ x body n (fun i v => ∃ t, v = .int (a₀ + i) t) news J Q)
    (fin : ∀ h tk m' news', Fr h₀ env.locals h m' → News h₀ env.locals h news' → J n m' news' → Q .next { s with heap := h, toks := tk }) :
    wpAny (model prog w) A (pyIter (.ref r)) (fun it s₂ => LoopAtV prog w A h₀ env x body Q E it s₂) E s := by
  refine wpAny_pyIter_range hr hsmall ?_
  have W := Walks.range (prog := prog) (w := w) hh s.heap.objs.size a₀ 1 n
  refine loopV rfl W ?_ (.head _) ?_ (by show IsRangeIter _ _ _ _ _; rw [hn]; simpa using Heap.get?_push_size _ rfl) (fun i h st => ⟨_, st⟩) F N J j0 (fun I oI hI i v m₁ news₁ h tk hi hP => step I oI hI i v m₁ news₁ h tk hi ?_) fin
  · intro b hb ne
    exact absurd (List.mem_singleton.mp hb) ne
  · intro hm
    exact absurd F.ns.lt ((List.mem_singleton.mp hm) ▸ Nat.lt_irrefl _)
  · obtain ⟨t, rfl⟩ := hP
    exact ⟨t, by rw [Int.mul_one]⟩
theorem V_iter_list (J : Nat → (Str → Option Value) → List (Addr × Obj) → Prop) {r : Addr} {items : Array Value} {m₀ : Str → Option Value} {news : List (Addr × Obj)}
    (hh : A.handled = none) (hr : h₀.IsList r items) (F : Fr h₀ env.locals s.heap m₀) (N : News h₀ env.locals s.heap news)
    (j0 : J 0 m₀ news) (step : TurnsV prog w A E s env h₀ x body items.size (fun i v => items[i]? = some v) news J Q)
    (fin : ∀ h tk m' news', Fr h₀ env.locals h m' → News h₀ env.locals h news' → J items.size m' news' → Q .next { s with heap := h, toks := tk }) :
    wpAny (model prog w) A (pyIter (.ref r)) (fun it s₂ => LoopAtV prog w A h₀ env x body Q E it s₂) E s := by
  have hLr : @Ne Nat env.locals r := by obtain ⟨o, ho, _⟩ := hr; exact Nat.ne_of_gt (Nat.lt_of_lt_of_le (Heap.lt_size ho) F.above)
  have hr' : s.heap.IsList r items := by obtain ⟨o, ho, q⟩ := hr; exact ⟨o, F.keep _ _ ho, q⟩
  refine wpAny_pyIter_list hr' ?_
  have hne : @Ne Nat r s.heap.objs.size := by obtain ⟨o, ho, _⟩ := hr'; exact Nat.ne_of_lt (Heap.lt_size ho)
  have W := Walks.list (prog := prog) (w := w) hh s.heap.objs.size r hne items
  refine loopV rfl W ?_ (.head _) ?_ ⟨⟨_, Heap.get?_push_size _ rfl, rfl, rfl⟩, hr'.push _⟩ (fun i h st => by obtain ⟨⟨o, ho, _⟩, _⟩ := st; exact ⟨o, ho⟩) F N J j0 step fin
  · intro b hb ne
    rcases List.mem_cons.mp hb with e | hb
    · exact absurd e ne
    · rw [List.mem_singleton.mp hb]
      obtain ⟨o, ho, _⟩ := hr; exact ⟨o, ho⟩
  · intro hm
    rcases List.mem_cons.mp hm with e | hm
    · exact absurd F.ns.lt (e ▸ Nat.lt_irrefl _)
    · exact hLr (List.mem_singleton.mp hm)
end
end
section
open PySem PySem.W PySem.Calls PyProof.Rows LCg
section
variable {prog : Program} {w : World} {A : Around} {E : Value → Shared → Prop} {s : Shared} {env : Env} {h₀ : Heap} {L : Addr} {m : Str → Option Value}
/-- a comprehension over a tuple that stood before the frame -/
noncomputable def SrcT (prog : Program) (w : World) (A : Around) (h₀ : Heap) (L : Addr) (m : Str → Option Value) (env : Env) (elt : Expr) (x : Str) (scope : Scope) (cl : List (Str × Addr)) (Fin : Shared → List Value → List (Addr × Obj) → Prop) (xv : Value) (s₁ : Shared) : Prop :=
  ∃ ax its news, xv = .ref ax ∧ A.handled = none ∧ Fr h₀ L s₁.heap m ∧ News h₀ L s₁.heap news ∧ h₀.IsTuple ax its ∧ its.size ≤ sizeLine ∧
    ∀ s₂ : Shared, (∃ h, s₂ = { s₁ with heap := h }) → CompRest prog w A h₀ L m env elt x scope cl s₂ (fun _ => True) (fun i v => its[i]? = some v) (Fin s₂) its.size 0 [] news
theorem tuple_st {ax I : Addr} {its : Array Value} (hl₀ : h₀.IsTuple ax its) : ∀ i (h h' : Heap) (o : Obj) (nw : List (Addr × Obj)), (h.IsTupleIter I ax i ∧ h.IsTuple ax its) → h.get? I = some o → h'.get? I = some o → (∀ b o, h₀.get? b = some o → h'.get? b = some o) → News h₀ L h' nw → True → (h'.IsTupleIter I ax i ∧ h'.IsTuple ax its) :=
  fun i h h' o nw st e e' k N S => ⟨by obtain ⟨o', q, r⟩ := st.1; rw [e] at q; cases q; exact ⟨o, e', r⟩, by obtain ⟨o', q, r⟩ := hl₀; exact ⟨o', k _ _ q, r⟩⟩
theorem ListComp_T {elt iter : Expr} {x : Str} {px : Pos} {scope : Scope} {cl : List (Str × Addr)} {pos : Pos} {Q : Value → Shared → Prop} (_F₀ : Fr h₀ L s.heap m)
    (hclos : closureFor scope env = pure cl) (hcell : ∀ y ∈ scope.names, y.2 ≠ .cell) (hkind : scope.kind = .function)
    (hnames : ∀ y ∈ scope.names, y.2 = .local → scope.names.lookup y.1 = some .local) (hx : scope.names.lookup x = some .local)
    (h : wpAny (model prog w) A (eval iter env) (SrcT prog w A h₀ L m env elt x scope cl (fun s₂ => FinE h₀ L m s₂ Q)) E s)
    (hs : ∀ x, foldedSetIterable iter env x = pure x := by intro _; rfl) :
    wpAny (model prog w) A (eval (.ListComp elt [⟨.Name x px, iter, [], 0⟩] scope pos) env) Q E s := by
  rw [eval_ListComp]
  refine wpAny_comprehension_free (use := none) rfl hs hclos hkind hnames (wpAny_mono h (fun xv s₁ h₁ => ?_) fun _ _ e => e)
  obtain ⟨ax, its, news, rfl, hh, F, N, hl₀, hsz, R⟩ := h₁
  have hl : s₁.heap.IsTuple ax its := by obtain ⟨o', q, r⟩ := hl₀; exact ⟨o', F.keep _ _ q, r⟩
  have hlt : ax < s₁.heap.objs.size := by obtain ⟨_, e, _⟩ := hl; exact Heap.lt_size e
  refine wpAny_pyIter_tuple hl ?_
  have up : ∀ b o, s₁.heap.get? b = some o → (s₁.heap.push { cls := .type "tuple_iterator", data := .fields #[.ref ax, .int 0 0] }).get? b = some o := fun b o e => Heap.get?_push_of_some _ e
  refine block_U (Walks.tuple hh s₁.heap.objs.size ax (Nat.ne_of_lt hlt) its) hsz (fun i h st => by obtain ⟨o, e, _⟩ := st.1; exact ⟨o, e⟩) (tuple_st hl₀) hcell hkind hx ⟨⟨_, Heap.get?_push_size _ rfl, rfl, rfl⟩, hl.push _⟩ (fun b hb => ?_)
    (F.keeps up) (N.grown up) (Nat.ne_of_lt F.ns.lt) (next_is_new F) (fun p hp => Nat.ne_of_lt (Heap.lt_size (N p hp).1)) trivial (R _ ⟨_, rfl⟩) ?_
  · show b < (s₁.heap.push _).objs.size
    rw [Heap.size_push]
    rcases List.mem_cons.mp hb with rfl | hb
    · exact Nat.lt_succ_self _
    · rw [List.mem_singleton.mp hb]; exact Nat.lt_succ_of_lt hlt
  · intro D C h tk m' ys news' F' N' o1 hn hC₀ hD₀ hCL hDL hCD offC fin
    refine ⟨m', hn, fun h'' hs'' => fin D h'' tk (F'.change hs'' hCL hC₀) (fun p hp => ?_) o1⟩
    refine ⟨hs''.extBut _ _ ?_ (N' p hp).1, (N' p hp).2⟩
    rcases List.mem_cons.mp hp with rfl | hp
    · exact Ne.symm hCD
    · exact offC p hp
theorem SrcT.intro {elt : Expr} {x : Str} {scope : Scope} {cl : List (Str × Addr)} {Fin : Shared → List Value → List (Addr × Obj) → Prop} {ax : Addr} {its : Array Value} {news : List (Addr × Obj)} {s₁ : Shared}
    (hh : A.handled = none) (F : Fr h₀ L s₁.heap m) (N : News h₀ L s₁.heap news) (hl : IsTup h₀ ax its) (hsz : its.size ≤ sizeLine) {n : Nat} (hn : its.size = n)
    (h : ∀ g, CompRest prog w A h₀ L m env elt x scope cl { s₁ with heap := g } (fun _ => True) (fun i v => its[i]? = some v) (Fin { s₁ with heap := g }) n 0 [] news) :
    SrcT prog w A h₀ L m env elt x scope cl Fin (.ref ax) s₁ := ⟨ax, its, news, rfl, hh, F, N, hl, hsz, fun _ ⟨g, e⟩ => e ▸ hn ▸ h g⟩
end
end
section
theorem hide {P : Prop} (k : let G := P; G) : P := k
theorem storeX_M {M : Model} {A : Around} {E : Value → Shared → Prop} {L : Addr} {h₀ : Heap} {m : Str → Option Value} {news : List (Addr × Obj)} {x : Str} {v : Value} {Q : Unit → Shared → Prop} {cn : Str} {cs : Scope} {a : Addr} {ccd : Value} {cl : List (Str × Addr)} {h : Heap} {g d t o}
    (F : Fr h₀ L h m) (N : News h₀ L h news) (k : ∀ h' t', let m' := (fun y => if y = x then some v else m y); Fr h₀ L h' m' → News h₀ L h' news → Q () ⟨h', g, d, t', o⟩)
    (hk : cs.kind = .function := by rfl) (hx : (envX cn cs L a ccd cl).kindOf x = some .local := by rfl) : wpAny M A (storeName (envX cn cs L a ccd cl) x v) Q E ⟨h, g, d, t, o⟩ :=
  storeX_L (s := ⟨h, g, d, t, o⟩) F N (fun h' F' N' => k h' _ F' N') hk hx
set_option hygiene false in
local macro_rules | `(tactic| obtain $p:rcasesPatMed := $t:term) => `(tactic| (refine hide ?_; intro gGoal; rcases $t:term with $p:rcasesPatMed <;> (try k_unfold)))
local macro_rules | `(tactic| obtain rfl := $t:term) => `(tactic| rcases $t:term with rfl)
set_option hygiene false in
local macro_rules | `(tactic| walk_at "storeName") => `(tactic| (k_here; k_dflt ((try dsimp only); refine' storeX_M ?F ?N ?_ ?a ?b; (case F => k_asm); (case N => k_asm); (case a => rfl); (case b => rfl); k_whole; intro _ tStore mStore _ _; (try k_sweep))))
local macro_rules | `(tactic| k_all) => `(tactic| assumption)
section
open PySem PySem.W PySem.Calls PyProof.Rows
noncomputable abbrev inD (w : World) (b : Array UInt8) (at_ end_ : Int) (tb t1 t2 t3 ta te : Tok) : Obj := dictOf [ent w "data" t1 (.bytes b tb), ent w "at" t2 (.int at_ ta), ent w "end" t3 (.int end_ te)] 3
/-- an In that stands at a place -/
noncomputable def InAt (w : World) (h : Heap) (x dx : Addr) (b : Array UInt8) (n p : Nat) : Prop := ∃ tb t1 t2 t3 ta te, h.get? x = some (instObj 259 dx) ∧ h.get? dx = some (inD w b p n tb t1 t2 t3 ta te)
variable {w : World} {mean : ExcName → Option Value} {mg mb : Str → Option Value}
theorem gin {b : Array UInt8} {ks : List Int} (hk : KBw.bInts b = ks) (j : Nat) : 0 ≤ ks.getD j 0 ∧ ks.getD j 0 < 256 := KBw.getD_in fun k hm => KBw.ints_in (b := b) (by rw [hk]; exact hm)
theorem le1_in {b : Array UInt8} {ks : List Int} (hk : KBw.bInts b = ks) (p : Nat) : 0 ≤ le1 ks p ∧ le1 ks p < 256 := gin hk p
theorem le2_in {b : Array UInt8} {ks : List Int} (hk : KBw.bInts b = ks) (p : Nat) : 0 ≤ le2 ks p ∧ le2 ks p < 65536 := by
  have a := gin hk p; have c := gin hk (p + 1); unfold le2; omega
theorem le4_in {b : Array UInt8} {ks : List Int} (hk : KBw.bInts b = ks) (p : Nat) : 0 ≤ le4 ks p ∧ le4 ks p < 4294967296 := by
  have a := gin hk p; have c := gin hk (p + 1); have d := gin hk (p + 2); have e := gin hk (p + 3); unfold le4; omega
theorem News.perm {h₀ h : Heap} {L : Addr} {news news' : List (Addr × Obj)} (N : News h₀ L h news) (k : ∀ q ∈ news', q ∈ news) : News h₀ L h news' := fun q hq => N q (k q hq)
theorem range_size (n : Nat) : Builtin.Range.rangeSize 0 (n : Int) 1 = (n : Int) := by
  have := rangeSize_nat 0 (n : Int)
  simpa using this
/-- what take_number has put together after i octets -/
noncomputable def lev (ks : List Int) (p : Nat) : Nat → Int
  | 0 => 0
  | i + 1 => Builtin.bitOr (lev ks p i) (ks.getD (p + i) 0 * 2 ^ (8 * i))
noncomputable def TakeJ (w : World) (x dx : Addr) (b : Array UInt8) (ks : List Int) (p c : Nat) (tc : Tok) (i : Nat) (m : Str → Option Value) (news : List (Addr × Obj)) : Prop :=
  m (Str.ofString "inp") = some (.ref x) ∧ m (Str.ofString "count") = some (.int (c : Int) tc) ∧ (∃ tn, m (Str.ofString "n") = some (.int (lev ks p i) tn)) ∧
    ∃ tb t1 t2 t3 ta te, news = [(x, instObj 259 dx), (dx, inD w b p ks.length tb t1 t2 t3 ta te)]
set_option maxHeartbeats 4000000 in
theorem takeN (b : Array UInt8) (p c : Nat) (hc : c ≤ 4) (tc : Tok) (x dx : Addr) (hne : @Ne Nat x dx) (ks : List Int) (hk : KBw.bInts b = ks) (hz : ks.length ≤ 1000000) : Spec w mean mg mb 8 172 [.ref x, .int (c : Int) tc] [x, dx]
    (fun h => InAt w h x dx b ks.length p) (fun _ v h' => InAt w h' x dx b ks.length (p + c) ∧ p + c ≤ ks.length ∧ ∃ tv, v = .int (lev ks p c) tv) (ks.length < p + c) := by
  intro A base fr s Q E S hpre ok er
  obtain ⟨tb, t1, t2, t3, ta, te, hx, hdx⟩ := hpre
  refine enter (binds := [(Str.ofString "inp", .ref x), (Str.ofString "count", .int (c : Int) tc)]) [(x, instObj 259 dx), (dx, inD w b p ks.length tb t1 t2 t3 ta te)] S (List.forall_mem_cons.mpr ⟨hx, List.forall_mem_cons.mpr ⟨hdx, List.forall_mem_nil _⟩⟩) (by k_is) (by k_is) (BindsTo.of_eq rfl) (locs rfl) er ?_ rfl rfl rfl (by decide)
  intro g L h₁ gk lt B X T F N sz hE
  (try dsimp only)
  k_fold
  (repeat' (first | (((with_reducible show wpAny _ _ (exec (Stmt.Raise _ _ _) _) _ _ _); refine Raise_bad (by have sXZZ := ‹Site _ _ _ _ _ _ _ _ _ _›; exact sXZZ.hh) ?_) <;> (try dsimp only)) | ((with_reducible (((with_reducible show wpAny _ _ (call (Value.ref 51) _) _ _ _); refine bad_raise (by assumption) (by assumption) (by assumption) (by decide) ⟨rfl, rfl⟩ ?_))) <;> (try dsimp only)) | walk_at "ks"))
  · exact hE (by omega) _ _ _ (by assumption) (by assumption)
  rename Fr _ _ _ _ => lF; rename News _ _ _ _ => lN; rename IsRange _ _ _ _ _ _ _ _ => lR
  refine iter_rangeInv (n := c) (TakeJ w x dx b ks p c tc) S.hh lR ?_ (range_size _) lF lN ?_ ?_ ?_
  · exact small_one (by decide) (by decide) (by omega) (by omega)
  · exact ⟨rfl, rfl, ⟨_, rfl⟩, _, _, _, _, _, _, rfl⟩
  · intro I lI i m₁ news₁ t h tk2 hi hJ hI F1 N1
    obtain ⟨e1, e2, ⟨tn, e3⟩, tb', t1', t2', t3', ta', te', rfl⟩ := hJ
    have F2 : Fr g L h (fun y => if y = Str.ofString "place" then some (.int (0 + (i : Int)) t) else front [(Str.ofString "inp", .ref x), (Str.ofString "count", .int (c : Int) tc), (Str.ofString "n", .int (lev ks p i) tn)] m₁ y) := by
      rw [front_eq (List.forall_mem_cons.mpr ⟨e1, List.forall_mem_cons.mpr ⟨e2, List.forall_mem_cons.mpr ⟨e3, List.forall_mem_nil _⟩⟩⟩)]; exact F1
    have N2 : News g L h [(x, instObj 259 dx), (dx, inD w b (p : Int) ks.length tb' t1' t2' t3' ta' te'), (I, itR (0 + ((i + 1 : Nat) : Int)) ((c : Int) - ((i + 1 : Nat) : Int)))] :=
      News.perm N1 (List.forall_mem_cons.mpr ⟨.tail _ (.head _), List.forall_mem_cons.mpr ⟨.tail _ (.tail _ (.head _)), List.forall_mem_cons.mpr ⟨.head _, List.forall_mem_nil _⟩⟩⟩)
    clear F1 N1
    have n1 := hI _ (.head _)
    have n2 := hI _ (.tail _ (.head _))
    (try dsimp only)
    (repeat' (first | ((with_reducible (((with_reducible show wpAny _ _ (subscriptTail _ _ (Value.bytes _ _) (Value.int _ _)) _ _ _); refine KBw.item_K (by assumption) (by omega) (by omega) (by omega) ?_))) <;> (try dsimp only)) | walk_at "ks"))
    have e4 : ((p : Int) + (0 + (i : Int))).toNat = p + i := by omega
    have e5 : (8 * (0 + (i : Int))).toNat = 8 * i := by omega
    refine ⟨rfl, rfl, ⟨_, congrArg (fun z => some (Value.int z _)) ?_⟩, _, _, _, _, _, _, rfl⟩
    rw [e4, e5]; rfl
  · intro h tk2 m' news' F1 N1 hJ
    obtain ⟨e1, e2, ⟨tn, e3⟩, tb', t1', t2', t3', ta', te', rfl⟩ := hJ
    have F2 : Fr g L h (front [(Str.ofString "inp", .ref x), (Str.ofString "count", .int (c : Int) tc), (Str.ofString "n", .int (lev ks p c) tn)] m') := by
      rw [front_eq (List.forall_mem_cons.mpr ⟨e1, List.forall_mem_cons.mpr ⟨e2, List.forall_mem_cons.mpr ⟨e3, List.forall_mem_nil _⟩⟩⟩)]; exact F1
    clear F1
    (try dsimp only)
    k_steps
    (rename News _ _ _ _ => nE; rename Fr _ _ _ _ => fE)
    exact ok _ _ _ (Fr.kept gk fE) ⟨⟨_, _, _, _, _, _, (nE _ (.head _)).1, (nE _ (.tail _ (.head _))).1⟩, by omega, _, rfl⟩
theorem take1 (b : Array UInt8) (p : Nat) (tc : Tok) (x dx : Addr) (hne : @Ne Nat x dx) (ks : List Int) (hk : KBw.bInts b = ks) (hz : ks.length ≤ 1000000) : Spec w mean mg mb 8 172 [.ref x, .int 1 tc] [x, dx]
    (fun h => InAt w h x dx b ks.length p) (fun _ v h' => InAt w h' x dx b ks.length (p + 1) ∧ p + 1 ≤ ks.length ∧ ∃ tv, v = .int (le1 ks p) tv) (ks.length < p + 1) := by
  have q := takeN (w := w) (mean := mean) (mg := mg) (mb := mb) b p 1 (by decide) tc x dx hne ks hk hz
  rwa [show lev ks p 1 = le1 ks p from or_le1 (ks.getD p 0)] at q
theorem take2 (b : Array UInt8) (p : Nat) (tc : Tok) (x dx : Addr) (hne : @Ne Nat x dx) (ks : List Int) (hk : KBw.bInts b = ks) (hz : ks.length ≤ 1000000) : Spec w mean mg mb 8 172 [.ref x, .int 2 tc] [x, dx]
    (fun h => InAt w h x dx b ks.length p) (fun _ v h' => InAt w h' x dx b ks.length (p + 2) ∧ p + 2 ≤ ks.length ∧ ∃ tv, v = .int (le2 ks p) tv) (ks.length < p + 2) := by
  have q := takeN (w := w) (mean := mean) (mg := mg) (mb := mb) b p 2 (by decide) tc x dx hne ks hk hz
  rwa [show lev ks p 2 = le2 ks p from or_le2 (ks.getD p 0) (ks.getD (p + 1) 0) (gin hk _).1 (gin hk _).2] at q
theorem take4 (b : Array UInt8) (p : Nat) (tc : Tok) (x dx : Addr) (hne : @Ne Nat x dx) (ks : List Int) (hk : KBw.bInts b = ks) (hz : ks.length ≤ 1000000) : Spec w mean mg mb 8 172 [.ref x, .int 4 tc] [x, dx]
    (fun h => InAt w h x dx b ks.length p) (fun _ v h' => InAt w h' x dx b ks.length (p + 4) ∧ p + 4 ≤ ks.length ∧ ∃ tv, v = .int (le4 ks p) tv) (ks.length < p + 4) := by
  have q := takeN (w := w) (mean := mean) (mg := mg) (mb := mb) b p 4 (by decide) tc x dx hne ks hk hz
  rwa [show lev ks p 4 = le4 ks p from or_le4 (ks.getD p 0) (ks.getD (p + 1) 0) (ks.getD (p + 2) 0) (ks.getD (p + 3) 0) (gin hk _).1 (gin hk _).2 (gin hk _).1 (gin hk _).2 (gin hk _).1 (gin hk _).2] at q
end
section
open PySem PySem.W PySem.Calls PyProof.Rows
variable {w : World} {mean : ExcName → Option Value} {mg mb : Str → Option Value}
theorem useIn {n n' : Nat} {A : Around} {base h₀ : Heap} {fr : List Env} {s s₀ : Shared} {L : Addr} {m : Str → Option Value} {env : Env} {rest : List (Addr × Obj)} {D₀ : List Addr} {Q E₀ E₁ : Value → Shared → Prop} {f : Addr} {vs : List Value} {exc : Prop}
    {x dx : Addr} {b : Array UInt8} {k p p' : Nat} {R : Value → Prop} {tb t1 t2 t3 ta te : Tok}
    (h : Spec w mean mg mb n f vs [x, dx] (fun h => InAt w h x dx b k p) (fun _ v h' => InAt w h' x dx b k p' ∧ R v) exc) (S : Site w mean mg mb n' A base fr s₀ D₀) (B : Below A base fr h₀) (F : Fr h₀ L s.heap m)
    (N : News h₀ L s.heap ((x, instObj 259 dx) :: (dx, inD w b p k tb t1 t2 t3 ta te) :: rest)) (hx : ∀ q ∈ rest, @Ne Nat q.1 x) (hdx : ∀ q ∈ rest, @Ne Nat q.1 dx) (hn : n + 1 ≤ n') (hk : env.frame = some L ∧ env.scope.kind = .function)
    (ok : ∀ v tb t1 t2 t3 ta te h' tk, Fr h₀ L h' m → News h₀ L h' ((x, instObj 259 dx) :: (dx, inD w b p' k tb t1 t2 t3 ta te) :: rest) → R v → Q v { s with heap := h', toks := tk })
    (er : exc → ∀ e h' tk, Exc base fr e h' → h₀.UpToSlots h' → E₀ (.ref e) { s with heap := h', toks := tk }) :
    wpAny (MD w) (A.deeper env) (call (.ref f) vs) Q
      (fun e s' => wpAny (MD w) (A.deeper env) (leaving env e) (fun _ s'' => E₀ e s'') (fun e' s'' => E₁ e' s'') s') s := by
  refine use h S B F N (fun d hd => ?_) hn hk ⟨tb, t1, t2, t3, ta, te, (N _ (.head _)).1, (N _ (.tail _ (.head _))).1⟩ (fun v h' tk K F' P => ?_) er
  · rcases List.mem_cons.mp hd with rfl | hd
    · exact .head _
    · rcases List.mem_cons.mp hd with rfl | hd
      · exact .tail _ (.head _)
      · nomatch hd
  · obtain ⟨⟨tb', t1', t2', t3', ta', te', o1, o2⟩, r⟩ := P
    refine ok v tb' t1' t2' t3' ta' te' h' tk F' (List.forall_mem_cons.mpr ⟨⟨o1, (N _ (.head _)).2⟩, List.forall_mem_cons.mpr ⟨⟨o2, (N _ (.tail _ (.head _))).2⟩, ?_⟩⟩) r
    refine News.keepBut N K fun q hq => ⟨.tail _ (.tail _ hq), fun hm => ?_⟩
    rcases List.mem_cons.mp hm with e | hm
    · exact hx q hq e
    · rcases List.mem_cons.mp hm with e | hm
      · exact hdx q hq e
      · nomatch hm
set_option maxHeartbeats 4000000 in
theorem u8 (b : Array UInt8) (p : Nat) (x dx : Addr) (hne : @Ne Nat x dx) (ks : List Int) (hk : KBw.bInts b = ks) (hz : ks.length ≤ 1000000) : Spec w mean mg mb 9 193 [.ref x] [x, dx]
    (fun h => InAt w h x dx b ks.length p) (fun _ v h' => InAt w h' x dx b ks.length (p + 1) ∧ p + 1 ≤ ks.length ∧ (0 ≤ le1 ks p ∧ le1 ks p < 256) ∧ ∃ tv, v = .int (le1 ks p) tv) (ks.length < p + 1) := by
  intro A base fr s Q E S hpre ok er
  obtain ⟨tb, t1, t2, t3, ta, te, hx, hdx⟩ := hpre
  refine enter (binds := [(Str.ofString "self", .ref x)]) [(x, instObj 259 dx), (dx, inD w b p ks.length tb t1 t2 t3 ta te)] S (List.forall_mem_cons.mpr ⟨hx, List.forall_mem_cons.mpr ⟨hdx, List.forall_mem_nil _⟩⟩) (by k_is) (by k_is) (BindsTo.of_eq rfl) (locs rfl) er ?_ rfl rfl rfl (by decide)
  intro g L h₁ gk lt B X T F N sz hE
  (try dsimp only)
  k_fold
  (repeat' (first | ((with_reducible (((with_reducible show wpAny _ _ (call (Value.ref 172) [_, Value.int 1 _]) _ _ _); (rename News _ _ _ _ => nXZZ); (refine useIn (take1 _ _ _ _ _ (by assumption) _ (by assumption) (by assumption)) (by assumption) (by assumption) (by assumption) nXZZ (by k_all) (by k_all) (by decide) ⟨rfl, rfl⟩ ?_ ?_); rotate_left; (intro qZZ eZZ hZZ tkZZ XZZ UZZ); rotate_left; intro vZZ tbZZ t1ZZ t2ZZ t3ZZ taZZ teZZ hZZ tkZZ FZZ NZZ rZZ; obtain ⟨r1ZZ, tvZZ, hvZZ⟩ := rZZ; subst hvZZ))) <;> (try dsimp only)) | walk_at "ks"))
  rotate_left
  · exact hE (by omega) _ _ _ (by assumption) (by assumption)
  (rename News _ _ _ _ => nE; rename Fr _ _ _ _ => fE)
  exact ok _ _ _ (Fr.kept gk fE) ⟨⟨_, _, _, _, _, _, (nE _ (.head _)).1, (nE _ (.tail _ (.head _))).1⟩, by omega, le1_in hk p, _, rfl⟩
set_option maxHeartbeats 4000000 in
theorem u16 (b : Array UInt8) (p : Nat) (x dx : Addr) (hne : @Ne Nat x dx) (ks : List Int) (hk : KBw.bInts b = ks) (hz : ks.length ≤ 1000000) : Spec w mean mg mb 9 200 [.ref x] [x, dx]
    (fun h => InAt w h x dx b ks.length p) (fun _ v h' => InAt w h' x dx b ks.length (p + 2) ∧ p + 2 ≤ ks.length ∧ (0 ≤ le2 ks p ∧ le2 ks p < 65536) ∧ ∃ tv, v = .int (le2 ks p) tv) (ks.length < p + 2) := by
  intro A base fr s Q E S hpre ok er
  obtain ⟨tb, t1, t2, t3, ta, te, hx, hdx⟩ := hpre
  refine enter (binds := [(Str.ofString "self", .ref x)]) [(x, instObj 259 dx), (dx, inD w b p ks.length tb t1 t2 t3 ta te)] S (List.forall_mem_cons.mpr ⟨hx, List.forall_mem_cons.mpr ⟨hdx, List.forall_mem_nil _⟩⟩) (by k_is) (by k_is) (BindsTo.of_eq rfl) (locs rfl) er ?_ rfl rfl rfl (by decide)
  intro g L h₁ gk lt B X T F N sz hE
  (try dsimp only)
  k_fold
  (repeat' (first | ((with_reducible (((with_reducible show wpAny _ _ (call (Value.ref 172) [_, Value.int 2 _]) _ _ _); (rename News _ _ _ _ => nXZZ); (refine useIn (take2 _ _ _ _ _ (by assumption) _ (by assumption) (by assumption)) (by assumption) (by assumption) (by assumption) nXZZ (by k_all) (by k_all) (by decide) ⟨rfl, rfl⟩ ?_ ?_); rotate_left; (intro qZZ eZZ hZZ tkZZ XZZ UZZ); rotate_left; intro vZZ tbZZ t1ZZ t2ZZ t3ZZ taZZ teZZ hZZ tkZZ FZZ NZZ rZZ; obtain ⟨r1ZZ, tvZZ, hvZZ⟩ := rZZ; subst hvZZ))) <;> (try dsimp only)) | walk_at "ks"))
  rotate_left
  · exact hE (by omega) _ _ _ (by assumption) (by assumption)
  (rename News _ _ _ _ => nE; rename Fr _ _ _ _ => fE)
  exact ok _ _ _ (Fr.kept gk fE) ⟨⟨_, _, _, _, _, _, (nE _ (.head _)).1, (nE _ (.tail _ (.head _))).1⟩, by omega, le2_in hk p, _, rfl⟩
set_option maxHeartbeats 4000000 in
theorem u32 (b : Array UInt8) (p : Nat) (x dx : Addr) (hne : @Ne Nat x dx) (ks : List Int) (hk : KBw.bInts b = ks) (hz : ks.length ≤ 1000000) : Spec w mean mg mb 9 207 [.ref x] [x, dx]
    (fun h => InAt w h x dx b ks.length p) (fun _ v h' => InAt w h' x dx b ks.length (p + 4) ∧ p + 4 ≤ ks.length ∧ (0 ≤ le4 ks p ∧ le4 ks p < 4294967296) ∧ ∃ tv, v = .int (le4 ks p) tv) (ks.length < p + 4) := by
  intro A base fr s Q E S hpre ok er
  obtain ⟨tb, t1, t2, t3, ta, te, hx, hdx⟩ := hpre
  refine enter (binds := [(Str.ofString "self", .ref x)]) [(x, instObj 259 dx), (dx, inD w b p ks.length tb t1 t2 t3 ta te)] S (List.forall_mem_cons.mpr ⟨hx, List.forall_mem_cons.mpr ⟨hdx, List.forall_mem_nil _⟩⟩) (by k_is) (by k_is) (BindsTo.of_eq rfl) (locs rfl) er ?_ rfl rfl rfl (by decide)
  intro g L h₁ gk lt B X T F N sz hE
  (try dsimp only)
  k_fold
  (repeat' (first | ((with_reducible (((with_reducible show wpAny _ _ (call (Value.ref 172) [_, Value.int 4 _]) _ _ _); (rename News _ _ _ _ => nXZZ); (refine useIn (take4 _ _ _ _ _ (by assumption) _ (by assumption) (by assumption)) (by assumption) (by assumption) (by assumption) nXZZ (by k_all) (by k_all) (by decide) ⟨rfl, rfl⟩ ?_ ?_); rotate_left; (intro qZZ eZZ hZZ tkZZ XZZ UZZ); rotate_left; intro vZZ tbZZ t1ZZ t2ZZ t3ZZ taZZ teZZ hZZ tkZZ FZZ NZZ rZZ; obtain ⟨r1ZZ, tvZZ, hvZZ⟩ := rZZ; subst hvZZ))) <;> (try dsimp only)) | walk_at "ks"))
  rotate_left
  · exact hE (by omega) _ _ _ (by assumption) (by assumption)
  (rename News _ _ _ _ => nE; rename Fr _ _ _ _ => fE)
  exact ok _ _ _ (Fr.kept gk fE) ⟨⟨_, _, _, _, _, _, (nE _ (.head _)).1, (nE _ (.tail _ (.head _))).1⟩, by omega, le4_in hk p, _, rfl⟩
set_option maxHeartbeats 4000000 in
theorem left (b : Array UInt8) (p : Nat) (x dx : Addr) (hne : @Ne Nat x dx) (ks : List Int) : Spec w mean mg mb 9 256 [.ref x] [x, dx]
    (fun h => InAt w h x dx b ks.length p) (fun _ v h' => InAt w h' x dx b ks.length p ∧ ∃ tv, v = .int ((ks.length : Int) - (p : Int)) tv) False := by
  intro A base fr s Q E S hpre ok er
  obtain ⟨tb, t1, t2, t3, ta, te, hx, hdx⟩ := hpre
  refine enter (binds := [(Str.ofString "self", .ref x)]) [(x, instObj 259 dx), (dx, inD w b p ks.length tb t1 t2 t3 ta te)] S (List.forall_mem_cons.mpr ⟨hx, List.forall_mem_cons.mpr ⟨hdx, List.forall_mem_nil _⟩⟩) (by k_is) (by k_is) (BindsTo.of_eq rfl) (locs rfl) er ?_ rfl rfl rfl (by decide)
  intro g L h₁ gk lt B X T F N sz hE
  (try dsimp only)
  k_fold
  k_steps
  (rename News _ _ _ _ => nE; rename Fr _ _ _ _ => fE)
  exact ok _ _ _ (Fr.kept gk fE) ⟨⟨_, _, _, _, _, _, (nE _ (.head _)).1, (nE _ (.tail _ (.head _))).1⟩, _, rfl⟩
end
section
open PySem PySem.W PySem.Calls PyProof.Rows
variable {w : World} {mean : ExcName → Option Value} {mg mb : Str → Option Value}
set_option maxHeartbeats 4000000 in
theorem raw (b : Array UInt8) (p : Nat) (x dx : Addr) (hne : @Ne Nat x dx) (ks : List Int) (hk : KBw.bInts b = ks) (hz : ks.length ≤ 1000000) (z : Int) (tz : Tok) (h0 : 0 ≤ z) : Spec w mean mg mb 8 249 [.ref x, .int z tz] [x, dx]
    (fun h => InAt w h x dx b ks.length p) (fun _ v h' => InAt w h' x dx b ks.length (p + z.toNat) ∧ p + z.toNat ≤ ks.length ∧ ∃ tv bb, v = .bytes bb tv ∧ KBw.bInts bb = (ks.drop p).take z.toNat) (ks.length < p + z.toNat) := by
  intro A base fr s Q E S hpre ok er
  obtain ⟨tb, t1, t2, t3, ta, te, hx, hdx⟩ := hpre
  obtain ⟨zn, rfl⟩ := Int.eq_ofNat_of_zero_le h0
  refine enter (binds := [(Str.ofString "self", .ref x), (Str.ofString "n", .int (zn : Int) tz)]) [(x, instObj 259 dx), (dx, inD w b p ks.length tb t1 t2 t3 ta te)] S (List.forall_mem_cons.mpr ⟨hx, List.forall_mem_cons.mpr ⟨hdx, List.forall_mem_nil _⟩⟩) (by k_is) (by k_is) (BindsTo.of_eq rfl) (locs rfl) er ?_ rfl rfl rfl (by decide)
  intro g L h₁ gk lt B X T F N sz hE
  (try dsimp only)
  k_fold
  (repeat' (first | (((with_reducible show wpAny _ _ (exec (Stmt.Raise _ _ _) _) _ _ _); refine Raise_bad (by have sXZZ := ‹Site _ _ _ _ _ _ _ _ _ _›; exact sXZZ.hh) ?_) <;> (try dsimp only)) | ((with_reducible (((with_reducible show wpAny _ _ (call (Value.ref 51) _) _ _ _); refine bad_raise (by assumption) (by assumption) (by assumption) (by decide) ⟨rfl, rfl⟩ ?_))) <;> (try dsimp only)) | ((with_reducible (((with_reducible show wpAny _ _ (call (Value.type _) [Value.bytes _ _]) _ _ _); refine call_bytes_bytes ?_))) <;> (try dsimp only)) | walk_at "ks"))
  · exact hE (by omega) _ _ _ (by assumption) (by assumption)
  (rename News _ _ _ _ => nE; rename Fr _ _ _ _ => fE; rename KBw.bInts (KBy.picked _ _ _) = _ => kE)
  have l1 : p + zn ≤ ks.length := by omega
  have e1 : min p ks.length = p := by omega
  have e2 : clipAt ks.length ((p : Int) + (zn : Int)) = p + zn := by rw [show (p : Int) + (zn : Int) = ((p + zn : Nat) : Int) from rfl, clipAt_nat]; omega
  rw [e1, e2, show p + zn - p = zn by omega] at kE
  exact ok _ _ _ (Fr.kept gk fE) ⟨⟨_, _, _, _, _, _, (nE _ (.head _)).1, (nE _ (.tail _ (.head _))).1⟩, l1, _, _, rfl, kE⟩
end
section
open PySem PySem.W PySem.Calls PyProof.Rows
variable {w : World} {mean : ExcName → Option Value} {mg mb : Str → Option Value}
theorem srt_obj {w : World} : List.lookup 271 (hd.heap_1 w.params) = some { cls := .type "tuple", data := .seq #[.int 0 194, .int 1 196, .int 2 198, .int 4 200] } := by k_is
theorem srt_tup {n' : Nat} {A : Around} {base h₀ : Heap} {fr : List Env} {s s₀ : Shared} {L : Addr} {m : Str → Option Value} {D₀ : List Addr} (S : Site w mean mg mb n' A base fr s₀ D₀) (B : Below A base fr h₀) (F : Fr h₀ L s.heap m) :
    IsTup s.heap 271 #[.int 0 194, .int 1 196, .int 2 198, .int 4 200] := ⟨_, F.keep _ _ (B.stays _ _ (S.K _ _ srt_obj)), rfl, _, rfl⟩
theorem srt_ints : IntsAre (#[.int 0 194, .int 1 196, .int 2 198, .int 4 200] : Array Value).toList [0, 1, 2, 4] := by repeat constructor
set_option maxHeartbeats 4000000 in
theorem inInit {n : Nat} {A : Around} {base : Heap} {fr : List Env} {s : Shared} {Q E : Value → Shared → Prop} (b : Array UInt8) (tb : Tok) (ks : List Int) (hk : KBw.bInts b = ks) (hz : ks.length ≤ 1000000) (x dx : Addr) (hne : @Ne Nat x dx)
    (S : Site w mean mg mb (n + 1) A base fr s [x, dx]) (hx : s.heap.get? x = some (instObj 259 dx)) (hdx : s.heap.get? dx = some emptyDict)
    (ok : ∀ h' tk, KeepBut [x, dx] s.heap h' → InAt w h' x dx b ks.length 0 → Q .none { s with heap := h', toks := tk }) :
    codeAny (MD w) A (.call (.ref 186) ⟨[.ref x, .bytes b tb], []⟩) (fun r s' => match r with | .ok (.ret v) => Q v s' | .ok _ => False | .error e => E e s') s := by
  refine enterK (binds := [(Str.ofString "self", .ref x), (Str.ofString "data", .bytes b tb)]) [(x, instObj 259 dx), (dx, emptyDict)] S (List.forall_mem_cons.mpr ⟨hx, List.forall_mem_cons.mpr ⟨hdx, List.forall_mem_nil _⟩⟩) (by k_is) (by k_is) (BindsTo.of_eq rfl) (locs rfl) (exc := False) (fun q => q.elim) ?_ rfl rfl rfl (by decide)
  intro g L h₁ gk lt B X T F N sz hE
  (try dsimp only)
  k_fold
  k_steps
  (rename News _ _ _ _ => nE; rename Fr _ _ _ _ => fE)
  exact ok _ _ (Fr.kept gk fE) ⟨_, _, _, _, _, _, (nE _ (.head _)).1, (nE _ (.tail _ (.head _))).1⟩
theorem mk_in {w : World} : makesIn (hd.heap_1 w.params) 259 = true := by k_is
theorem mk_init {w : World} : findIn (hd.heap_1 w.params) (.ref 259) "__init__" = some (some (.ref 186)) := by k_is
theorem mk_fn {w : World} : typeIn (hd.heap_1 w.params) (.ref 186) = some (.type "function") := by k_is
theorem makeIn {n' : Nat} {A : Around} {base h₀ : Heap} {fr : List Env} {s s₀ : Shared} {L : Addr} {m : Str → Option Value} {env : Env} {news : List (Addr × Obj)} {D₀ : List Addr} {Q E : Value → Shared → Prop}
    {b : Array UInt8} {tb : Tok} {ks : List Int} (hk : KBw.bInts b = ks) (hz : ks.length ≤ 1000000)
    (S : Site w mean mg mb n' A base fr s₀ D₀) (B : Below A base fr h₀) (F : Fr h₀ L s.heap m) (N : News h₀ L s.heap news) (hn : 3 ≤ n') (hkk : env.frame = some L ∧ env.scope.kind = .function)
    (ok : ∀ x dx tb' t1 t2 t3 ta te h' tk, Fr h₀ L h' m → News h₀ L h' ((x, instObj 259 dx) :: (dx, inD w b 0 ks.length tb' t1 t2 t3 ta te) :: news) → (∀ p ∈ news, @LT.lt Nat _ p.1 dx) → @LT.lt Nat _ dx x → Q (.ref x) { s with heap := h', toks := tk }) :
    wpAny (MD w) (A.deeper env) (call (.ref 259) [.bytes b tb]) Q E s := by
  refine wpAny_call (make_K F N ((S.K.keeps B.stays).keeps F.keep) mk_in mk_init mk_fn fun x dx h' F' N' l1 l2 => ?_)
  have S1 := Site.body (s := { s with heap := h' }) (env := env) (D := [x, dx]) (n := 2) S B F' N' (fun d hd => by
    rcases List.mem_cons.mp hd with rfl | hd
    · exact .head _
    · rcases List.mem_cons.mp hd with rfl | hd
      · exact .tail _ (.head _)
      · nomatch hd) hkk (by omega)
  have S2 := Site.underMake (n := 1) (s' := { s with heap := h' }) (vs := [.bytes b tb]) (C := 259) S1 (fun _ _ q => q) S1.fresh S1.apart
  refine codeAny_mono (inInit (n := 0) (s := { s with heap := h' }) (Q := fun v s' => v = .none ∧ Q (.ref x) s') (E := E) b tb ks hk hz x dx (Nat.ne_of_gt l2) S2 (N' _ (.head _)).1 (N' _ (.tail _ (.head _))).1 fun h2 tk2 K2 I2 => ⟨rfl, ?_⟩) fun r s' hr => ?_
  · obtain ⟨tb', t1, t2, t3, ta, te, o1, o2⟩ := I2
    refine ok x dx tb' t1 t2 t3 ta te h2 tk2 (Fr.keepBut (s := { s with heap := h' }) F' N' (D := [x, dx]) (fun d hd => ?_) K2) (List.forall_mem_cons.mpr ⟨⟨o1, (N' _ (.head _)).2⟩, List.forall_mem_cons.mpr ⟨⟨o2, (N' _ (.tail _ (.head _))).2⟩, ?_⟩⟩) l1 l2
    · rcases List.mem_cons.mp hd with rfl | hd
      · exact .head _
      · rcases List.mem_cons.mp hd with rfl | hd
        · exact .tail _ (.head _)
        · nomatch hd
    · refine News.keepBut (s := { s with heap := h' }) N' K2 fun q hq => ⟨.tail _ (.tail _ hq), fun hm => ?_⟩
      rcases List.mem_cons.mp hm with e | hm
      · exact Nat.ne_of_lt (Nat.lt_trans (l1 q hq) l2) e
      · rcases List.mem_cons.mp hm with e | hm
        · exact Nat.ne_of_lt (l1 q hq) e
        · nomatch hm
  · cases r with
    | error e => exact hr
    | ok fl => cases fl <;> first | exact hr | exact hr.elim
theorem freshOf {s : Shared} {D : List Addr} {g : Heap} (gk : ∀ b o, b ∉ D → s.heap.get? b = some o → g.get? b = some o) {b : Addr} (h : g.get? b = none) (hb : b ∉ D) : s.heap.get? b = none := by
  cases q : s.heap.get? b with
  | none => rfl
  | some o => rw [gk b o hb q] at h; cases h
noncomputable def okSort (n : Int) : Prop := n = 0 ∨ n = 1 ∨ n = 2 ∨ n = 4
theorem okSort_iff {n : Int} : ([0, 1, 2, 4].any fun x => x == n) = true ↔ okSort n := by simp only [List.any_cons, List.any_nil, Bool.or_false, Bool.or_eq_true, beq_iff_eq, okSort]; omega
set_option maxHeartbeats 4000000 in
theorem checkSort (n m : Int) (tn tm : Tok) : Spec w mean mg mb 8 299 [.int n tn, .int m tm] [] (fun _ => True) (fun _ v _ => v = .none ∧ okSort n) (¬ okSort n) := by
  intro A base fr s Q E S hpre ok er
  refine enter (binds := [(Str.ofString "sort", .int n tn), (Str.ofString "at", .int m tm)]) [] S (List.forall_mem_nil _) (by k_is) (by k_is) (BindsTo.of_eq rfl) (locs rfl) er ?_ rfl rfl rfl (by decide)
  intro g L h₁ gk lt B X T F N sz hE
  (try dsimp only)
  k_fold
  (repeat' (first | ((with_reducible ((with_reducible show wpAny _ _ (compareOp _ (Value.int _ _) (Value.ref _)) _ _ _); refine notin_tuple_ints (srt_tup (by assumption) (by assumption) (by assumption)) srt_ints ?_)) <;> (try dsimp only)) | (((with_reducible show wpAny _ _ (exec (Stmt.Raise _ _ _) _) _ _ _); refine Raise_bad (by have sXZZ := ‹Site _ _ _ _ _ _ _ _ _ _›; exact sXZZ.hh) ?_) <;> (try dsimp only)) | ((with_reducible (((with_reducible show wpAny _ _ (call (Value.ref 51) _) _ _ _); refine bad_raise (by assumption) (by assumption) (by assumption) (by decide) ⟨rfl, rfl⟩ ?_))) <;> (try dsimp only)) | walk_at "ks"))
  · (rename Fr _ _ _ _ => fE)
    exact ok _ _ _ (Fr.kept gk fE) ⟨rfl, okSort_iff.mp (by assumption)⟩
  · exact hE (fun q => by rw [okSort_iff.mpr q] at *; contradiction) _ _ _ (by assumption) (by assumption)
set_option maxHeartbeats 4000000 in
theorem inAt (b : Array UInt8) (p : Nat) (tb tp : Tok) (ks : List Int) (hk : KBw.bInts b = ks) (hz : ks.length ≤ 1000000) (hp : p ≤ ks.length) : Spec w mean mg mb 8 270 [.bytes b tb, .int (p : Int) tp] [] (fun _ => True)
    (fun h v h' => ∃ x dx, v = .ref x ∧ @Ne Nat x dx ∧ h.get? x = none ∧ h.get? dx = none ∧ InAt w h' x dx b ks.length p) False := by
  intro A base fr s Q E S hpre ok er
  refine enter (binds := [(Str.ofString "data", .bytes b tb), (Str.ofString "at", .int (p : Int) tp)]) [] S (List.forall_mem_nil _) (by k_is) (by k_is) (BindsTo.of_eq rfl) (locs rfl) er ?_ rfl rfl rfl (by decide)
  intro g L h₁ gk lt B X T F N sz hE
  (try dsimp only)
  k_fold
  (repeat' (first | ((with_reducible (((with_reducible show wpAny _ _ (call (Value.ref 259) [Value.bytes _ _]) _ _ _); refine makeIn (by assumption) (by assumption) (by assumption) (by assumption) (by assumption) (by assumption) (by decide) ⟨rfl, rfl⟩ ?_; intro xZZ dxZZ tbZZ t1ZZ t2ZZ t3ZZ taZZ teZZ hZZ tkZZ FZZ NZZ l1ZZ l2ZZ; (try k_lt l1ZZ)))) <;> (try dsimp only)) | walk_at "ks"))
  (rename News _ _ _ _ => nE; rename Fr _ _ _ _ => fE)
  exact ok _ _ _ (Fr.kept gk fE) ⟨_, _, rfl, by (first | omega | (refine neN ?_; omega)), freshOf gk (nE _ (.head _)).2.2 (List.not_mem_nil), freshOf gk (nE _ (.tail _ (.head _))).2.2 (List.not_mem_nil), _, _, _, _, _, _, (nE _ (.head _)).1, (nE _ (.tail _ (.head _))).1⟩
set_option maxHeartbeats 4000000 in
theorem skipFour (b : Array UInt8) (p : Nat) (x dx : Addr) (hne : @Ne Nat x dx) (ks : List Int) (hk : KBw.bInts b = ks) (hz : ks.length ≤ 1000000) (z : Int) (tz : Tok) : Spec w mean mg mb 9 334 [.ref x, .int z tz] [x, dx]
    (fun h => InAt w h x dx b ks.length p) (fun _ v h' => InAt w h' x dx b ks.length (p + ((z - p).fmod 4).toNat) ∧ v = .none ∧ p + ((z - p).fmod 4).toNat ≤ ks.length) (ks.length < p + ((z - p).fmod 4).toNat) := by
  intro A base fr s Q E S hpre ok er
  obtain ⟨tb, t1, t2, t3, ta, te, hx, hdx⟩ := hpre
  refine enter (binds := [(Str.ofString "inp", .ref x), (Str.ofString "began", .int z tz)]) [(x, instObj 259 dx), (dx, inD w b p ks.length tb t1 t2 t3 ta te)] S (List.forall_mem_cons.mpr ⟨hx, List.forall_mem_cons.mpr ⟨hdx, List.forall_mem_nil _⟩⟩) (by k_is) (by k_is) (BindsTo.of_eq rfl) (locs rfl) er ?_ rfl rfl rfl (by decide)
  intro g L h₁ gk lt B X T F N sz hE
  (try dsimp only)
  k_fold
  (repeat' (first | ((with_reducible (((with_reducible show wpAny _ _ (call (Value.ref 249) [_, Value.int _ _]) _ _ _); (rename News _ _ _ _ => nXZZ); (refine useIn (raw _ _ _ _ (by assumption) _ (by assumption) (by assumption) _ _ (by first | omega | exact Int.fmod_nonneg_of_pos _ (by decide))) (by assumption) (by assumption) (by assumption) nXZZ (by k_all) (by k_all) (by decide) ⟨rfl, rfl⟩ ?_ ?_); rotate_left; (intro qZZ eZZ hZZ tkZZ XZZ UZZ); rotate_left; intro vZZ tbZZ t1ZZ t2ZZ t3ZZ taZZ teZZ hZZ tkZZ FZZ NZZ rZZ; obtain ⟨r1ZZ, tvZZ, bbZZ, hvZZ, hbZZ⟩ := rZZ; subst hvZZ))) <;> (try dsimp only)) | walk_at "ks"))
  rotate_left
  · exact hE (by omega) _ _ _ (by assumption) (by assumption)
  (rename News _ _ _ _ => nE; rename Fr _ _ _ _ => fE)
  exact ok _ _ _ (Fr.kept gk fE) ⟨⟨_, _, _, _, _, _, (nE _ (.head _)).1, (nE _ (.tail _ (.head _))).1⟩, rfl, by omega⟩
end
section
open PySem PySem.W PySem.Calls PyProof.Rows
variable {w : World} {mean : ExcName → Option Value} {mg mb : Str → Option Value}
theorem useNone {n n' : Nat} {A : Around} {base h₀ : Heap} {fr : List Env} {s s₀ : Shared} {L : Addr} {m : Str → Option Value} {env : Env} {news : List (Addr × Obj)} {D₀ : List Addr} {Q E₀ E₁ : Value → Shared → Prop} {f : Addr} {vs : List Value} {exc : Prop}
    {R : Value → Prop} (h : Spec w mean mg mb n f vs [] (fun _ => True) (fun _ v _ => R v) exc) (S : Site w mean mg mb n' A base fr s₀ D₀) (B : Below A base fr h₀) (F : Fr h₀ L s.heap m)
    (N : News h₀ L s.heap news) (hn : n + 1 ≤ n') (hk : env.frame = some L ∧ env.scope.kind = .function)
    (ok : ∀ v h' tk, Fr h₀ L h' m → News h₀ L h' news → R v → Q v { s with heap := h', toks := tk })
    (er : exc → ∀ e h' tk, Exc base fr e h' → h₀.UpToSlots h' → E₀ (.ref e) { s with heap := h', toks := tk }) :
    wpAny (MD w) (A.deeper env) (call (.ref f) vs) Q
      (fun e s' => wpAny (MD w) (A.deeper env) (leaving env e) (fun _ s'' => E₀ e s'') (fun e' s'' => E₁ e' s'') s') s :=
  use h S B F N (fun _ hd => nomatch hd) hn hk trivial (fun v h' tk K F' P => ok v h' tk F' (News.keepBut N K fun q hq => ⟨hq, fun hm => nomatch hm⟩) P) er
/-- a tuple of ints -/
noncomputable def IsRow (o : Obj) (row : List Int) : Prop := ∃ vs : List Value, o = { cls := .type "tuple", data := .seq vs.toArray } ∧ IntsAre vs row
inductive RowsAt (P : Addr → Obj → Prop) : List Value → List (List Int) → Prop
  | nil : RowsAt P [] []
  | cons {a : Addr} {o : Obj} {row : List Int} {vs : List Value} {rows : List (List Int)} : P a o → IsRow o row → RowsAt P vs rows → RowsAt P (.ref a :: vs) (row :: rows)
theorem RowsAt.mono {P P' : Addr → Obj → Prop} {vs : List Value} {rows : List (List Int)} (h : RowsAt P vs rows) (k : ∀ a o, P a o → P' a o) : RowsAt P' vs rows := by
  induction h with
  | nil => exact .nil
  | cons p r _ ih => exact .cons (k _ _ p) r ih
theorem RowsAt.snoc {P : Addr → Obj → Prop} {vs : List Value} {rows : List (List Int)} {a : Addr} {o : Obj} {row : List Int} (h : RowsAt P vs rows) (p : P a o) (r : IsRow o row) : RowsAt P (vs ++ [.ref a]) (rows ++ [row]) := by
  induction h with
  | nil => exact .cons p r .nil
  | cons p' r' _ ih => exact .cons p' r' ih
theorem RowsAt.length {P : Addr → Obj → Prop} {vs : List Value} {rows : List (List Int)} (h : RowsAt P vs rows) : vs.length = rows.length := by
  induction h with
  | nil => rfl
  | cons _ _ _ ih => simp [ih]
noncomputable abbrev listO (vs : List Value) (n : Nat) : Obj := W.listOf vs.toArray n
noncomputable def okRowS (ks : List Int) (p : Nat) : Prop := p + 12 ≤ ks.length ∧ okSort (le2 ks p)
noncomputable def rowS (ks : List Int) (p : Nat) : List Int := [le2 ks p, le2 ks (p + 2), le1 ks (p + 4), le2 ks (p + 5), le1 ks (p + 7), le4 ks (p + 8)]
noncomputable def okRowF (ks : List Int) (p : Nat) : Prop := p + 24 ≤ ks.length ∧ okSort (le4 ks p)
noncomputable def rowF (ks : List Int) (p : Nat) : List Int := [le4 ks p, le4 ks (p + 4), le4 ks (p + 8), le4 ks (p + 12), le4 ks (p + 16), le4 ks (p + 20)]
/-- a list of rows, made anew, whose tuples stand in a ledger -/
noncomputable def RowsNew (h : Heap) (v : Value) (h' : Heap) (rows : List (List Int)) : Prop :=
  ∃ (r : Addr) (vs : List Value) (cap : Nat) (ts : List (Addr × Obj)), v = .ref r ∧ h.get? r = none ∧ h'.get? r = some (listO vs cap) ∧ (∀ q ∈ ts, h.get? q.1 = none ∧ h'.get? q.1 = some q.2 ∧ @Ne Nat q.1 r) ∧ RowsAt (fun a o => (a, o) ∈ ts) vs rows
/-- what a loop that reads rows keeps -/
noncomputable def ReadJ (w : World) (x dx r : Addr) (b : Array UInt8) (n : Nat) (pos : Nat → Nat) (okR : Nat → Prop) (rowR : Nat → List Int) (i : Nat) (m : Str → Option Value) (news : List (Addr × Obj)) : Prop :=
  m (Str.ofString "inp") = some (.ref x) ∧ m (Str.ofString "rows") = some (.ref r) ∧ (∀ j < i, okR (pos j)) ∧ ∃ (vs : List Value) (cap : Nat) (ts : List (Addr × Obj)) (tb t1 t2 t3 ta te : Tok),
    news = (x, instObj 259 dx) :: (dx, inD w b ((pos i : Nat) : Int) n tb t1 t2 t3 ta te) :: (r, listO vs cap) :: ts ∧ RowsAt (fun a o => (a, o) ∈ ts) vs ((List.range i).map fun j => rowR (pos j)) ∧
    (∀ q ∈ ts, @Ne Nat q.1 x) ∧ (∀ q ∈ ts, @Ne Nat q.1 dx) ∧ (∀ q ∈ ts, @Ne Nat q.1 r)
theorem fdiv_nat (c d : Nat) : ((c : Int)).fdiv (d : Int) = ((c / d : Nat) : Int) := by rw [Int.fdiv_eq_ediv_of_nonneg _ (Int.natCast_nonneg _)]; rfl
theorem not2 {a x y : Addr} (h1 : @Ne Nat a x) (h2 : @Ne Nat a y) : a ∉ [x, y] := fun hm => by
  rcases List.mem_cons.mp hm with e | hm
  · exact h1 e
  · exact h2 (List.mem_singleton.mp hm)
set_option maxHeartbeats 4000000 in
theorem readSmall (b : Array UInt8) (p : Nat) (x dx : Addr) (hne : @Ne Nat x dx) (ks : List Int) (hk : KBw.bInts b = ks) (hz : ks.length ≤ 1000000) (c : Nat) (tc : Tok) (hc : c ≤ 1000000) : Spec w mean mg mb 12 341 [.ref x, .int (c : Int) tc] [x, dx]
    (fun h => InAt w h x dx b ks.length p) (fun h v h' => InAt w h' x dx b ks.length (p + 12 * (c / 12)) ∧ (∀ i < c / 12, okRowS ks (p + 12 * i)) ∧ RowsNew h v h' ((List.range (c / 12)).map fun i => rowS ks (p + 12 * i)))
    (¬ ∀ i < c / 12, okRowS ks (p + 12 * i)) := by
  intro A base fr s Q E S hpre ok er
  obtain ⟨tb, t1, t2, t3, ta, te, hx, hdx⟩ := hpre
  refine enter (binds := [(Str.ofString "inp", .ref x), (Str.ofString "count", .int c tc)]) [(x, instObj 259 dx), (dx, inD w b p ks.length tb t1 t2 t3 ta te)] S (List.forall_mem_cons.mpr ⟨hx, List.forall_mem_cons.mpr ⟨hdx, List.forall_mem_nil _⟩⟩) (by k_is) (by k_is) (BindsTo.of_eq rfl) (locs rfl) er ?_ rfl rfl rfl (by decide)
  intro g L h₁ gk lt B X T F N sz hE
  (try dsimp only)
  k_fold
  k_steps
  rename Fr _ _ _ _ => lF; rename News _ _ _ _ => lN; rename IsRange _ _ _ _ _ _ _ _ => lR
  rename_i r _ lr _ oF oN _ _ _ _ _ _
  clear oF oN
  rw [show ((c : Int).fdiv 12) = ((c / 12 : Nat) : Int) from fdiv_nat c 12] at lR
  refine iter_rangeInv (n := c / 12) (ReadJ w x dx r b ks.length (fun i => p + 12 * i) (okRowS ks) (rowS ks)) S.hh lR ?_ (range_size _) lF (News.perm lN (news' := [(x, instObj 259 dx), (dx, inD w b ((p + 12 * 0 : Nat) : Int) ks.length tb t1 t2 t3 ta te), (r, listO [] 0)]) ?_) ?_ ?_ ?_
  · exact small_one (by decide) (by decide) (by omega) (by omega)
  · exact List.forall_mem_cons.mpr ⟨.tail _ (.head _), List.forall_mem_cons.mpr ⟨.tail _ (.tail _ (.head _)), List.forall_mem_cons.mpr ⟨.head _, List.forall_mem_nil _⟩⟩⟩
  · exact ⟨rfl, rfl, fun j hj => absurd hj (Nat.not_lt_zero _), [], 0, [], tb, t1, t2, t3, ta, te, rfl, .nil, fun _ q => (nomatch q), fun _ q => (nomatch q), fun _ q => (nomatch q)⟩
  · intro I lI i m₁ news₁ t h tk2 hi hJ hI F1 N1
    obtain ⟨e1, e2, e3, vs, cap, ts, tb', t1', t2', t3', ta', te', rfl, hR, d1, d2, d3⟩ := hJ
    have F2 : Fr g L h (fun y => if y = Str.ofString "_turn" then some (.int (0 + (i : Int)) t) else front [(Str.ofString "inp", .ref x), (Str.ofString "rows", .ref r)] m₁ y) := by
      rw [front_eq (List.forall_mem_cons.mpr ⟨e1, List.forall_mem_cons.mpr ⟨e2, List.forall_mem_nil _⟩⟩)]; exact F1
    have N2 : News g L h ((x, instObj 259 dx) :: (dx, inD w b ((p + 12 * i : Nat) : Int) ks.length tb' t1' t2' t3' ta' te') :: (I, itR (0 + ((i + 1 : Nat) : Int)) (((c / 12 : Nat) : Int) - ((i + 1 : Nat) : Int))) :: (r, listO vs cap) :: ts) :=
      News.perm N1 (List.forall_mem_cons.mpr ⟨.tail _ (.head _), List.forall_mem_cons.mpr ⟨.tail _ (.tail _ (.head _)), List.forall_mem_cons.mpr ⟨.head _, List.forall_mem_cons.mpr ⟨.tail _ (.tail _ (.tail _ (.head _))), fun q hq => .tail _ (.tail _ (.tail _ (.tail _ hq)))⟩⟩⟩⟩)
    clear F1 N1
    have n1 := hI _ (.head _)
    have n2 := hI _ (.tail _ (.head _))
    have n3 := hI _ (.tail _ (.tail _ (.head _)))
    have n4 : ∀ q ∈ ts, @Ne Nat q.1 I := fun q hq => hI q (.tail _ (.tail _ (.tail _ hq)))
    have hvs := hR.length
    rw [List.length_map, List.length_range] at hvs
    (try dsimp only)
    (repeat' (first | (((with_reducible show wpAny _ _ (call (Value.ref _) _) _ _ _); ((show wpAny _ _ (call (Value.ref 200) [_]) _ _ _); (rename News _ _ _ _ => nXZZ); (refine useIn (u16 _ _ _ _ (by assumption) _ (by assumption) (by assumption)) (by assumption) (by assumption) (by assumption) nXZZ (by k_all) (by k_all) (by decide) ⟨rfl, rfl⟩ ?_ ?_); rotate_left; (intro qZZ eZZ hZZ tkZZ XZZ UZZ); rotate_left; intro vZZ tbZZ t1ZZ t2ZZ t3ZZ taZZ teZZ hZZ tkZZ FZZ NZZ rZZ; obtain ⟨r1ZZ, ⟨r2ZZ, r3ZZ⟩, tvZZ, hvZZ⟩ := rZZ; subst hvZZ)) <;> (try dsimp only)) | ((with_reducible (((with_reducible show wpAny _ _ (call (Value.ref 299) [Value.int _ _, Value.int _ _]) _ _ _); (refine useNone (checkSort _ _ _ _) (by assumption) (by assumption) (by assumption) (by assumption) (by decide) ⟨rfl, rfl⟩ ?_ ?_); rotate_left; (intro qZZ eZZ hZZ tkZZ XZZ UZZ); rotate_left; intro vZZ hZZ tkZZ FZZ NZZ rZZ; obtain ⟨hvZZ, r1ZZ⟩ := rZZ; subst hvZZ))) <;> (try dsimp only)) | (((with_reducible show wpAny _ _ (call (Value.ref _) _) _ _ _); ((show wpAny _ _ (call (Value.ref 193) [_]) _ _ _); (rename News _ _ _ _ => nXZZ); (refine useIn (u8 _ _ _ _ (by assumption) _ (by assumption) (by assumption)) (by assumption) (by assumption) (by assumption) nXZZ (by k_all) (by k_all) (by decide) ⟨rfl, rfl⟩ ?_ ?_); rotate_left; (intro qZZ eZZ hZZ tkZZ XZZ UZZ); rotate_left; intro vZZ tbZZ t1ZZ t2ZZ t3ZZ taZZ teZZ hZZ tkZZ FZZ NZZ rZZ; obtain ⟨r1ZZ, ⟨r2ZZ, r3ZZ⟩, tvZZ, hvZZ⟩ := rZZ; subst hvZZ)) <;> (try dsimp only)) | (((with_reducible show wpAny _ _ (call (Value.ref _) _) _ _ _); ((show wpAny _ _ (call (Value.ref 207) [_]) _ _ _); (rename News _ _ _ _ => nXZZ); (refine useIn (u32 _ _ _ _ (by assumption) _ (by assumption) (by assumption)) (by assumption) (by assumption) (by assumption) nXZZ (by k_all) (by k_all) (by decide) ⟨rfl, rfl⟩ ?_ ?_); rotate_left; (intro qZZ eZZ hZZ tkZZ XZZ UZZ); rotate_left; intro vZZ tbZZ t1ZZ t2ZZ t3ZZ taZZ teZZ hZZ tkZZ FZZ NZZ rZZ; obtain ⟨r1ZZ, ⟨r2ZZ, r3ZZ⟩, tvZZ, hvZZ⟩ := rZZ; subst hvZZ)) <;> (try dsimp only)) | ((with_reducible ((with_reducible show wpAny _ _ (call _ (_ ++ _)) _ _ _); (dsimp only [List.cons_append, List.nil_append]))) <;> (try dsimp only)) | walk_at "ks"))
    all_goals first
      | exact hE (fun q => by have q' := (q i hi).1; omega) _ _ _ (by assumption) (by assumption)
      | exact hE (fun q => absurd (q i hi).2 (by assumption)) _ _ _ (by assumption) (by assumption)
      | skip
    (rename News _ _ _ _ => nE; rename Fr _ _ _ _ => fE; rename _ ∧ _ ∧ _ ∧ _ ∧ AllLt _ _ => lE)
    obtain ⟨k1, k2, k3, k4, k5⟩ := lE
    rw [List.push_toArray, show p + 12 * i + 2 + 2 + 1 + 2 + 1 + 4 = p + 12 * (i + 1) by omega] at nE
    refine UnrEnd.intro fE nE ((x, _) :: (dx, _) :: (r, _) :: (_, _) :: ts) (List.forall_mem_cons.mpr ⟨.tail _ (.tail _ (.tail _ (.head _))), List.forall_mem_cons.mpr ⟨.tail _ (.head _), List.forall_mem_cons.mpr ⟨.tail _ (.tail _ (.head _)), List.forall_mem_cons.mpr ⟨.tail _ (.tail _ (.tail _ (.tail _ (.head _)))), List.forall_mem_cons.mpr ⟨.head _, fun q hq => .tail _ (.tail _ (.tail _ (.tail _ (.tail _ hq))))⟩⟩⟩⟩⟩)
      (List.forall_mem_cons.mpr ⟨n1, List.forall_mem_cons.mpr ⟨n2, List.forall_mem_cons.mpr ⟨n3, List.forall_mem_cons.mpr ⟨Nat.ne_of_gt k3, n4⟩⟩⟩⟩) ?_
    refine ⟨rfl, rfl, fun j hj => ?_, vs ++ [_], cap + 1, (_, _) :: ts, _, _, _, _, _, _, rfl, ?_, List.forall_mem_cons.mpr ⟨Nat.ne_of_gt k1, d1⟩, List.forall_mem_cons.mpr ⟨Nat.ne_of_gt k2, d2⟩, List.forall_mem_cons.mpr ⟨Nat.ne_of_gt k4, d3⟩⟩
    · by_cases hji : j < i
      · exact e3 j hji
      · obtain rfl : j = i := by omega
        exact ⟨by omega, by assumption⟩
    · rw [List.range_succ, List.map_append]
      exact (hR.mono fun _ _ z => .tail _ z).snoc (.head _) ⟨_, rfl, by repeat constructor⟩
  · intro h tk2 m' news' F1 N1 hJ
    obtain ⟨e1, e2, e3, vs, cap, ts, tb', t1', t2', t3', ta', te', rfl, hR, d1, d2, d3⟩ := hJ
    have F2 : Fr g L h (front [(Str.ofString "inp", .ref x), (Str.ofString "rows", .ref r)] m') := by
      rw [front_eq (List.forall_mem_cons.mpr ⟨e1, List.forall_mem_cons.mpr ⟨e2, List.forall_mem_nil _⟩⟩)]; exact F1
    clear F1
    (try dsimp only)
    k_steps
    (rename News _ _ _ _ => nE; rename Fr _ _ _ _ => fE)
    have r0 := nE _ (.tail _ (.tail _ (.head _)))
    exact ok _ _ _ (Fr.kept gk fE) ⟨⟨_, _, _, _, _, _, (nE _ (.head _)).1, (nE _ (.tail _ (.head _))).1⟩, e3, r, vs, cap, ts, rfl, freshOf gk r0.2.2 (not2 (Nat.ne_of_gt lr.1) (Nat.ne_of_gt lr.2)), r0.1, fun q hq => ⟨freshOf gk (nE q (.tail _ (.tail _ (.tail _ hq)))).2.2 (not2 (d1 q hq) (d2 q hq)), (nE q (.tail _ (.tail _ (.tail _ hq)))).1, d3 q hq⟩, hR⟩
end
section
open PySem PySem.W PySem.Calls PyProof.Rows
variable {w : World} {mean : ExcName → Option Value} {mg mb : Str → Option Value}
/-- k numbers of four octets, one behind the other -/
noncomputable def U32s (ks : List Int) (p : Nat) : Nat → List Value → Prop
  | 0, vs => vs = []
  | k + 1, vs => ∃ t r, vs = .int (le4 ks p) t :: r ∧ U32s ks (p + 4) k r
/-- what stands behind one element of the comprehension -/
noncomputable def EltK (w : World) (g : Heap) (L : Addr) (m : Str → Option Value) (s : Shared) (I : Addr) (oI : Obj) (C : Addr) (oC : Obj) (D : Addr) (ys : List Value) (x dx : Addr) (b : Array UInt8) (ks : List Int) (p : Nat) (rest : List (Addr × Obj)) (Q : Value → Shared → Prop) : Prop :=
  ∀ (t tb t1 t2 t3 ta te : Tok) (h' : Heap) (tk : Nat), Fr g L h' m → News g L h' ((I, oI) :: (C, oC) :: (D, LCg.lst ys) :: (x, instObj 259 dx) :: (dx, inD w b ((p + 4 : Nat) : Int) ks.length tb t1 t2 t3 ta te) :: rest) → Q (.int (le4 ks p) t) { s with heap := h', toks := tk }
theorem u32s {prog : Program} {A : Around} {g : Heap} {L : Addr} {m : Str → Option Value} {env : Env} {elt : Expr} {y : Str} {scope : Scope} {cl : List (Str × Addr)} {s : Shared} {P : Nat → Value → Prop} {Fin : List Value → List (Addr × Obj) → Prop}
    {x dx : Addr} {b : Array UInt8} {ks : List Int} {rest : List (Addr × Obj)} 
    (step : ∀ (v : Value) (I : Addr) (oI : Obj) (C : Addr) (oC : Obj) (D : Addr) (ys : List Value) (m₂ : Str → Option Value) (h : Heap) (tk : Nat) (E' Q : Value → Shared → Prop) (p : Nat) (tb t1 t2 t3 ta te : Tok),
      m₂ y = some v → LCg.NsObj oC m₂ → Fr g L h m → News g L h ((I, oI) :: (C, oC) :: (D, LCg.lst ys) :: (x, instObj 259 dx) :: (dx, inD w b p ks.length tb t1 t2 t3 ta te) :: rest) →
      (∀ q ∈ [(I, oI), (C, oC), (D, LCg.lst ys)], @Ne Nat q.1 x) → (∀ q ∈ [(I, oI), (C, oC), (D, LCg.lst ys)], @Ne Nat q.1 dx) → p + 4 ≤ ks.length →
      EltK w g L m s I oI C oC D ys x dx b ks p rest Q →
      wpAny (model prog w) A (eval elt (compEnvC scope cl C env)) Q E' { s with heap := h, toks := tk }) :
    ∀ (k i : Nat) (ys : List Value) (p : Nat) (tb t1 t2 t3 ta te : Tok), p + 4 * k ≤ ks.length →
      (∀ (vs : List Value) (tb t1 t2 t3 ta te : Tok), U32s ks p k vs → Fin (ys ++ vs) ((x, instObj 259 dx) :: (dx, inD w b ((p + 4 * k : Nat) : Int) ks.length tb t1 t2 t3 ta te) :: rest)) →
      LCg.CompRest prog w A g L m env elt y scope cl s (fun _ => True) P Fin k i ys ((x, instObj 259 dx) :: (dx, inD w b (p : Int) ks.length tb t1 t2 t3 ta te) :: rest)
  | 0, i, ys, p, tb, t1, t2, t3, ta, te, _, fin => by
    have z := fin [] tb t1 t2 t3 ta te rfl
    rw [List.append_nil] at z
    exact z
  | k + 1, i, ys, p, tb, t1, t2, t3, ta, te, hK, fin => by
    intro v I oI C oC D m₂ h tk E' hP hC hv F N off ne
    have o1 := LCg.Off3.mem off _ (.head _)
    have o2 := LCg.Off3.mem off _ (.tail _ (.head _))
    refine step v I oI C oC D ys m₂ h tk E' _ p tb t1 t2 t3 ta te hv hC F N
      (List.forall_mem_cons.mpr ⟨o1.1.symm, List.forall_mem_cons.mpr ⟨o1.2.1.symm, List.forall_mem_cons.mpr ⟨o1.2.2.symm, List.forall_mem_nil _⟩⟩⟩)
      (List.forall_mem_cons.mpr ⟨o2.1.symm, List.forall_mem_cons.mpr ⟨o2.2.1.symm, List.forall_mem_cons.mpr ⟨o2.2.2.symm, List.forall_mem_nil _⟩⟩⟩) (by omega)
      fun t tb' t1' t2' t3' ta' te' h' tk' F' N' => ?_
    refine ⟨h', tk', _, rfl, F', N', ⟨off.1, off.2.1, off.2.2⟩, trivial, ?_⟩
    refine u32s step k (i + 1) (ys ++ [.int (le4 ks p) t]) (p + 4) tb' t1' t2' t3' ta' te' (by omega) fun vs tb t1 t2 t3 ta te hU => ?_
    have z := fin (.int (le4 ks p) t :: vs) tb t1 t2 t3 ta te ⟨t, vs, rfl, hU⟩
    rw [List.append_assoc, List.singleton_append, show p + 4 + 4 * k = p + 4 * (k + 1) by omega]
    exact z
theorem U32s.six {ks : List Int} {p : Nat} {vs : List Value} (h : U32s ks p 6 vs) : ∃ a b c d e f, vs = [.int (le4 ks p) a, .int (le4 ks (p + 4)) b, .int (le4 ks (p + 8)) c, .int (le4 ks (p + 12)) d, .int (le4 ks (p + 16)) e, .int (le4 ks (p + 20)) f] := by
  obtain ⟨a, _, rfl, b, _, rfl, c, _, rfl, d, _, rfl, e, _, rfl, f, _, rfl, hu⟩ := h
  obtain rfl : _ = [] := hu
  exact ⟨a, b, c, d, e, f, rfl⟩
theorem useInPT (pre : List (Addr × Obj)) {n n' : Nat} {A : Around} {base h₀ : Heap} {fr : List Env} {s s₀ : Shared} {L : Addr} {m : Str → Option Value} {env : Env} {rest : List (Addr × Obj)} {D₀ : List Addr} {Q E : Value → Shared → Prop} {f : Addr} {vs : List Value} {exc : Prop}
    {x dx : Addr} {b : Array UInt8} {k p p' : Nat} {R : Value → Prop} {tb t1 t2 t3 ta te : Tok}
    (h : Spec w mean mg mb n f vs [x, dx] (fun h => InAt w h x dx b k p) (fun _ v h' => InAt w h' x dx b k p' ∧ R v) exc) (S : Site w mean mg mb n' A base fr s₀ D₀) (B : Below A base fr h₀) (F : Fr h₀ L s.heap m)
    (N : News h₀ L s.heap (pre ++ (x, instObj 259 dx) :: (dx, inD w b p k tb t1 t2 t3 ta te) :: rest)) (px : ∀ q ∈ pre, @Ne Nat q.1 x) (pdx : ∀ q ∈ pre, @Ne Nat q.1 dx) (hx : ∀ q ∈ rest, @Ne Nat q.1 x) (hdx : ∀ q ∈ rest, @Ne Nat q.1 dx) (hn : n + 1 ≤ n') (hk : env.frame = some L ∧ env.scope.kind = .function) (hno : ¬ exc)
    (ok : ∀ v tb t1 t2 t3 ta te h' tk, Fr h₀ L h' m → News h₀ L h' (pre ++ (x, instObj 259 dx) :: (dx, inD w b p' k tb t1 t2 t3 ta te) :: rest) → R v → Q v { s with heap := h', toks := tk }) :
    wpAny (MD w) (A.deeper env) (call (.ref f) vs) Q E s := by
  have inL : ∀ d ∈ [x, dx], d ∈ (pre ++ (x, instObj 259 dx) :: (dx, inD w b p k tb t1 t2 t3 ta te) :: rest).map (·.1) := fun d hd => by
    rcases List.mem_cons.mp hd with rfl | hd
    · exact List.mem_map.mpr ⟨_, List.mem_append.mpr (.inr (.head _)), rfl⟩
    · rcases List.mem_cons.mp hd with rfl | hd
      · exact List.mem_map.mpr ⟨_, List.mem_append.mpr (.inr (.tail _ (.head _))), rfl⟩
      · nomatch hd
  have zx := N _ (List.mem_append.mpr (.inr (.head _)))
  have zd := N _ (List.mem_append.mpr (.inr (.tail _ (.head _))))
  refine h _ base _ s Q _ (S.body B F N inL hk hn) ⟨tb, t1, t2, t3, ta, te, zx.1, zd.1⟩ (fun v h' tk K P => ?_) fun q => (hno q).elim
  obtain ⟨⟨tb', t1', t2', t3', ta', te', o1, o2⟩, r⟩ := P
  have K2 : ∀ q, q ∈ pre ∨ q ∈ rest → h'.get? q.1 = some q.2 ∧ q.1 ≠ L ∧ h₀.get? q.1 = none := fun q hq => by
    have z := N q (hq.elim (fun z => List.mem_append.mpr (.inl z)) fun z => List.mem_append.mpr (.inr (.tail _ (.tail _ z))))
    refine ⟨K _ _ (fun hm => ?_) z.1, z.2⟩
    rcases List.mem_cons.mp hm with e | hm
    · exact hq.elim (fun y => px q y e) (fun y => hx q y e)
    · rcases List.mem_cons.mp hm with e | hm
      · exact hq.elim (fun y => pdx q y e) (fun y => hdx q y e)
      · nomatch hm
  refine ok v tb' t1' t2' t3' ta' te' h' tk (Fr.keepBut F N inL K) (fun q hq => ?_) r
  rcases List.mem_append.mp hq with hq | hq
  · exact K2 q (.inl hq)
  · rcases List.mem_cons.mp hq with rfl | hq
    · exact ⟨o1, zx.2⟩
    · rcases List.mem_cons.mp hq with rfl | hq
      · exact ⟨o2, zd.2⟩
      · exact K2 q (.inr hq)
/-- as ReadJ, where the reader's name stands in a cell -/
noncomputable def ReadJC (w : World) (x dx r ca : Addr) (oc : Obj) (b : Array UInt8) (n : Nat) (pos : Nat → Nat) (okR : Nat → Prop) (rowR : Nat → List Int) (i : Nat) (m : Str → Option Value) (news : List (Addr × Obj)) : Prop :=
  m (Str.ofString "rows") = some (.ref r) ∧ (∀ j < i, okR (pos j)) ∧ ∃ (vs : List Value) (cap : Nat) (ts : List (Addr × Obj)) (tb t1 t2 t3 ta te : Tok),
    news = (x, instObj 259 dx) :: (dx, inD w b ((pos i : Nat) : Int) n tb t1 t2 t3 ta te) :: (r, listO vs cap) :: (ca, oc) :: ts ∧ RowsAt (fun a o => (a, o) ∈ ts) vs ((List.range i).map fun j => rowR (pos j)) ∧
    (∀ q ∈ ts, @Ne Nat q.1 x) ∧ (∀ q ∈ ts, @Ne Nat q.1 dx) ∧ (∀ q ∈ ts, @Ne Nat q.1 r) ∧ (∀ q ∈ ts, @Ne Nat q.1 ca)
set_option maxHeartbeats 1000000 in
theorem readFat (b : Array UInt8) (p : Nat) (x dx : Addr) (hne : @Ne Nat x dx) (ks : List Int) (hk : KBw.bInts b = ks) (hz : ks.length ≤ 1000000) (c : Nat) (tc : Tok) (hc : c ≤ 1000000) (hpc : p + c ≤ ks.length) : Spec w mean mg mb 12 346 [.ref x, .int (c : Int) tc] [x, dx]
    (fun h => InAt w h x dx b ks.length p) (fun h v h' => InAt w h' x dx b ks.length (p + 24 * (c / 24)) ∧ (∀ i < c / 24, okRowF ks (p + 24 * i)) ∧ RowsNew h v h' ((List.range (c / 24)).map fun i => rowF ks (p + 24 * i)))
    (¬ ∀ i < c / 24, okRowF ks (p + 24 * i)) := by
  intro A base fr s Q E S hpre ok er
  obtain ⟨tb, t1, t2, t3, ta, te, hx, hdx⟩ := hpre
  refine enterC (binds := [(Str.ofString "inp", .ref x), (Str.ofString "count", .int c tc)]) [(x, instObj 259 dx), (dx, inD w b p ks.length tb t1 t2 t3 ta te)] S (List.forall_mem_cons.mpr ⟨hx, List.forall_mem_cons.mpr ⟨hdx, List.forall_mem_nil _⟩⟩) (by k_is) (by k_is) (BindsTo.of_eq rfl) rfl (by decide +kernel) er ?_ rfl rfl rfl
  intro g L h₁ tk0 cells gk lt B X T F N Y sz hE
  have x1 : @LT.lt Nat _ x L := lt _ (.head _)
  have x2 : @LT.lt Nat _ dx L := lt _ (.tail _ (.head _))
  k_cells Y
  (try simp only [List.cons_append, List.nil_append] at N)
  (try dsimp only)
  show wpAny _ _ _ _ _ _
  k_fold
  k_steps
  rename Fr _ _ _ _ => lF; rename News _ _ _ _ => lN; rename IsRange _ _ _ _ _ _ _ _ => lR
  rename_i oc dc r _ lr _ oF oN _ _ _ _ _ _
  clear oF oN
  rw [show ((c : Int).fdiv 24) = ((c / 24 : Nat) : Int) from fdiv_nat c 24] at lR
  refine iter_rangeInv (n := c / 24) (ReadJC w x dx r (L + 1) oc b ks.length (fun i => p + 24 * i) (okRowF ks) (rowF ks)) S.hh lR ?_ (range_size _) lF (News.perm lN (news' := [(x, instObj 259 dx), (dx, inD w b ((p + 24 * 0 : Nat) : Int) ks.length tb t1 t2 t3 ta te), (r, listO [] 0), (L + 1, oc)]) ?_) ?_ ?_ ?_
  · exact small_one (by decide) (by decide) (by omega) (by omega)
  · exact List.forall_mem_cons.mpr ⟨.tail _ (.tail _ (.head _)), List.forall_mem_cons.mpr ⟨.tail _ (.tail _ (.tail _ (.head _))), List.forall_mem_cons.mpr ⟨.head _, List.forall_mem_cons.mpr ⟨.tail _ (.head _), List.forall_mem_nil _⟩⟩⟩⟩
  · exact ⟨rfl, fun j hj => absurd hj (Nat.not_lt_zero _), [], 0, [], tb, t1, t2, t3, ta, te, rfl, .nil, fun _ q => (nomatch q), fun _ q => (nomatch q), fun _ q => (nomatch q), fun _ q => (nomatch q)⟩
  · intro I lI i m₁ news₁ t h tk2 hi hJ hI F1 N1
    obtain ⟨e2, e3, vs, cap, ts, tb', t1', t2', t3', ta', te', rfl, hR, d1, d2, d3, d4⟩ := hJ
    have F2 : Fr g L h (fun y => if y = Str.ofString "_turn" then some (.int (0 + (i : Int)) t) else front [(Str.ofString "rows", .ref r)] m₁ y) := by
      rw [front_eq (List.forall_mem_cons.mpr ⟨e2, List.forall_mem_nil _⟩)]; exact F1
    have N2 : News g L h ((x, instObj 259 dx) :: (dx, inD w b ((p + 24 * i : Nat) : Int) ks.length tb' t1' t2' t3' ta' te') :: (I, itR (0 + ((i + 1 : Nat) : Int)) (((c / 24 : Nat) : Int) - ((i + 1 : Nat) : Int))) :: (r, listO vs cap) :: (L + 1, oc) :: ts) :=
      News.perm N1 (List.forall_mem_cons.mpr ⟨.tail _ (.head _), List.forall_mem_cons.mpr ⟨.tail _ (.tail _ (.head _)), List.forall_mem_cons.mpr ⟨.head _, List.forall_mem_cons.mpr ⟨.tail _ (.tail _ (.tail _ (.head _))), fun q hq => .tail _ (.tail _ (.tail _ (.tail _ hq)))⟩⟩⟩⟩)
    clear F1 N1
    have n1 := hI _ (.head _)
    have n2 := hI _ (.tail _ (.head _))
    have n3 := hI _ (.tail _ (.tail _ (.head _)))
    have n3' := hI _ (.tail _ (.tail _ (.tail _ (.head _))))
    have n4 : ∀ q ∈ ts, @Ne Nat q.1 I := fun q hq => hI q (.tail _ (.tail _ (.tail _ (.tail _ hq))))
    have l24 : p + 24 * i + 24 ≤ ks.length := by omega
    have hvs := hR.length
    rw [List.length_map, List.length_range] at hvs
    obtain ⟨a1, a2, a3, a4, a5⟩ := A
    obtain rfl : a1 = none := S.hh
    (try dsimp only)
    (repeat' (first | ((with_reducible ((with_reducible show LCg.CompSrc _ _ _ _ _ _ _ _ _ _ _ _ _ _); k_dflt (k_here; (k_dflt (refine LCg.CompSrc.range (n := 6) (by rfl) (by k_asm) (by k_asm) (by assumption) (by decide) (by rfl) (by exact Nat.le_of_ble_eq_true rfl) ?_)); intro gZZ; (refine u32s ?_ 6 0 [] _ _ _ _ _ _ _ (by omega) ?_); (intro vZZ IZZ oIZZ CZZ oCZZ DZZ ysZZ mZZ hZZ tkZZ EZZ QZZ pZZ tbZZ t1ZZ t2ZZ t3ZZ taZZ teZZ hvZZ hCZZ FZZ NZZ pxZZ pdxZZ hpZZ cKZZ); rotate_left; (intro vsZZ tbZZ t1ZZ t2ZZ t3ZZ taZZ teZZ hUZZ; obtain ⟨uaZZ, ubZZ, ucZZ, udZZ, ueZZ, ufZZ, hvZZ⟩ := U32s.six hUZZ; subst hvZZ)))) <;> (try dsimp only)) | ((with_reducible (((with_reducible show wpAny _ _ (call (Value.ref 299) [Value.int _ _, Value.int _ _]) _ _ _); (refine useNone (checkSort _ _ _ _) (by assumption) (by assumption) (by assumption) (by assumption) (by decide) ⟨rfl, rfl⟩ ?_ ?_); rotate_left; (intro qZZ eZZ hZZ tkZZ XZZ UZZ); rotate_left; intro vZZ hZZ tkZZ FZZ NZZ rZZ; obtain ⟨hvZZ, r1ZZ⟩ := rZZ; subst hvZZ))) <;> (try dsimp only)) | ((with_reducible ((with_reducible show wpAny _ _ (call _ (_ ++ _)) _ _ _); (dsimp only [List.cons_append, List.nil_append]))) <;> (try dsimp only)) | ((with_reducible ((with_reducible show wpAny _ _ (call (Value.ref _) _) _ _ _); k_dflt ((show wpAny _ _ (call (Value.ref 207) [_]) _ _ _); (rename News _ _ _ _ => nXZZ); (rename EltK _ _ _ _ _ _ _ _ _ _ _ _ _ _ _ _ _ _ => cKZZ); (refine useInPT [_, _, _] (u32 _ _ _ _ (by assumption) _ (by assumption) (by assumption)) (by assumption) (by assumption) (by assumption) nXZZ (by assumption) (by assumption) (by k_all) (by k_all) (by decide) ⟨rfl, rfl⟩ (Nat.not_lt.mpr (by assumption)) ?_); intro vZZ tbZZ t1ZZ t2ZZ t3ZZ taZZ teZZ hZZ tkZZ FZZ NZZ rZZ; obtain ⟨r1ZZ, ⟨r2ZZ, r3ZZ⟩, tvZZ, hvZZ⟩ := rZZ; subst hvZZ; exact cKZZ _ _ _ _ _ _ _ _ _ FZZ NZZ))) <;> (try dsimp only)) | walk_at "ks"))
    all_goals first
      | exact hE (fun q => absurd (q i hi).2 (by assumption)) _ _ _ (by assumption) (by assumption)
      | skip
    (rename News _ _ _ _ => nE; rename Fr _ _ _ _ => fE; rename _ ∧ _ ∧ _ ∧ _ ∧ _ ∧ _ ∧ AllLt _ _ => lE)
    obtain ⟨k0, k1, k2, k3, k4, k5, k6⟩ := lE
    rw [List.push_toArray, show p + 24 * i + 4 * 6 = p + 24 * (i + 1) by omega] at nE
    refine UnrEnd.intro fE nE ((x, _) :: (dx, _) :: (r, _) :: (L + 1, _) :: (_, _) :: ts) (List.forall_mem_cons.mpr ⟨.tail _ (.tail _ (.tail _ (.tail _ (.head _)))), List.forall_mem_cons.mpr ⟨.tail _ (.tail _ (.head _)), List.forall_mem_cons.mpr ⟨.tail _ (.tail _ (.tail _ (.head _))), List.forall_mem_cons.mpr ⟨.tail _ (.tail _ (.tail _ (.tail _ (.tail _ (.head _))))), List.forall_mem_cons.mpr ⟨.tail _ (.tail _ (.tail _ (.tail _ (.tail _ (.tail _ (.head _)))))), List.forall_mem_cons.mpr ⟨.head _, fun q hq => .tail _ (.tail _ (.tail _ (.tail _ (.tail _ (.tail _ (.tail _ hq))))))⟩⟩⟩⟩⟩⟩)
      (List.forall_mem_cons.mpr ⟨n1, List.forall_mem_cons.mpr ⟨n2, List.forall_mem_cons.mpr ⟨n3, List.forall_mem_cons.mpr ⟨n3', List.forall_mem_cons.mpr ⟨Nat.ne_of_gt k3, n4⟩⟩⟩⟩⟩) ?_
    refine ⟨rfl, fun j hj => ?_, vs ++ [_], cap + 1, (_, _) :: ts, _, _, _, _, _, _, rfl, ?_, List.forall_mem_cons.mpr ⟨Nat.ne_of_gt k1, d1⟩, List.forall_mem_cons.mpr ⟨Nat.ne_of_gt k2, d2⟩, List.forall_mem_cons.mpr ⟨Nat.ne_of_gt k4, d3⟩, List.forall_mem_cons.mpr ⟨Nat.ne_of_gt k5, d4⟩⟩
    · by_cases hji : j < i
      · exact e3 j hji
      · obtain rfl : j = i := by omega
        exact ⟨l24, by assumption⟩
    · rw [List.range_succ, List.map_append]
      exact (hR.mono fun _ _ z => .tail _ z).snoc (.head _) ⟨_, rfl, by repeat constructor⟩
  · intro h tk2 m' news' F1 N1 hJ
    obtain ⟨e2, e3, vs, cap, ts, tb', t1', t2', t3', ta', te', rfl, hR, d1, d2, d3, d4⟩ := hJ
    have F2 : Fr g L h (front [(Str.ofString "rows", .ref r)] m') := by
      rw [front_eq (List.forall_mem_cons.mpr ⟨e2, List.forall_mem_nil _⟩)]; exact F1
    clear F1
    (try dsimp only)
    k_steps
    (rename News _ _ _ _ => nE; rename Fr _ _ _ _ => fE)
    have r0 := nE _ (.tail _ (.tail _ (.head _)))
    exact ok _ _ _ (Fr.kept gk fE) ⟨⟨_, _, _, _, _, _, (nE _ (.head _)).1, (nE _ (.tail _ (.head _))).1⟩, e3, r, vs, cap, ts, rfl, freshOf gk r0.2.2 (not2 (Nat.ne_of_gt lr.2.1) (Nat.ne_of_gt lr.2.2)), r0.1, fun q hq => ⟨freshOf gk (nE q (.tail _ (.tail _ (.tail _ (.tail _ hq))))).2.2 (not2 (d1 q hq) (d2 q hq)), (nE q (.tail _ (.tail _ (.tail _ (.tail _ hq))))).1, d3 q hq⟩, hR⟩
end
section
open PySem PySem.W PySem.Calls PyProof.Rows
variable {w : World} {mean : ExcName → Option Value} {mg mb : Str → Option Value}
theorem useRows {n n' : Nat} {A : Around} {base h₀ : Heap} {fr : List Env} {s s₀ : Shared} {L : Addr} {m : Str → Option Value} {env : Env} {rest : List (Addr × Obj)} {D₀ : List Addr} {Q E₀ E₁ : Value → Shared → Prop} {f : Addr} {args : List Value} {exc R : Prop}
    {x dx : Addr} {b : Array UInt8} {k p p' : Nat} {rows : List (List Int)} {tb t1 t2 t3 ta te : Tok}
    (h : Spec w mean mg mb n f args [x, dx] (fun h => InAt w h x dx b k p) (fun h v h' => InAt w h' x dx b k p' ∧ R ∧ RowsNew h v h' rows) exc) (S : Site w mean mg mb n' A base fr s₀ D₀) (B : Below A base fr h₀) (F : Fr h₀ L s.heap m)
    (N : News h₀ L s.heap ((x, instObj 259 dx) :: (dx, inD w b p k tb t1 t2 t3 ta te) :: rest)) (hx : ∀ q ∈ rest, @Ne Nat q.1 x) (hdx : ∀ q ∈ rest, @Ne Nat q.1 dx) (hn : n + 1 ≤ n') (hk : env.frame = some L ∧ env.scope.kind = .function)
    (ok : ∀ (rr : Addr) (vs : List Value) (cap : Nat) (ts : List (Addr × Obj)) (tb t1 t2 t3 ta te : Tok) (h' : Heap) (tk : Nat), Fr h₀ L h' m → News h₀ L h' ((rr, listO vs cap) :: (x, instObj 259 dx) :: (dx, inD w b p' k tb t1 t2 t3 ta te) :: (rest ++ ts)) → R → RowsAt (fun a o => (a, o) ∈ ts) vs rows →
      @Ne Nat rr x → @Ne Nat rr dx → (∀ q ∈ rest, @Ne Nat q.1 rr) → (∀ q ∈ ts, @Ne Nat q.1 x) → (∀ q ∈ ts, @Ne Nat q.1 dx) → (∀ q ∈ ts, @Ne Nat q.1 rr) → (∀ q ∈ ts, ∀ z ∈ rest, @Ne Nat q.1 z.1) → Q (.ref rr) { s with heap := h', toks := tk })
    (er : exc → ∀ e h' tk, Exc base fr e h' → h₀.UpToSlots h' → E₀ (.ref e) { s with heap := h', toks := tk }) :
    wpAny (MD w) (A.deeper env) (call (.ref f) args) Q
      (fun e s' => wpAny (MD w) (A.deeper env) (leaving env e) (fun _ s'' => E₀ e s'') (fun e' s'' => E₁ e' s'') s') s := by
  have fresh : ∀ {a : Addr}, s.heap.get? a = none → a ≠ L ∧ h₀.get? a = none ∧ (∀ q ∈ (x, instObj 259 dx) :: (dx, inD w b p k tb t1 t2 t3 ta te) :: rest, @Ne Nat q.1 a) := fun {a} ha => by
    refine ⟨fun e => ?_, ?_, fun q hq e => ?_⟩
    · obtain ⟨oL, _, _, hL, _⟩ := F.ns
      rw [e, hL] at ha; cases ha
    · cases q : h₀.get? a with
      | none => rfl
      | some o => have := F.keep _ _ q; rw [ha] at this; cases this
    · have z := (N q hq).1
      rw [show q.1 = a from e, ha] at z; cases z
  refine use h S B F N (fun d hd => ?_) hn hk ⟨tb, t1, t2, t3, ta, te, (N _ (.head _)).1, (N _ (.tail _ (.head _))).1⟩ (fun v h' tk K F' P => ?_) er
  · rcases List.mem_cons.mp hd with rfl | hd
    · exact .head _
    · rcases List.mem_cons.mp hd with rfl | hd
      · exact .tail _ (.head _)
      · nomatch hd
  · obtain ⟨⟨tb', t1', t2', t3', ta', te', o1, o2⟩, r, rr, vs, cap, ts, rfl, n1, g1, hts, hR⟩ := P
    have fr1 := fresh n1
    refine ok rr vs cap ts tb' t1' t2' t3' ta' te' h' tk F' (List.forall_mem_cons.mpr ⟨⟨g1, fr1.1, fr1.2.1⟩, List.forall_mem_cons.mpr ⟨⟨o1, (N _ (.head _)).2⟩, List.forall_mem_cons.mpr ⟨⟨o2, (N _ (.tail _ (.head _))).2⟩, fun q hq => ?_⟩⟩⟩) r hR
      (fun e => fr1.2.2 _ (.head _) e.symm) (fun e => fr1.2.2 _ (.tail _ (.head _)) e.symm) (fun q hq => fr1.2.2 q (.tail _ (.tail _ hq)))
      (fun q hq e => (fresh (hts q hq).1).2.2 _ (.head _) e.symm) (fun q hq e => (fresh (hts q hq).1).2.2 _ (.tail _ (.head _)) e.symm) (fun q hq => (hts q hq).2.2) (fun q hq z hz e => (fresh (hts q hq).1).2.2 z (.tail _ (.tail _ hz)) e.symm)
    rcases List.mem_append.mp hq with hq | hq
    · refine ⟨K _ _ (fun hm => ?_) (N q (.tail _ (.tail _ hq))).1, (N q (.tail _ (.tail _ hq))).2⟩
      rcases List.mem_cons.mp hm with e | hm
      · exact hx q hq e
      · rcases List.mem_cons.mp hm with e | hm
        · exact hdx q hq e
        · nomatch hm
    · have f2 := fresh (hts q hq).1
      exact ⟨(hts q hq).2.1, f2.1, f2.2.1⟩
theorem ext_any {prog : Program} {A : Around} {E : Value → Shared → Prop} {s : Shared} {h₀ : Heap} {L D b : Addr} {m : Str → Option Value} {pre post : List (Addr × Obj)} {ws : List Value} {n n2 : Nat} {Q : Value → Shared → Prop} (F : Fr h₀ L s.heap m) (N : News h₀ L s.heap (pre ++ (D, listO [] n) :: post))
    (hb : (b, listO ws n2) ∈ pre ++ (D, listO [] n) :: post) (a : ∀ q ∈ pre, @Ne Nat q.1 D) (c : ∀ q ∈ post, @Ne Nat q.1 D) (hz : ws.length ≤ 1000000)
    (h : ∀ h' c', Fr h₀ L h' m → News h₀ L h' (pre ++ (D, listO ws c') :: post) → Q .none { s with heap := h' }) : wpAny (model prog w) A (call (.builtin "list.extend") [.ref D, .ref b]) Q E s := by
  have upd : ∀ (o o' : Obj) (pre : List (Addr × Obj)), (∀ q ∈ pre, @Ne Nat q.1 D) → Upd D o o' (pre ++ (D, o) :: post) (pre ++ (D, o') :: post) := fun o o' pre => by
    induction pre with
    | nil => exact fun _ => .head c
    | cons q r ih => exact fun a => .tail (a q (.head _)) (ih fun z hz => a z (.tail _ hz))
  by_cases hw : ws = []
  · subst hw
    exact kxn_extend F N hb rfl (upd _ _ pre a) Bool.false_ne_true (Nat.zero_le _) (by simp) fun h' F' N' => h h' n F' N'
  · exact kl_extend (l := ws) F N hb (by simp) (by simpa using hw) (upd _ _ pre a) Bool.false_ne_true (Nat.zero_le _) (by simp [sizeLine_eq]; omega) fun h' F' N' => h h' (n + 1) F' N'
/-- what a section says: its rows and its end -/
noncomputable def SecOk (ks : List Int) (p : Nat) (rows : List (List Int)) (e : Nat) : Prop :=
  ∃ c : Nat, p + 1 + 1 + 2 + c ≤ ks.length ∧ e = p + 1 + 1 + 2 + c ∧
    ((le1 ks p = 1 ∧ le1 ks (p + 1) = (c : Int) + 4 ∧ c % 12 = 0 ∧ (∀ i < c / 12, okRowS ks (p + 1 + 1 + 2 + 12 * i)) ∧ rows = (List.range (c / 12)).map fun i => rowS ks (p + 1 + 1 + 2 + 12 * i)) ∨
     (le1 ks p = 65 ∧ le1 ks (p + 1) + 256 * le2 ks (p + 1 + 1) = (c : Int) + 4 ∧ c % 24 = 0 ∧ (∀ i < c / 24, okRowF ks (p + 1 + 1 + 2 + 24 * i)) ∧ rows = (List.range (c / 24)).map fun i => rowF ks (p + 1 + 1 + 2 + 24 * i)))
/-- rows that stand in the list at r -/
noncomputable def RowsIn (h : Heap) (r : Addr) (h' : Heap) (rows : List (List Int)) : Prop :=
  ∃ (vs : List Value) (cap : Nat) (ts : List (Addr × Obj)), h'.get? r = some (listO vs cap) ∧ (∀ q ∈ ts, h.get? q.1 = none ∧ h'.get? q.1 = some q.2 ∧ @Ne Nat q.1 r) ∧ RowsAt (fun a o => (a, o) ∈ ts) vs rows
theorem fm (a : Int) (n : Nat) : a.fmod (n : Int) = a % (n : Int) := Int.fmod_eq_emod_of_nonneg _ (Int.natCast_nonneg n)
set_option maxHeartbeats 1000000 in
theorem readSection (b : Array UInt8) (p : Nat) (x dx r : Addr) (cap0 : Nat) (hne : @Ne Nat x dx) (hrx : @Ne Nat r x) (hrd : @Ne Nat r dx) (ks : List Int) (hk : KBw.bInts b = ks) (hz : ks.length ≤ 1000000) (hm : ks.getD p 0 < 128) : Spec w mean mg mb 14 353 [.ref x, .ref r] [x, dx, r]
    (fun h => InAt w h x dx b ks.length p ∧ h.get? r = some (listO [] cap0)) (fun h v h' => v = .bool false ∧ ∃ rows e, SecOk ks p rows e ∧ InAt w h' x dx b ks.length e ∧ RowsIn h r h' rows)
    (∀ rows e, ¬ SecOk ks p rows e) := by
  intro A base fr s Q E S hpre ok er
  obtain ⟨⟨tb, t1, t2, t3, ta, te, hx, hdx⟩, hr⟩ := hpre
  refine enter (binds := [(Str.ofString "inp", .ref x), (Str.ofString "rows", .ref r)]) [(x, instObj 259 dx), (dx, inD w b p ks.length tb t1 t2 t3 ta te), (r, listO [] cap0)] S (List.forall_mem_cons.mpr ⟨hx, List.forall_mem_cons.mpr ⟨hdx, List.forall_mem_cons.mpr ⟨hr, List.forall_mem_nil _⟩⟩⟩) (by k_is) (by k_is) (BindsTo.of_eq rfl) (locs rfl) er ?_ rfl rfl rfl (by decide)
  intro g L h₁ gk lt B X T F N sz hE
  (try dsimp only)
  k_fold
  have i1 := le1_in hk (p + 1)
  have i2 := le2_in hk (p + 1 + 1)
  (repeat' (first | (((with_reducible show wpAny _ _ (call (Value.ref _) _) _ _ _); ((show wpAny _ _ (call (Value.ref 193) [_]) _ _ _); (rename News _ _ _ _ => nXZZ); (refine useIn (u8 _ _ _ _ (by assumption) _ (by assumption) (by assumption)) (by assumption) (by assumption) (by assumption) nXZZ (by k_all) (by k_all) (by decide) ⟨rfl, rfl⟩ ?_ ?_); rotate_left; (intro qZZ eZZ hZZ tkZZ XZZ UZZ); rotate_left; intro vZZ tbZZ t1ZZ t2ZZ t3ZZ taZZ teZZ hZZ tkZZ FZZ NZZ rZZ; obtain ⟨r1ZZ, ⟨r2ZZ, r3ZZ⟩, tvZZ, hvZZ⟩ := rZZ; subst hvZZ)) <;> (try dsimp only)) | (((with_reducible show wpAny _ _ (exec (Stmt.Raise _ _ _) _) _ _ _); refine Raise_bad (by have sXZZ := ‹Site _ _ _ _ _ _ _ _ _ _›; exact sXZZ.hh) ?_) <;> (try dsimp only)) | ((with_reducible (((with_reducible show wpAny _ _ (call (Value.ref 51) _) _ _ _); refine bad_raise (by assumption) (by assumption) (by assumption) (by decide) ⟨rfl, rfl⟩ ?_))) <;> (try dsimp only)) | (((with_reducible show wpAny _ _ (call (Value.ref _) _) _ _ _); ((show wpAny _ _ (call (Value.ref 200) [_]) _ _ _); (rename News _ _ _ _ => nXZZ); (refine useIn (u16 _ _ _ _ (by assumption) _ (by assumption) (by assumption)) (by assumption) (by assumption) (by assumption) nXZZ (by k_all) (by k_all) (by decide) ⟨rfl, rfl⟩ ?_ ?_); rotate_left; (intro qZZ eZZ hZZ tkZZ XZZ UZZ); rotate_left; intro vZZ tbZZ t1ZZ t2ZZ t3ZZ taZZ teZZ hZZ tkZZ FZZ NZZ rZZ; obtain ⟨r1ZZ, ⟨r2ZZ, r3ZZ⟩, tvZZ, hvZZ⟩ := rZZ; subst hvZZ)) <;> (try dsimp only)) | (((with_reducible show wpAny _ _ (call (Value.ref _) _) _ _ _); ((show wpAny _ _ (call (Value.ref 256) [_]) _ _ _); (rename News _ _ _ _ => nXZZ); (refine useIn (left _ _ _ _ (by assumption) _) (by assumption) (by assumption) (by assumption) nXZZ (by k_all) (by k_all) (by decide) ⟨rfl, rfl⟩ ?_ (fun q => q.elim)); intro vZZ tbZZ t1ZZ t2ZZ t3ZZ taZZ teZZ hZZ tkZZ FZZ NZZ rZZ; obtain ⟨tvZZ, hvZZ⟩ := rZZ; subst hvZZ)) <;> (try dsimp only)) | walk_at "ks"))
  all_goals try contradiction
  all_goals try (exact absurd (by assumption) (by assumption))
  all_goals try (have z1 := (sec_bits (le1_in hk p).1 hm).1; have z2 := (sec_bits (le1_in hk p).1 hm).2.1; have o1 : Builtin.bitOr (le1 ks (p + 1)) (le2 ks (p + 1 + 1) * 2 ^ Int.toNat 8) = le1 ks (p + 1) + 256 * le2 ks (p + 1 + 1) := (or_shift 8 _ _ i1.1 i1.2).trans (by rw [Int.mul_comm _ (2 ^ 8)]; rfl); have f24 : (Builtin.bitOr (le1 ks (p + 1)) (le2 ks (p + 1 + 1) * 2 ^ Int.toNat 8) - 4).fmod 24 = (Builtin.bitOr (le1 ks (p + 1)) (le2 ks (p + 1 + 1) * 2 ^ Int.toNat 8) - 4) % 24 := fm _ 24; have f12 : (le1 ks (p + 1) - 4).fmod 12 = (le1 ks (p + 1) - 4) % 12 := fm _ 12)

  all_goals try
    (refine hE (fun rows e hs => ?_) _ _ _ (by assumption) (by assumption)
     obtain ⟨c, q1, q2, q3⟩ := hs
     have := le1_in hk p
     rcases q3 with ⟨a1, a2, a3, _⟩ | ⟨a1, a2, a3, _⟩ <;> omega)
  · show wpAny _ _ (call (Value.ref 346) _) _ _ _
    obtain ⟨c, hc⟩ : ∃ c : Nat, Builtin.bitOr (le1 ks (p + 1)) (le2 ks (p + 1 + 1) * 2 ^ Int.toNat 8) - 4 = (c : Int) := ⟨_, (Int.toNat_of_nonneg (by omega)).symm⟩
    rename News _ _ _ _ => nX
    have hp := le1_in hk p
    have m0 : c % 24 = 0 := by omega
    have l0 : p + 1 + 1 + 2 + c ≤ ks.length := by omega
    have s0 : ∀ c', Builtin.bitOr (le1 ks (p + 1)) (le2 ks (p + 1 + 1) * 2 ^ Int.toNat 8) - 4 = ((c' : Nat) : Int) → c' = c := fun c' e => by omega
    have e0 : 24 * (c / 24) = c := by omega
    rw [hc]
    refine useRows (readFat b (p + 1 + 1 + 2) x dx hne ks hk hz c _ (by omega) (by omega)) S B (by assumption) nX (by k_all) (by k_all) (by decide) ⟨rfl, rfl⟩ ?_ ?_
    · intro rr vs cap ts tb' t1' t2' t3' ta' te' h' tk' F' N' hR hA w1 w2 w3 w4 w5 w6 w7
      simp only [List.cons_append, List.nil_append] at N'
      have w8 := w3 _ (.head _)
      k_steps
      (rename News _ _ _ _ => nE; rename Fr _ _ _ _ => fE)
      refine ext_any (pre := [_, _, _]) fE nE (.head _) (by k_all) (by intro q hq; exact (w7 q hq _ (.head _))) ?hl ?_
      case hl => rw [hA.length, List.length_map, List.length_range]; omega
      intro h'' c'' F'' N''
      simp only [List.cons_append, List.nil_append] at N''
      k_steps
      (rename News _ _ _ _ => nE2; rename Fr _ _ _ _ => fE2)
      have z3 := (sec_bits (le1_in hk p).1 hm).2.2
      refine ok _ _ _ (Fr.kept gk fE2) ⟨congrArg Value.bool (by rw [z3]; rfl), _, _, ⟨c, l0, rfl, .inr ⟨by omega, by omega, m0, hR, rfl⟩⟩, ?_, vs, _, ts, (nE2 _ (.tail _ (.tail _ (.tail _ (.head _))))).1, fun q hq => ⟨freshOf gk (nE2 q (.tail _ (.tail _ (.tail _ (.tail _ hq))))).2.2 ?_, (nE2 q (.tail _ (.tail _ (.tail _ (.tail _ hq))))).1, w7 q hq _ (.head _)⟩, hA⟩
      · have a1 := (nE2 _ (.tail _ (.head _))).1
        have a2 := (nE2 _ (.tail _ (.tail _ (.head _)))).1
        rw [show p + 1 + 1 + 2 + 24 * (c / 24) = p + 1 + 1 + 2 + c by rw [e0]] at a2
        exact ⟨_, _, _, _, _, _, a1, a2⟩
      · intro hm
        rcases List.mem_cons.mp hm with e | hm
        · exact w4 q hq e
        · rcases List.mem_cons.mp hm with e | hm
          · exact w5 q hq e
          · exact w7 q hq _ (.head _) (List.mem_singleton.mp hm)
    · intro q e' h' tk' X' U'
      refine hE (fun rows e hs => q ?_) _ _ _ X' U'
      obtain ⟨c', q1, q2, q3⟩ := hs
      rcases q3 with ⟨a1, a2, a3, a4, _⟩ | ⟨a1, a2, a3, a4, _⟩
      · omega
      · rw [← s0 c' (by omega)]; exact a4
  · show wpAny _ _ (call (Value.ref 341) _) _ _ _
    obtain ⟨c, hc⟩ : ∃ c : Nat, le1 ks (p + 1) - 4 = (c : Int) := ⟨_, (Int.toNat_of_nonneg (by omega)).symm⟩
    rename News _ _ _ _ => nX
    have hp := le1_in hk p
    have m0 : c % 12 = 0 := by omega
    have l0 : p + 1 + 1 + 2 + c ≤ ks.length := by omega
    have s0 : ∀ c', le1 ks (p + 1) - 4 = ((c' : Nat) : Int) → c' = c := fun c' e => by omega
    have e0 : 12 * (c / 12) = c := by omega
    rw [hc]
    refine useRows (readSmall b (p + 1 + 1 + 2) x dx hne ks hk hz c _ (by omega)) S B (by assumption) nX (by k_all) (by k_all) (by decide) ⟨rfl, rfl⟩ ?_ ?_
    · intro rr vs cap ts tb' t1' t2' t3' ta' te' h' tk' F' N' hR hA w1 w2 w3 w4 w5 w6 w7
      simp only [List.cons_append, List.nil_append] at N'
      have w8 := w3 _ (.head _)
      k_steps
      (rename News _ _ _ _ => nE; rename Fr _ _ _ _ => fE)
      refine ext_any (pre := [_, _, _]) fE nE (.head _) (by k_all) (by intro q hq; exact (w7 q hq _ (.head _))) ?hl ?_
      case hl => rw [hA.length, List.length_map, List.length_range]; omega
      intro h'' c'' F'' N''
      simp only [List.cons_append, List.nil_append] at N''
      k_steps
      (rename News _ _ _ _ => nE2; rename Fr _ _ _ _ => fE2)
      have z3 := (sec_bits (le1_in hk p).1 hm).2.2
      refine ok _ _ _ (Fr.kept gk fE2) ⟨congrArg Value.bool (by rw [z3]; rfl), _, _, ⟨c, l0, rfl, .inl ⟨by omega, by omega, m0, hR, rfl⟩⟩, ?_, vs, _, ts, (nE2 _ (.tail _ (.tail _ (.tail _ (.head _))))).1, fun q hq => ⟨freshOf gk (nE2 q (.tail _ (.tail _ (.tail _ (.tail _ hq))))).2.2 ?_, (nE2 q (.tail _ (.tail _ (.tail _ (.tail _ hq))))).1, w7 q hq _ (.head _)⟩, hA⟩
      · have a1 := (nE2 _ (.tail _ (.head _))).1
        have a2 := (nE2 _ (.tail _ (.tail _ (.head _)))).1
        rw [show p + 1 + 1 + 2 + 12 * (c / 12) = p + 1 + 1 + 2 + c by rw [e0]] at a2
        exact ⟨_, _, _, _, _, _, a1, a2⟩
      · intro hm
        rcases List.mem_cons.mp hm with e | hm
        · exact w4 q hq e
        · rcases List.mem_cons.mp hm with e | hm
          · exact w5 q hq e
          · exact w7 q hq _ (.head _) (List.mem_singleton.mp hm)
    · intro q e' h' tk' X' U'
      refine hE (fun rows e hs => q ?_) _ _ _ X' U'
      obtain ⟨c', q1, q2, q3⟩ := hs
      rcases q3 with ⟨a1, a2, a3, a4, _⟩ | ⟨a1, a2, a3, a4, _⟩
      · rw [← s0 c' (by omega)]; exact a4
      · omega
end
section
open PySem PySem.W PySem.Calls PyProof.Rows
variable {w : World} {mean : ExcName → Option Value} {mg mb : Str → Option Value}
/-- an address that is new at a call stands apart from the ledger -/
theorem newAt {h₀ : Heap} {L : Addr} {s : Shared} {m : Str → Option Value} {news : List (Addr × Obj)} (F : Fr h₀ L s.heap m) (N : News h₀ L s.heap news) {a : Addr} (ha : s.heap.get? a = none) :
    a ≠ L ∧ h₀.get? a = none ∧ (∀ q ∈ news, @Ne Nat q.1 a) := by
  refine ⟨fun e => ?_, ?_, fun q hq e => ?_⟩
  · obtain ⟨oL, _, _, hL, _⟩ := F.ns
    rw [e, hL] at ha; cases ha
  · cases q : h₀.get? a with
    | none => rfl
    | some o => have := F.keep _ _ q; rw [ha] at this; cases this
  · have z := (N q hq).1
    rw [show q.1 = a from e, ha] at z; cases z
theorem useAt {n n' : Nat} {A : Around} {base h₀ : Heap} {fr : List Env} {s s₀ : Shared} {L : Addr} {m : Str → Option Value} {env : Env} {news : List (Addr × Obj)} {D₀ : List Addr} {Q E₀ E₁ : Value → Shared → Prop} {f : Addr} {args : List Value} {exc : Prop}
    {b : Array UInt8} {k p : Nat}
    (h : Spec w mean mg mb n f args [] (fun _ => True) (fun h v h' => ∃ x dx, v = .ref x ∧ @Ne Nat x dx ∧ h.get? x = none ∧ h.get? dx = none ∧ InAt w h' x dx b k p) exc) (S : Site w mean mg mb n' A base fr s₀ D₀) (B : Below A base fr h₀) (F : Fr h₀ L s.heap m)
    (N : News h₀ L s.heap news) (hn : n + 1 ≤ n') (hk : env.frame = some L ∧ env.scope.kind = .function)
    (ok : ∀ (x dx : Addr) (tb t1 t2 t3 ta te : Tok) (h' : Heap) (tk : Nat), Fr h₀ L h' m → News h₀ L h' ((x, instObj 259 dx) :: (dx, inD w b p k tb t1 t2 t3 ta te) :: news) → @Ne Nat x dx → (∀ q ∈ news, @Ne Nat q.1 x) → (∀ q ∈ news, @Ne Nat q.1 dx) → Q (.ref x) { s with heap := h', toks := tk })
    (er : exc → ∀ e h' tk, Exc base fr e h' → h₀.UpToSlots h' → E₀ (.ref e) { s with heap := h', toks := tk }) :
    wpAny (MD w) (A.deeper env) (call (.ref f) args) Q
      (fun e s' => wpAny (MD w) (A.deeper env) (leaving env e) (fun _ s'' => E₀ e s'') (fun e' s'' => E₁ e' s'') s') s := by
  refine use h S B F N (fun _ hd => nomatch hd) hn hk trivial (fun v h' tk K F' P => ?_) er
  obtain ⟨x, dx, rfl, hne, hx, hdx, tb, t1, t2, t3, ta, te, o1, o2⟩ := P
  have f1 := newAt F N hx
  have f2 := newAt F N hdx
  exact ok x dx tb t1 t2 t3 ta te h' tk F' (List.forall_mem_cons.mpr ⟨⟨o1, f1.1, f1.2.1⟩, List.forall_mem_cons.mpr ⟨⟨o2, f2.1, f2.2.1⟩, News.keepBut N K fun q hq => ⟨hq, fun hm => nomatch hm⟩⟩⟩) hne f1.2.2 f2.2.2
theorem useSec {n n' : Nat} {A : Around} {base h₀ : Heap} {fr : List Env} {s s₀ : Shared} {L : Addr} {m : Str → Option Value} {env : Env} {rest : List (Addr × Obj)} {D₀ : List Addr} {Q E₀ E₁ : Value → Shared → Prop} {f : Addr} {args : List Value} {exc : Prop}
    {x dx r : Addr} {b : Array UInt8} {k p cap0 : Nat} {R : List (List Int) → Nat → Prop} {tb t1 t2 t3 ta te : Tok}
    (h : Spec w mean mg mb n f args [x, dx, r] (fun h => InAt w h x dx b k p ∧ h.get? r = some (listO [] cap0)) (fun h v h' => v = .bool false ∧ ∃ rows e, R rows e ∧ InAt w h' x dx b k e ∧ RowsIn h r h' rows) exc) (S : Site w mean mg mb n' A base fr s₀ D₀) (B : Below A base fr h₀) (F : Fr h₀ L s.heap m)
    (N : News h₀ L s.heap ((x, instObj 259 dx) :: (dx, inD w b p k tb t1 t2 t3 ta te) :: (r, listO [] cap0) :: rest)) (hx : ∀ q ∈ rest, @Ne Nat q.1 x) (hdx : ∀ q ∈ rest, @Ne Nat q.1 dx) (hr : ∀ q ∈ rest, @Ne Nat q.1 r) (hn : n + 1 ≤ n') (hk : env.frame = some L ∧ env.scope.kind = .function)
    (ok : ∀ (rows : List (List Int)) (e : Nat) (vs : List Value) (cap : Nat) (ts : List (Addr × Obj)) (tb t1 t2 t3 ta te : Tok) (h' : Heap) (tk : Nat), Fr h₀ L h' m → News h₀ L h' ((x, instObj 259 dx) :: (dx, inD w b e k tb t1 t2 t3 ta te) :: (r, listO vs cap) :: (rest ++ ts)) → R rows e → RowsAt (fun a o => (a, o) ∈ ts) vs rows →
      (∀ q ∈ ts, @Ne Nat q.1 x) → (∀ q ∈ ts, @Ne Nat q.1 dx) → (∀ q ∈ ts, @Ne Nat q.1 r) → (∀ q ∈ ts, ∀ z ∈ rest, @Ne Nat q.1 z.1) → Q (.bool false) { s with heap := h', toks := tk })
    (er : exc → ∀ e h' tk, Exc base fr e h' → h₀.UpToSlots h' → E₀ (.ref e) { s with heap := h', toks := tk }) :
    wpAny (MD w) (A.deeper env) (call (.ref f) args) Q
      (fun e s' => wpAny (MD w) (A.deeper env) (leaving env e) (fun _ s'' => E₀ e s'') (fun e' s'' => E₁ e' s'') s') s := by
  refine use h S B F N (fun d hd => ?_) hn hk ⟨⟨tb, t1, t2, t3, ta, te, (N _ (.head _)).1, (N _ (.tail _ (.head _))).1⟩, (N _ (.tail _ (.tail _ (.head _)))).1⟩ (fun v h' tk K F' P => ?_) er
  · rcases List.mem_cons.mp hd with rfl | hd
    · exact .head _
    · rcases List.mem_cons.mp hd with rfl | hd
      · exact .tail _ (.head _)
      · rcases List.mem_cons.mp hd with rfl | hd
        · exact .tail _ (.tail _ (.head _))
        · nomatch hd
  · obtain ⟨rfl, rows, e, hR, ⟨tb', t1', t2', t3', ta', te', o1, o2⟩, vs, cap, ts, g1, hts, hA⟩ := P
    refine ok rows e vs cap ts tb' t1' t2' t3' ta' te' h' tk F' (List.forall_mem_cons.mpr ⟨⟨o1, (N _ (.head _)).2⟩, List.forall_mem_cons.mpr ⟨⟨o2, (N _ (.tail _ (.head _))).2⟩, List.forall_mem_cons.mpr ⟨⟨g1, (N _ (.tail _ (.tail _ (.head _)))).2⟩, fun q hq => ?_⟩⟩⟩) hR hA
      (fun q hq e => (newAt F N (hts q hq).1).2.2 _ (.head _) e.symm) (fun q hq e => (newAt F N (hts q hq).1).2.2 _ (.tail _ (.head _)) e.symm) (fun q hq => (hts q hq).2.2) (fun q hq z hz e => (newAt F N (hts q hq).1).2.2 z (.tail _ (.tail _ (.tail _ hz))) e.symm)
    rcases List.mem_append.mp hq with hq | hq
    · refine ⟨K _ _ (fun hm => ?_) (N q (.tail _ (.tail _ (.tail _ hq)))).1, (N q (.tail _ (.tail _ (.tail _ hq)))).2⟩
      rcases List.mem_cons.mp hm with e | hm
      · exact hx q hq e
      · rcases List.mem_cons.mp hm with e | hm
        · exact hdx q hq e
        · rcases List.mem_cons.mp hm with e | hm
          · exact hr q hq e
          · nomatch hm
    · have f2 := newAt F N (hts q hq).1
      exact ⟨(hts q hq).2.1, f2.1, f2.2.1⟩
set_option maxHeartbeats 1000000 in
theorem readSections (b : Array UInt8) (p : Nat) (x dx : Addr) (hne : @Ne Nat x dx) (ks : List Int) (hk : KBw.bInts b = ks) (hz : ks.length ≤ 1000000) (z : Int) (tz : Tok) (hm : ks.getD (p + ((z - p).fmod 4).toNat) 0 < 128) : Spec w mean mg mb 16 360 [.ref x, .int z tz] [x, dx]
    (fun h => InAt w h x dx b ks.length p) (fun h v h' => ∃ rows e, InAt w h' x dx b ks.length e ∧ SecOk ks (p + ((z - p).fmod 4).toNat) rows e ∧ RowsNew h v h' rows)
    (∀ rows e, ¬ SecOk ks (p + ((z - p).fmod 4).toNat) rows e) := by
  intro A base fr s Q E S hpre ok er
  obtain ⟨tb, t1, t2, t3, ta, te, hx, hdx⟩ := hpre
  refine enter (binds := [(Str.ofString "inp", .ref x), (Str.ofString "began", .int z tz)]) [(x, instObj 259 dx), (dx, inD w b p ks.length tb t1 t2 t3 ta te)] S (List.forall_mem_cons.mpr ⟨hx, List.forall_mem_cons.mpr ⟨hdx, List.forall_mem_nil _⟩⟩) (by k_is) (by k_is) (BindsTo.of_eq rfl) (locs rfl) er ?_ rfl rfl rfl (by decide)
  intro g L h₁ gk lt B X T F N sz hE
  obtain ⟨a1, a2, a3, a4, a5⟩ := A
  obtain rfl : a1 = none := S.hh
  (try dsimp only)
  k_fold
  (repeat' (first | ((((with_reducible show wpAny _ _ (call (Value.ref 334) [_, Value.int _ _]) _ _ _); (rename News _ _ _ _ => nXZZ); (refine useIn (rest := [(_, listO [] _)]) (skipFour _ _ _ _ (by assumption) _ (by assumption) (by assumption) _ _) (by assumption) (by assumption) (by assumption) (News.perm nXZZ (List.forall_mem_cons.mpr ⟨.tail _ (.head _), List.forall_mem_cons.mpr ⟨.tail _ (.tail _ (.head _)), List.forall_mem_cons.mpr ⟨.head _, List.forall_mem_nil _⟩⟩⟩)) (by k_all) (by k_all) (by decide) ⟨rfl, rfl⟩ ?_ ?_); rotate_left; (intro qZZ eZZ hZZ tkZZ XZZ UZZ); rotate_left; intro vZZ tbZZ t1ZZ t2ZZ t3ZZ taZZ teZZ hZZ tkZZ FZZ NZZ rZZ; obtain ⟨hvZZ, r1ZZ⟩ := rZZ; subst hvZZ)) <;> (try dsimp only)) | ((with_reducible (((with_reducible show wpAny _ _ (call (Value.ref 353) [_, _]) _ _ _); (rename News _ _ _ _ => nXZZ); (refine useSec (readSection _ _ _ _ _ _ (by assumption) (by k_ne) (by k_ne) _ (by assumption) (by assumption) (by assumption)) (by assumption) (by assumption) (by assumption) nXZZ (by k_all) (by k_all) (by k_all) (by decide) ⟨rfl, rfl⟩ ?_ ?_); rotate_left; (intro qZZ eZZ hZZ tkZZ XZZ UZZ); rotate_left; intro rowsZZ eZZ vsZZ capZZ tsZZ tbZZ t1ZZ t2ZZ t3ZZ taZZ teZZ hZZ tkZZ FZZ NZZ r1ZZ r2ZZ w1ZZ w2ZZ w3ZZ w4ZZ; (simp only [List.cons_append, List.nil_append] at NZZ)))) <;> (try dsimp only)) | walk_at "ks"))
  · (rename News _ _ _ _ => nE; rename Fr _ _ _ _ => fE)
    refine ok _ _ _ (Fr.kept gk fE) ⟨_, _, ⟨_, _, _, _, _, _, (nE _ (.head _)).1, (nE _ (.tail _ (.head _))).1⟩, by assumption, _, _, _, _, rfl, freshOf gk (nE _ (.tail _ (.tail _ (.head _)))).2.2 (not2 (by k_ne) (by k_ne)), (nE _ (.tail _ (.tail _ (.head _)))).1, fun q hq => ⟨freshOf gk (nE q (.tail _ (.tail _ (.tail _ hq)))).2.2 (not2 (w1ZZ q hq) (w2ZZ q hq)), (nE q (.tail _ (.tail _ (.tail _ hq)))).1, w3ZZ q hq⟩, by assumption⟩
  · exact hE (by assumption) _ _ _ (by assumption) (by assumption)
  · refine hE (fun rows e hs => ?_) _ _ _ (by assumption) (by assumption)
    obtain ⟨c, q1, q2, q3⟩ := hs
    omega
end
section
open PySem PySem.W PySem.Calls PyProof.Rows
variable {w : World} {mean : ExcName → Option Value} {mg mb : Str → Option Value}
noncomputable abbrev bodyAt (ks : List Int) (p : Nat) : Nat := p + 1 + 1 + 2 + 4 + 4 + (le4 ks (p + 1 + 1 + 2)).toNat
noncomputable abbrev secAt (ks : List Int) (p : Nat) : Nat := bodyAt ks p + (((p : Int) - ((bodyAt ks p : Nat) : Int)).fmod 4).toNat
/-- what a body says: its octets, depth, token, clauses, and its end -/
noncomputable def BodyOk (ks : List Int) (p : Nat) (cs : List Int) (deep token : Int) (rows : List (List Int)) (e : Nat) : Prop :=
  (le1 ks p % 4 = 2 ∧ p + 1 + (le1 ks p / 4).toNat ≤ ks.length ∧ cs = (ks.drop (p + 1)).take (le1 ks p / 4).toNat ∧ deep = 8 ∧ token = 0 ∧ rows = [] ∧ e = p + 1 + (le1 ks p / 4).toNat) ∨
  ((le1 ks p = 3 ∨ le1 ks p = 11 ∨ le1 ks p = 19 ∨ le1 ks p = 27) ∧ le1 ks (p + 1) = 48 ∧ bodyAt ks p ≤ ks.length ∧ deep = le2 ks (p + 1 + 1) ∧ token = le4 ks (p + 1 + 1 + 2 + 4) ∧
    cs = (ks.drop (p + 1 + 1 + 2 + 4 + 4)).take (le4 ks (p + 1 + 1 + 2)).toNat ∧
    ((le1 ks p / 8 % 2 = 0 ∧ rows = [] ∧ e = bodyAt ks p) ∨ (le1 ks p / 8 % 2 = 1 ∧ SecOk ks (secAt ks p) rows e)))
/-- the value of a body that has been read -/
noncomputable def BodyNew (h : Heap) (v : Value) (h' : Heap) (cs : List Int) (deep token : Int) (rows : List (List Int)) (e : Nat) : Prop :=
  ∃ (t r : Addr) (cb : Array UInt8) (vs : List Value) (cap : Nat) (ts : List (Addr × Obj)) (k1 k2 k3 k4 : Tok), v = .ref t ∧ KBw.bInts cb = cs ∧ h.get? t = none ∧ h.get? r = none ∧
    h'.get? t = some { cls := .type "tuple", data := .seq #[.bytes cb k1, .int deep k2, .int token k3, .ref r, .int (e : Int) k4] } ∧ h'.get? r = some (listO vs cap) ∧
    (∀ q ∈ ts, h.get? q.1 = none ∧ h'.get? q.1 = some q.2) ∧ RowsAt (fun a o => (a, o) ∈ ts) vs rows
theorem useSecs {n n' : Nat} {A : Around} {base h₀ : Heap} {fr : List Env} {s s₀ : Shared} {L : Addr} {m : Str → Option Value} {env : Env} {rest : List (Addr × Obj)} {D₀ : List Addr} {Q E₀ E₁ : Value → Shared → Prop} {f : Addr} {args : List Value} {exc : Prop} {R : List (List Int) → Nat → Prop}
    {x dx : Addr} {b : Array UInt8} {k p : Nat} {tb t1 t2 t3 ta te : Tok}
    (h : Spec w mean mg mb n f args [x, dx] (fun h => InAt w h x dx b k p) (fun h v h' => ∃ rows e, InAt w h' x dx b k e ∧ R rows e ∧ RowsNew h v h' rows) exc) (S : Site w mean mg mb n' A base fr s₀ D₀) (B : Below A base fr h₀) (F : Fr h₀ L s.heap m)
    (N : News h₀ L s.heap ((x, instObj 259 dx) :: (dx, inD w b p k tb t1 t2 t3 ta te) :: rest)) (hx : ∀ q ∈ rest, @Ne Nat q.1 x) (hdx : ∀ q ∈ rest, @Ne Nat q.1 dx) (hn : n + 1 ≤ n') (hk : env.frame = some L ∧ env.scope.kind = .function)
    (ok : ∀ (rows : List (List Int)) (e : Nat) (rr : Addr) (vs : List Value) (cap : Nat) (ts : List (Addr × Obj)) (tb t1 t2 t3 ta te : Tok) (h' : Heap) (tk : Nat), Fr h₀ L h' m → News h₀ L h' ((rr, listO vs cap) :: (x, instObj 259 dx) :: (dx, inD w b e k tb t1 t2 t3 ta te) :: (rest ++ ts)) → R rows e → RowsAt (fun a o => (a, o) ∈ ts) vs rows →
      @Ne Nat rr x → @Ne Nat rr dx → (∀ q ∈ rest, @Ne Nat q.1 rr) → (∀ q ∈ ts, @Ne Nat q.1 x) → (∀ q ∈ ts, @Ne Nat q.1 dx) → (∀ q ∈ ts, @Ne Nat q.1 rr) → (∀ q ∈ ts, ∀ z ∈ rest, @Ne Nat q.1 z.1) → Q (.ref rr) { s with heap := h', toks := tk })
    (er : exc → ∀ e h' tk, Exc base fr e h' → h₀.UpToSlots h' → E₀ (.ref e) { s with heap := h', toks := tk }) :
    wpAny (MD w) (A.deeper env) (call (.ref f) args) Q
      (fun e s' => wpAny (MD w) (A.deeper env) (leaving env e) (fun _ s'' => E₀ e s'') (fun e' s'' => E₁ e' s'') s') s := by
  have fresh : ∀ {a : Addr}, s.heap.get? a = none → a ≠ L ∧ h₀.get? a = none ∧ (∀ q ∈ (x, instObj 259 dx) :: (dx, inD w b p k tb t1 t2 t3 ta te) :: rest, @Ne Nat q.1 a) := fun {a} ha => by
    refine ⟨fun e => ?_, ?_, fun q hq e => ?_⟩
    · obtain ⟨oL, _, _, hL, _⟩ := F.ns
      rw [e, hL] at ha; cases ha
    · cases q : h₀.get? a with
      | none => rfl
      | some o => have := F.keep _ _ q; rw [ha] at this; cases this
    · have z := (N q hq).1
      rw [show q.1 = a from e, ha] at z; cases z
  refine use h S B F N (fun d hd => ?_) hn hk ⟨tb, t1, t2, t3, ta, te, (N _ (.head _)).1, (N _ (.tail _ (.head _))).1⟩ (fun v h' tk K F' P => ?_) er
  · rcases List.mem_cons.mp hd with rfl | hd
    · exact .head _
    · rcases List.mem_cons.mp hd with rfl | hd
      · exact .tail _ (.head _)
      · nomatch hd
  · obtain ⟨rows, e, ⟨tb', t1', t2', t3', ta', te', o1, o2⟩, r, rr, vs, cap, ts, rfl, n1, g1, hts, hR⟩ := P
    have fr1 := fresh n1
    refine ok rows e rr vs cap ts tb' t1' t2' t3' ta' te' h' tk F' (List.forall_mem_cons.mpr ⟨⟨g1, fr1.1, fr1.2.1⟩, List.forall_mem_cons.mpr ⟨⟨o1, (N _ (.head _)).2⟩, List.forall_mem_cons.mpr ⟨⟨o2, (N _ (.tail _ (.head _))).2⟩, fun q hq => ?_⟩⟩⟩) r hR
      (fun e => fr1.2.2 _ (.head _) e.symm) (fun e => fr1.2.2 _ (.tail _ (.head _)) e.symm) (fun q hq => fr1.2.2 q (.tail _ (.tail _ hq)))
      (fun q hq e => (fresh (hts q hq).1).2.2 _ (.head _) e.symm) (fun q hq e => (fresh (hts q hq).1).2.2 _ (.tail _ (.head _)) e.symm) (fun q hq => (hts q hq).2.2) (fun q hq z hz e => (fresh (hts q hq).1).2.2 z (.tail _ (.tail _ hz)) e.symm)
    rcases List.mem_append.mp hq with hq | hq
    · refine ⟨K _ _ (fun hm => ?_) (N q (.tail _ (.tail _ hq))).1, (N q (.tail _ (.tail _ hq))).2⟩
      rcases List.mem_cons.mp hm with e | hm
      · exact hx q hq e
      · rcases List.mem_cons.mp hm with e | hm
        · exact hdx q hq e
        · nomatch hm
    · have f2 := fresh (hts q hq).1
      exact ⟨(hts q hq).2.1, f2.1, f2.2.1⟩
theorem secPrem {b : Array UInt8} {ks : List Int} {p : Nat} (hm : le1 ks p / 8 % 2 = 1 → le1 ks p % 4 ≠ 2 → ks.getD (secAt ks p) 0 < 128) (hk : KBw.bInts b = ks) (h3 : Builtin.bitAnd (le1 ks p) 3 ≠ 2)
    (h8 : Builtin.bitAnd (Builtin.bitOr (le1 ks p) (le1 ks (p + 1) * 2 ^ Int.toNat 8)) 8 ≠ 0) : ks.getD (secAt ks p) 0 < 128 := by
  rw [bit3] at h3
  rw [or_le8 _ _ (le1_in hk p).1 (le1_in hk p).2, bit8] at h8
  exact hm (by omega) h3
set_option maxHeartbeats 1000000 in
theorem readBody (b : Array UInt8) (p : Nat) (tb tp : Tok) (ks : List Int) (hk : KBw.bInts b = ks) (hz : ks.length ≤ 1000000) (hp : p ≤ ks.length) (hm : le1 ks p / 8 % 2 = 1 → le1 ks p % 4 ≠ 2 → ks.getD (secAt ks p) 0 < 128) : Spec w mean mg mb 20 367 [.bytes b tb, .int (p : Int) tp] []
    (fun _ => True) (fun h v h' => ∃ cs deep token rows e, BodyOk ks p cs deep token rows e ∧ BodyNew h v h' cs deep token rows e)
    (∀ cs deep token rows e, ¬ BodyOk ks p cs deep token rows e) := by
  intro A base fr s Q E S hpre ok er
  refine enter (binds := [(Str.ofString "data", .bytes b tb), (Str.ofString "at", .int (p : Int) tp)]) [] S (List.forall_mem_nil _) (by k_is) (by k_is) (BindsTo.of_eq rfl) (locs rfl) er ?_ rfl rfl rfl (by decide)
  intro g L h₁ gk lt B X T F N sz hE
  (try dsimp only)
  k_fold
  (repeat' (first | ((with_reducible (((with_reducible show wpAny _ _ (call (Value.ref 270) [Value.bytes _ _, Value.int _ _]) _ _ _); (rename News _ _ _ _ => nXZZ); (refine useAt (inAt _ _ _ _ _ (by assumption) (by assumption) (by assumption)) (by assumption) (by assumption) (by assumption) nXZZ (by decide) ⟨rfl, rfl⟩ ?_ (fun q => q.elim)); intro xZZ dxZZ tbZZ t1ZZ t2ZZ t3ZZ taZZ teZZ hZZ tkZZ FZZ NZZ neZZ o1ZZ o2ZZ))) <;> (try dsimp only)) | (((with_reducible show wpAny _ _ (call (Value.ref _) _) _ _ _); ((show wpAny _ _ (call (Value.ref 193) [_]) _ _ _); (rename News _ _ _ _ => nXZZ); (refine useIn (u8 _ _ _ _ (by assumption) _ (by assumption) (by assumption)) (by assumption) (by assumption) (by assumption) nXZZ (by k_all) (by k_all) (by decide) ⟨rfl, rfl⟩ ?_ ?_); rotate_left; (intro qZZ eZZ hZZ tkZZ XZZ UZZ); rotate_left; intro vZZ tbZZ t1ZZ t2ZZ t3ZZ taZZ teZZ hZZ tkZZ FZZ NZZ rZZ; obtain ⟨r1ZZ, ⟨r2ZZ, r3ZZ⟩, tvZZ, hvZZ⟩ := rZZ; subst hvZZ)) <;> (try dsimp only)) | ((with_reducible (((with_reducible show wpAny _ _ (call (Value.ref 249) [_, Value.int _ _]) _ _ _); (rename News _ _ _ _ => nXZZ); (refine useIn (raw _ _ _ _ (by assumption) _ (by assumption) (by assumption) _ _ (by first | assumption | omega | (rw [fdiv4]; omega))) (by assumption) (by assumption) (by assumption) nXZZ (by k_all) (by k_all) (by decide) ⟨rfl, rfl⟩ ?_ ?_); rotate_left; (intro qZZ eZZ hZZ tkZZ XZZ UZZ); rotate_left; intro vZZ tbZZ t1ZZ t2ZZ t3ZZ taZZ teZZ hZZ tkZZ FZZ NZZ rZZ; obtain ⟨r1ZZ, tvZZ, bbZZ, hvZZ, hbZZ⟩ := rZZ; subst hvZZ))) <;> (try dsimp only)) | (((with_reducible show wpAny _ _ (exec (Stmt.Raise _ _ _) _) _ _ _); refine Raise_bad (by have sXZZ := ‹Site _ _ _ _ _ _ _ _ _ _›; exact sXZZ.hh) ?_) <;> (try dsimp only)) | ((with_reducible (((with_reducible show wpAny _ _ (call (Value.ref 51) _) _ _ _); refine bad_raise (by assumption) (by assumption) (by assumption) (by decide) ⟨rfl, rfl⟩ ?_))) <;> (try dsimp only)) | (((with_reducible show wpAny _ _ (call (Value.ref _) _) _ _ _); ((show wpAny _ _ (call (Value.ref 200) [_]) _ _ _); (rename News _ _ _ _ => nXZZ); (refine useIn (u16 _ _ _ _ (by assumption) _ (by assumption) (by assumption)) (by assumption) (by assumption) (by assumption) nXZZ (by k_all) (by k_all) (by decide) ⟨rfl, rfl⟩ ?_ ?_); rotate_left; (intro qZZ eZZ hZZ tkZZ XZZ UZZ); rotate_left; intro vZZ tbZZ t1ZZ t2ZZ t3ZZ taZZ teZZ hZZ tkZZ FZZ NZZ rZZ; obtain ⟨r1ZZ, ⟨r2ZZ, r3ZZ⟩, tvZZ, hvZZ⟩ := rZZ; subst hvZZ)) <;> (try dsimp only)) | (((with_reducible show wpAny _ _ (call (Value.ref _) _) _ _ _); ((show wpAny _ _ (call (Value.ref 207) [_]) _ _ _); (rename News _ _ _ _ => nXZZ); (refine useIn (u32 _ _ _ _ (by assumption) _ (by assumption) (by assumption)) (by assumption) (by assumption) (by assumption) nXZZ (by k_all) (by k_all) (by decide) ⟨rfl, rfl⟩ ?_ ?_); rotate_left; (intro qZZ eZZ hZZ tkZZ XZZ UZZ); rotate_left; intro vZZ tbZZ t1ZZ t2ZZ t3ZZ taZZ teZZ hZZ tkZZ FZZ NZZ rZZ; obtain ⟨r1ZZ, ⟨r2ZZ, r3ZZ⟩, tvZZ, hvZZ⟩ := rZZ; subst hvZZ)) <;> (try dsimp only)) | ((((with_reducible show wpAny _ _ (call (Value.ref 360) [_, Value.int _ _]) _ _ _); (rename News _ _ _ _ => nXZZ); (refine useSecs (rest := [(_, listO [] _)]) (readSections _ _ _ _ (by assumption) _ (by assumption) (by assumption) _ _ ?_) (by assumption) (by assumption) (by assumption) (News.perm nXZZ (List.forall_mem_cons.mpr ⟨.tail _ (.head _), List.forall_mem_cons.mpr ⟨.tail _ (.tail _ (.head _)), List.forall_mem_cons.mpr ⟨.head _, List.forall_mem_nil _⟩⟩⟩)) (by k_all) (by k_all) (by decide) ⟨rfl, rfl⟩ ?_ ?_); rotate_left 2; (intro qZZ eZZ hZZ tkZZ XZZ UZZ); rotate_left 2; intro rowsZZ eZZ rrZZ vsZZ capZZ tsZZ tbZZ t1ZZ t2ZZ t3ZZ taZZ teZZ hZZ tkZZ FZZ NZZ r1ZZ r2ZZ w1ZZ w2ZZ w3ZZ w4ZZ w5ZZ w6ZZ w7ZZ; (simp only [List.cons_append, List.nil_append] at NZZ))) <;> (try dsimp only)) | walk_at "ks"))
  all_goals try exact secPrem hm hk (by assumption) (by assumption)
  all_goals try (have o1 := or_le8 (le1 ks p) (le1 ks (p + 1)) (le1_in hk p).1 (le1_in hk p).2)
  all_goals try simp only [bit3, bit8, fdiv4, show Builtin.bitOr (3 * 2 ^ Int.toNat 12) 3 = 12291 from by decide] at *
  all_goals first
    | (refine hE (fun cs deep token rows e hs => ?_) _ _ _ (by assumption) (by assumption)
       simp only [BodyOk, bodyAt, secAt] at hs
       rcases hs with ⟨q1, q2, _⟩ | ⟨q1, q2, q3, q4, q5, q6, ⟨q7, _⟩ | ⟨q7, q8⟩⟩
       · omega
       · have i1 := le1_in hk (p + 1)
         first | omega | (have z := (not_congr (bitF (x := Builtin.bitOr (le1 ks p) (le1 ks (p + 1) * 2 ^ Int.toNat 8)))).mp (by assumption); omega)
       · have i1 := le1_in hk (p + 1)
         first | omega | (have z := (not_congr (bitF (x := Builtin.bitOr (le1 ks p) (le1 ks (p + 1) * 2 ^ Int.toNat 8)))).mp (by assumption); omega) | (rename ∀ (rows : List (List Int)) (e : Nat), ¬ SecOk _ _ rows e => qS; exact qS _ _ q8))
    | skip
  · (rename News _ _ _ _ => nE; rename Fr _ _ _ _ => fE)
    exact ok _ _ _ (Fr.kept gk fE) ⟨_, _, _, _, _, .inl ⟨by assumption, by assumption, by assumption, rfl, rfl, rfl, rfl⟩, _, _, _, [], _, [], _, _, _, _, rfl, rfl, freshOf gk (nE _ (.head _)).2.2 List.not_mem_nil, freshOf gk (nE _ (.tail _ (.head _))).2.2 List.not_mem_nil, (nE _ (.head _)).1, (nE _ (.tail _ (.head _))).1, (fun _ hq => nomatch hq), RowsAt.nil⟩
  · (rename News _ _ _ _ => nE; rename Fr _ _ _ _ => fE)
    have z := (bitF (x := Builtin.bitOr (le1 ks p) (le1 ks (p + 1) * 2 ^ Int.toNat 8))).mp (by assumption)
    have i1 := le1_in hk (p + 1)
    have i2 := le1_in hk p
    exact ok _ _ _ (Fr.kept gk fE) ⟨_, _, _, _, _, .inr ⟨by omega, by omega, by assumption, rfl, rfl, by assumption, .inr ⟨by omega, by assumption⟩⟩, _, _, _, _, _, _, _, _, _, _, rfl, rfl, freshOf gk (nE _ (.head _)).2.2 List.not_mem_nil, freshOf gk (nE _ (.tail _ (.head _))).2.2 List.not_mem_nil, (nE _ (.head _)).1, (nE _ (.tail _ (.head _))).1,
      fun q hq => ⟨freshOf gk (nE q (.tail _ (.tail _ (.tail _ (.tail _ (.tail _ hq)))))).2.2 List.not_mem_nil, (nE q (.tail _ (.tail _ (.tail _ (.tail _ (.tail _ hq)))))).1⟩, by assumption⟩
  · (rename News _ _ _ _ => nE; rename Fr _ _ _ _ => fE)
    have z := (bitF (x := Builtin.bitOr (le1 ks p) (le1 ks (p + 1) * 2 ^ Int.toNat 8))).mp (by assumption)
    have i1 := le1_in hk (p + 1)
    have i2 := le1_in hk p
    exact ok _ _ _ (Fr.kept gk fE) ⟨_, _, _, _, _, .inr ⟨by omega, by omega, by assumption, rfl, rfl, by assumption, .inl ⟨by omega, rfl, rfl⟩⟩, _, _, _, [], _, [], _, _, _, _, rfl, rfl, freshOf gk (nE _ (.head _)).2.2 List.not_mem_nil, freshOf gk (nE _ (.tail _ (.head _))).2.2 List.not_mem_nil, (nE _ (.head _)).1, (nE _ (.tail _ (.head _))).1, (fun _ hq => nomatch hq), RowsAt.nil⟩
end
section
open PySem PySem.W PySem.Calls PyProof.Rows
section
variable {w : World} {mean : ExcName → Option Value} {mg mb : Str → Option Value} {n : Nat} {A : Around} {base : Heap} {fr : List Env} {s : Shared} {Q E : Value → Shared → Prop}
  {oc : Value} {od an : Option Addr} {name qual : Str} {params : Arguments} {body : List Stmt} {scope : Scope} {dV kV doc pm cdv ct : Value} {osl : Array (Option Value)} {f : Addr} {vs : List Value} {binds : List (Str × Value)}
/-- a def of the text is entered, over clean stacks -/
theorem enterWK {exc : Prop} (news : List (Addr × Obj)) (S : Site w mean mg mb (n + 1) A base fr s (news.map (·.1))) (hn : ∀ p ∈ news, s.heap.get? p.1 = some p.2)
    (ho : List.lookup f (hd.heap_1 w.params) = some ⟨oc, od, .func (fnOf name qual params body scope dV kV doc pm an cdv ct), osl⟩) (hcd : codeIn (hd.heap_1 w.params) cdv qual = true)
    (hbind : BindsTo s (fnOf name qual params body scope dV kV doc pm an cdv ct) ⟨vs, []⟩ binds) (hloc : ∀ y ∈ binds, scope.names.lookup y.1 = some .local)
    (hE : exc → ∀ e h' tk, Exc base fr e h' → (hideAll s.heap (news.map (·.1))).UpToSlots h' → E (.ref e) { s with heap := h', toks := tk })
    (h : ∀ g L h₁, (∀ b o, b ∉ news.map (·.1) → s.heap.get? b = some o → g.get? b = some o) → (∀ p ∈ news, p.1 < L) → Below A base fr g → (hd.heap_1 w.params).In g → Top VW LS mean mg mb g →
      Fr g L h₁ (fun y => binds.reverse.lookup y) → News g L h₁ news → s.heap.objs.size ≤ L →
      (exc → ∀ e h' tk, Exc base fr e h' → g.UpToSlots h' → E (.ref e) { s with heap := h', toks := tk }) →
      wpC (model PySem.Challenge.rw_sa0229_01.row.prog w) (A.deeper (envOf qual scope L f cdv)) (execs body (envOf qual scope L f cdv)) (fun fl s' => Q (match fl with | .ret v => v | _ => .none) s')
        (fun e s' => wpAny (model PySem.Challenge.rw_sa0229_01.row.prog w) (A.deeper (envOf qual scope L f cdv)) (leaving (envOf qual scope L f cdv) e) (fun _ s'' => E e s'') (fun e' s'' => E e' s'') s')
        { s with heap := h₁, toks := s.toks + binds.length })
    (hco : scope.isCoroutine = false) (hgen : scope.isGenerator = false) (hk : scope.kind = .function) (hcell : ∀ x ∈ scope.names, x.2 ≠ .cell) :
    codeC (model PySem.Challenge.rw_sa0229_01.row.prog w) A (.call (.ref f) ⟨vs, []⟩) (fun r s' => match r with | .ok (.ret v) => Q v s' | .ok _ => False | .error e => E e s') s := by
  have st : ∀ b o, base.get? b = some o → b ∉ news.map (·.1) := fun b o e q => by rw [S.fresh b q] at e; cases e
  have gk : ∀ b o, b ∉ news.map (·.1) → s.heap.get? b = some o → (hideAll s.heap (news.map (·.1))).get? b = some o := fun b o nm e => hideAll_get _ e nm
  have stg : base.StaysIn (hideAll s.heap (news.map (·.1))) := fun b o e => gk b o (st b o e) (S.B.stays b o e)
  have X := S.K.keeps S.B.stays
  refine (codeC_call_def (fd := fnOf name qual params body scope dV kV doc pm an cdv ct) (body := body) (binds := binds) (Nat.lt_of_lt_of_le (show A.depth < 901 by have := S.room; omega) (by decide)) (X _ _ ho) rfl ((S.T.keeps S.B.stays).nolimit) (codeRec_of X hcd) rfl hbind hcell hloc (fun h₁ hns hk₁ => ?_) hco hgen hk)
  have B' : Below A base fr (hideAll s.heap (news.map (·.1))) := ⟨S.B.stack, stg, funFrames_hideAll S.B.frames fun env he b hb => S.apart b hb env he⟩
  have X' : (hd.heap_1 w.params).In (hideAll s.heap (news.map (·.1))) := S.K.keeps stg
  have T' : Top VW LS mean mg mb (hideAll s.heap (news.map (·.1))) := S.T.keeps stg
  refine wpC_mono (h (hideAll s.heap (news.map (·.1))) s.heap.objs.size h₁ gk (fun p hp => Heap.lt_size (hn p hp)) B' X' T'
    ⟨hns, fun b o e => hk₁ b o (of_hideAll _ e), Nat.le_of_eq (hideAll_size _ _)⟩ (fun p hp => ⟨hk₁ _ _ (hn p hp), Nat.ne_of_lt (Heap.lt_size (hn p hp)), hideAll_none _ (List.mem_map_of_mem hp)⟩) (Nat.le_refl _) hE) (fun fl s' hl => hl) fun _ _ y => y
theorem enterW {exc : Prop} (news : List (Addr × Obj)) (S : Site w mean mg mb (n + 1) A base fr s (news.map (·.1))) (hn : ∀ p ∈ news, s.heap.get? p.1 = some p.2)
    (ho : List.lookup f (hd.heap_1 w.params) = some ⟨oc, od, .func (fnOf name qual params body scope dV kV doc pm an cdv ct), osl⟩) (hcd : codeIn (hd.heap_1 w.params) cdv qual = true)
    (hbind : BindsTo s (fnOf name qual params body scope dV kV doc pm an cdv ct) ⟨vs, []⟩ binds) (hloc : ∀ y ∈ binds, scope.names.lookup y.1 = some .local)
    (hE : exc → ∀ e h' tk, Exc base fr e h' → (hideAll s.heap (news.map (·.1))).UpToSlots h' → E (.ref e) { s with heap := h', toks := tk })
    (h : ∀ g L h₁, (∀ b o, b ∉ news.map (·.1) → s.heap.get? b = some o → g.get? b = some o) → (∀ p ∈ news, p.1 < L) → Below A base fr g → (hd.heap_1 w.params).In g → Top VW LS mean mg mb g →
      Fr g L h₁ (fun y => binds.reverse.lookup y) → News g L h₁ news → s.heap.objs.size ≤ L →
      (exc → ∀ e h' tk, Exc base fr e h' → g.UpToSlots h' → E (.ref e) { s with heap := h', toks := tk }) →
      wpC (model PySem.Challenge.rw_sa0229_01.row.prog w) (A.deeper (envOf qual scope L f cdv)) (execs body (envOf qual scope L f cdv)) (fun fl s' => Q (match fl with | .ret v => v | _ => .none) s')
        (fun e s' => wpAny (model PySem.Challenge.rw_sa0229_01.row.prog w) (A.deeper (envOf qual scope L f cdv)) (leaving (envOf qual scope L f cdv) e) (fun _ s'' => E e s'') (fun e' s'' => E e' s'') s')
        { s with heap := h₁, toks := s.toks + binds.length })
    (hco : scope.isCoroutine = false) (hgen : scope.isGenerator = false) (hk : scope.kind = .function) (hcell : ∀ x ∈ scope.names, x.2 ≠ .cell) :
    wpC (model PySem.Challenge.rw_sa0229_01.row.prog w) A (call (.ref f) vs) Q E s :=
  wpC_call (enterWK news S hn ho hcd hbind hloc hE h hco hgen hk hcell)
end
section
variable {w : World} {mean : ExcName → Option Value} {mg mb : Str → Option Value} {n n' : Nat} {A : Around} {base h₀ : Heap} {fr : List Env} {s s₀ : Shared} {L a : Addr} {m : Str → Option Value} {env : Env}
  {news : List (Addr × Obj)} {D D₀ : List Addr} {Q E₀ E₁ : Value → Shared → Prop} {f : Addr} {vs : List Value} {pre : Heap → Prop} {post : Heap → Value → Heap → Prop} {exc : Prop}
/-- a call, over clean stacks, of a function that changes nothing that stood before -/
theorem useC (h : SpecC w mean mg mb n f vs D pre post exc) (S : Site w mean mg mb n' A base fr s₀ D₀) (B : Below A base fr h₀) (F : Fr h₀ L s.heap m) (N : News h₀ L s.heap news)
    (hD : ∀ d ∈ D, d ∈ news.map (·.1)) (hn : n + 1 ≤ n') (hk : env.frame = some L ∧ env.scope.kind = .function) (hp : pre s.heap)
    (ok : ∀ v h' tk, KeepBut D s.heap h' → Fr h₀ L h' m → post s.heap v h' → Q v { s with heap := h', toks := tk })
    (er : exc → ∀ e h' tk, Exc base fr e h' → h₀.UpToSlots h' → E₀ (.ref e) { s with heap := h', toks := tk }) :
    wpC (MD w) (A.deeper env) (call (.ref f) vs) Q
      (fun e s' => wpAny (MD w) (A.deeper env) (leaving env e) (fun _ s'' => E₀ e s'') (fun e' s'' => E₁ e' s'') s') s :=
  h _ base _ s Q _ (S.body B F N hD hk hn) hp (fun v h' tk k p => ok v h' tk k (Fr.keepBut F N hD k) p) fun q e h' tk X U => leaves B F N hD X U (er q) hk
end
/-- the octets of a number, the lowest first -/
noncomputable def leL (n : Int) (c : Nat) : List Int := (List.range c).map fun j => n / 256 ^ j % 256
theorem leL_succ (n : Int) (c : Nat) : leL n (c + 1) = leL n c ++ [n / 256 ^ c % 256] := by unfold leL; rw [List.range_succ, List.map_append]; rfl
theorem leL_length (n : Int) (c : Nat) : (leL n c).length = c := by simp [leL]
theorem bInts_push (bs : Array UInt8) (k : Int) (h0 : 0 ≤ k) (h1 : k < 256) : KBw.bInts (bs.push k.toNat.toUInt8) = KBw.bInts bs ++ [k] := by
  simp [KBw.bInts]
  omega
/-- a bytearray that holds these octets -/
noncomputable def BaIs (h : Heap) (bx : Addr) (ks : List Int) : Prop := ∃ bs, h.get? bx = some (baObj bs) ∧ KBw.bInts bs = ks
theorem sh_eq (n : Int) (c : Nat) : n.fdiv (2 ^ (8 * (c : Int)).toNat) = n / 256 ^ c := by
  have e : (8 * (c : Int)).toNat = 8 * c := by omega
  rw [e, Int.pow_mul, Int.fdiv_eq_ediv_of_nonneg]
  · rfl
  · exact Int.le_of_lt (Int.pow_pos (by decide))
theorem pow256 (c : Nat) : (0 : Int) < 256 ^ c := Int.pow_pos (by decide)
theorem fits_iff (n : Int) (c : Nat) (h0 : 0 ≤ n) : n / 256 ^ c = 0 ↔ n < 256 ^ c := by
  constructor
  · intro h
    have := Int.lt_mul_ediv_self_add (x := n) (pow256 c)
    rw [h] at this; omega
  · intro h
    exact Int.ediv_eq_zero_of_lt h0 h
theorem octet (x : Int) : Builtin.bitAnd x 255 = x % 256 := kbt_mask x 8
theorem News.perm' {h₀ h : Heap} {L : Addr} {news news' : List (Addr × Obj)} (N : News h₀ L h news) (k : ∀ q ∈ news', q ∈ news) : News h₀ L h news' := KStb.news_of N k
theorem range_sizeW (n : Nat) : Builtin.Range.rangeSize 0 (n : Int) 1 = (n : Int) := by
  have := rangeSize_nat 0 (n : Int)
  simpa using this
section
variable {M : Model} {A : Around} {E : Value → Shared → Prop} {s : Shared} {env : Env} {Q : Value → Shared → Prop}
/-- a call of a built-in: its arguments by the walker -/
theorem C_callB {pos : Pos} {id : String} {first : List Value} {e : Expr} {rest : List Expr}
    (h : wpAny M A (spliced (backTo pos (starEach (e :: rest) env))) (fun vs s₁ => wpC M A (call (.builtin id) (first ++ vs)) Q E s₁) E s)
    (he : starEach (e :: rest) env = (false, eval e env) :: starEach rest env := by rfl) (hplain : (backTo pos (starEach rest env)).any (·.1) = false := by rfl) :
    wpC M A (callWith pos (.builtin id) first (backTo pos (starEach (e :: rest) env)) []) Q E s := by
  rw [he] at h ⊢
  exact C_callWith (P := fun _ => True) (by show (false || (backTo pos (starEach rest env)).any (·.1)) = false; rw [hplain]; rfl) (fun _ _ => ⟨.machine, .inr (.inl rfl), .now⟩) (evalArgs_plain (wpAny_mono h (fun _ _ x => ⟨trivial, x⟩) fun _ _ x => x))
theorem C_callB0 {pos : Pos} {id : String} {first : List Value} (h : wpC M A (call (.builtin id) (first ++ [])) Q E s) : wpC M A (callWith pos (.builtin id) first (backTo pos (starEach [] env)) []) Q E s :=
  C_callWith (P := fun _ => True) rfl (fun _ _ => ⟨.machine, .inr (.inl rfl), .now⟩) (evalArgs_nil3 ⟨trivial, h⟩)
/-- a call of a def of the text -/
theorem C_callK {K : Frag} {pos : Pos} {f : Value} {first : List Value} {e : Expr} {rest : List Expr} (hk : keepIn K f = true)
    (h : wpAny M A (spliced (backTo pos (starEach (e :: rest) env))) (fun vs s₁ => K.In s₁.heap ∧ wpC M A (call f (first ++ vs)) Q E s₁) E s)
    (he : starEach (e :: rest) env = (false, eval e env) :: starEach rest env := by rfl) (hplain : (backTo pos (starEach rest env)).any (·.1) = false := by rfl) :
    wpC M A (callWith pos f first (backTo pos (starEach (e :: rest) env)) []) Q E s := by
  rw [he] at h ⊢
  exact C_callWith (by show (false || (backTo pos (starEach rest env)).any (·.1)) = false; rw [hplain]; rfl) (keeps_K hk) (evalArgs_plain h)
theorem C_callK0 {K : Frag} {pos : Pos} {f : Value} {first : List Value} (hk : keepIn K f = true) (X : K.In s.heap) (h : wpC M A (call f (first ++ [])) Q E s) :
    wpC M A (callWith pos f first (backTo pos (starEach [] env)) []) Q E s :=
  C_callWith rfl (keeps_K hk) (evalArgs_nil3 ⟨X, h⟩)
end
/-- an object of the ledger is changed -/
theorem same_fr {h₀ h h' : Heap} {L bx : Addr} {m : Str → Option Value} {o o' : Obj} {rest : List (Addr × Obj)} (F : Fr h₀ L h m) (N : News h₀ L h ((bx, o) :: rest)) (off : ∀ q ∈ rest, @Ne Nat q.1 bx) (hn : h'.get? bx = some o') (hs : Heap.SameBut bx h h') :
    Fr h₀ L h' m ∧ News h₀ L h' ((bx, o') :: rest) := by
  have z := N _ (.head _)
  refine ⟨⟨F.ns.at' fun o e => (hs.2 _ (fun e => z.2.1 e.symm)).trans e, fun b o e => ?_, F.above⟩, List.forall_mem_cons.mpr ⟨⟨hn, z.2⟩, fun q hq => ?_⟩⟩
  · have : b ≠ bx := fun q => by rw [q, z.2.2] at e; cases e
    exact (hs.2 _ this).trans (F.keep b o e)
  · have y := N q (.tail _ hq)
    exact ⟨(hs.2 _ (off q hq)).trans y.1, y.2⟩
theorem C_nil {M : Model} {A : Around} {E : Value → Shared → Prop} {s : Shared} {env : Env} {Q : Flow → Shared → Prop} (h : Q .next s) : wpC M A (execs [] env) Q E s := wpC_of (wpAny_execs_nil h)
end
section
open PySem PySem.W PySem.Calls PyProof.Rows
variable {w : World} {mean : ExcName → Option Value} {mg mb : Str → Option Value}
set_option maxHeartbeats 1000000 in
theorem putNumber (bs : Array UInt8) (bx : Addr) (n : Int) (tn tc : Tok) (c : Nat) (hc : c ≤ 4) (hz : bs.size ≤ 1000000) (hn1 : -1099511627776 ≤ n) (hn2 : n ≤ 1099511627776) : SpecC w mean mg mb 8 60 [.ref bx, .int n tn, .int (c : Int) tc] [bx]
    (fun h => h.get? bx = some (baObj bs)) (fun _ v h' => v = .none ∧ (0 ≤ n ∧ n < 256 ^ c) ∧ BaIs h' bx (KBw.bInts bs ++ leL n c)) (¬ (0 ≤ n ∧ n < 256 ^ c)) := by
  intro A base fr s Q E S hpre ok er
  refine enterW (binds := [(Str.ofString "data", .ref bx), (Str.ofString "n", .int n tn), (Str.ofString "count", .int (c : Int) tc)]) [(bx, baObj bs)] S (List.forall_mem_cons.mpr ⟨hpre, List.forall_mem_nil _⟩) (by k_is) (by k_is) (BindsTo.of_eq rfl) (locs rfl) er ?_ rfl rfl rfl (by decide)
  intro g L h₁ gk lt B X T F N sz hE
  (try dsimp only)
  show wpC _ _ (execs ([_] ++ [_]) _) _ _ _
  refine C_block ?_
  k_fold
  (repeat' (first | (((with_reducible show wpAny _ _ (exec (Stmt.Raise _ _ _) _) _ _ _); refine Raise_bad (by have sXZZ := ‹Site _ _ _ _ _ _ _ _ _ _›; exact sXZZ.hh) ?_) <;> (try dsimp only)) | ((((with_reducible show wpAny _ _ (call (Value.builtin "len") [Value.ref _]) _ _ _); (rename News _ _ _ _ => nXZZ); refine ba_len_call (nXZZ _ (.head _)).1 (by omega) ?_; intro tZZ kZZ)) <;> (try dsimp only)) | ((with_reducible (((with_reducible show wpAny _ _ (call (Value.ref 51) _) _ _ _); refine bad_raise (by assumption) (by assumption) (by assumption) (by decide) ⟨rfl, rfl⟩ ?_))) <;> (try dsimp only)) | walk_at "ks"))
  · exact hE (by omega) _ _ _ (by assumption) (by assumption)
  · refine hE (fun q => ?_) _ _ _ (by assumption) (by assumption)
    rename n.fdiv _ ≠ 0 => hq
    rw [sh_eq] at hq
    exact hq ((fits_iff n c q.1).mpr q.2)
  rename n.fdiv _ = 0 => hq
  rw [sh_eq] at hq
  have n0 : 0 ≤ n := by omega
  have n1 : n < 256 ^ c := (fits_iff n c n0).mp hq
  refine C_execs (C_For g rfl rfl ?_ (by with_unfolding_all passes_own))
  k_fold
  k_steps
  rename Fr _ _ _ _ => lF; rename News _ _ _ _ => lN; rename IsRange _ _ _ _ _ _ _ _ => lR
  refine C_iter_range (n := c) (fun i m news => m (Str.ofString "data") = some (.ref bx) ∧ m (Str.ofString "n") = some (.int n tn) ∧ ∃ b', news = [(bx, baObj b')] ∧ KBw.bInts b' = KBw.bInts bs ++ leL n i) S.hh lR (small_one (by decide) (by decide) (by omega) (by omega)) (range_sizeW _) lF lN ⟨rfl, rfl, bs, rfl, by simp [leL]⟩ ?_ ?_
  · intro I oI lI i v m₁ news₁ h tk2 hi hP hJ hI F1 N1
    obtain ⟨t0, rfl⟩ := hP
    obtain ⟨e1, e2, b', rfl, hb'⟩ := hJ
    have n1 := hI _ (.head _)
    have F2 : Fr g L h (fun y => if y = Str.ofString "place" then some (.int (0 + (i : Int)) t0) else front [(Str.ofString "data", .ref bx), (Str.ofString "n", .int n tn)] m₁ y) := by
      rw [front_eq (List.forall_mem_cons.mpr ⟨e1, List.forall_mem_cons.mpr ⟨e2, List.forall_mem_nil _⟩⟩)]; exact F1
    have N2 : News g L h [(bx, baObj b'), (I, oI)] := News.perm' N1 (List.forall_mem_cons.mpr ⟨.tail _ (.head _), List.forall_mem_cons.mpr ⟨.head _, List.forall_mem_nil _⟩⟩)
    clear F1 N1
    refine C_execs (C_Expr (C_callAttr rfl rfl rfl ?_))
    k_fold
    k_steps
    (rename Fr _ _ _ _ => fE; rename News _ _ _ _ => nE)
    refine ba_getMethod ba_append ba_ty_append (nE _ (.head _)).1 ?_
    refine C_callB ?_
    k_fold
    k_steps
    (rename Fr _ _ _ _ => fE2; rename News _ _ _ _ => nE2)
    have hlen : b'.size = bs.size + i := by rw [← KBw.ints_length, hb', List.length_append, KBw.ints_length, leL_length]
    have hval : Builtin.bitAnd (n.fdiv (2 ^ (8 * (0 + (i : Int))).toNat)) 255 = n / 256 ^ i % 256 := by rw [Int.zero_add, octet, sh_eq]
    refine C_append (n := Builtin.bitAnd (n.fdiv (2 ^ (8 * (0 + (i : Int))).toNat)) 255) (nE2 _ (.head _)).1 (by rw [hval]; omega) (by rw [hval]; omega) (by rw [sizeLine_eq]; omega) fun h' e1 e2 => ?_
    obtain ⟨F3, N3⟩ := same_fr fE2 nE2 (List.forall_mem_cons.mpr ⟨Ne.symm n1, List.forall_mem_nil _⟩) e1 e2
    refine C_nil ⟨rfl, TurnI.intro (tk := _) F3 N3 [(bx, _)] (List.forall_mem_cons.mpr ⟨.tail _ (.head _), List.forall_mem_cons.mpr ⟨.head _, List.forall_mem_nil _⟩⟩) (List.forall_mem_cons.mpr ⟨n1, List.forall_mem_nil _⟩) ⟨?_, ?_, _, rfl, ?_⟩⟩
    · exact rfl
    · exact rfl
    · rw [bInts_push _ _ (by rw [hval]; omega) (by rw [hval]; omega), hb', hval, leL_succ, List.append_assoc]
  · intro h tk2 m' news' F1 N1 hJ
    obtain ⟨e1, e2, b', rfl, hb'⟩ := hJ
    refine C_nil ?_
    exact ok _ _ _ (Fr.kept gk F1) ⟨rfl, ⟨n0, n1⟩, b', (N1 _ (.head _)).1, hb'⟩
end
section
open PySem PySem.W PySem.Calls PyProof.Rows
variable {w : World} {mean : ExcName → Option Value} {mg mb : Str → Option Value}
/-- an address that is new at a call stands apart from the ledger -/
theorem newAt' {h₀ : Heap} {L : Addr} {s : Shared} {m : Str → Option Value} {news : List (Addr × Obj)} (F : Fr h₀ L s.heap m) (N : News h₀ L s.heap news) {a : Addr} (ha : s.heap.get? a = none) :
    a ≠ L ∧ h₀.get? a = none ∧ (∀ q ∈ news, @Ne Nat q.1 a) := by
  refine ⟨fun e => ?_, ?_, fun q hq e => ?_⟩
  · obtain ⟨oL, _, _, hL, _⟩ := F.ns
    rw [e, hL] at ha; cases ha
  · cases q : h₀.get? a with
    | none => rfl
    | some o => have := F.keep _ _ q; rw [ha] at this; cases this
  · have z := (N q hq).1
    rw [show q.1 = a from e, ha] at z; cases z
theorem freshOf' {s : Shared} {D : List Addr} {g : Heap} (gk : ∀ b o, b ∉ D → s.heap.get? b = some o → g.get? b = some o) {b : Addr} (h : g.get? b = none) (hb : b ∉ D) : s.heap.get? b = none := by
  cases q : s.heap.get? b with
  | none => rfl
  | some o => rw [gk b o hb q] at h; cases h

noncomputable abbrev outD (w : World) (bx : Addr) (t1 : Tok) : Obj := dictOf [ent w "data" t1 (.ref bx)] 1
/-- an Out whose octets these are -/
noncomputable def OutIs (w : World) (h : Heap) (x dx bx : Addr) (ks : List Int) : Prop := ∃ t1 bs, h.get? x = some (instObj 161 dx) ∧ h.get? dx = some (outD w bx t1) ∧ h.get? bx = some (baObj bs) ∧ KBw.bInts bs = ks
structure Out3 (x dx bx : Addr) : Prop where
  a : @Ne Nat x dx
  b : @Ne Nat x bx
  c : @Ne Nat dx bx
theorem useBa {n n' : Nat} {A : Around} {base h₀ : Heap} {fr : List Env} {s s₀ : Shared} {L : Addr} {m : Str → Option Value} {env : Env} {rest : List (Addr × Obj)} {D₀ : List Addr} {Q E₀ E₁ : Value → Shared → Prop} {f : Addr} {vs : List Value} {exc R : Prop}
    {bx : Addr} {bs : Array UInt8} {ks : List Int}
    (h : SpecC w mean mg mb n f vs [bx] (fun h => h.get? bx = some (baObj bs)) (fun _ v h' => v = .none ∧ R ∧ BaIs h' bx ks) exc) (S : Site w mean mg mb n' A base fr s₀ D₀) (B : Below A base fr h₀) (F : Fr h₀ L s.heap m)
    (N : News h₀ L s.heap ((bx, baObj bs) :: rest)) (off : ∀ q ∈ rest, @Ne Nat q.1 bx) (hn : n + 1 ≤ n') (hk : env.frame = some L ∧ env.scope.kind = .function)
    (ok : ∀ bs' h' tk, Fr h₀ L h' m → News h₀ L h' ((bx, baObj bs') :: rest) → R → KBw.bInts bs' = ks → Q .none { s with heap := h', toks := tk })
    (er : exc → ∀ e h' tk, Exc base fr e h' → h₀.UpToSlots h' → E₀ (.ref e) { s with heap := h', toks := tk }) :
    wpC (MD w) (A.deeper env) (call (.ref f) vs) Q
      (fun e s' => wpAny (MD w) (A.deeper env) (leaving env e) (fun _ s'' => E₀ e s'') (fun e' s'' => E₁ e' s'') s') s := by
  refine useC h S B F N (fun d hd => by rw [List.mem_singleton.mp hd]; exact .head _) hn hk (N _ (.head _)).1 (fun v h' tk K F' P => ?_) er
  obtain ⟨rfl, r, bs', o1, o2⟩ := P
  exact ok bs' h' tk F' (List.forall_mem_cons.mpr ⟨⟨o1, (N _ (.head _)).2⟩, News.keepBut N K fun q hq => ⟨.tail _ hq, fun hm => off q hq (List.mem_singleton.mp hm)⟩⟩) r o2
/-- what a call of a method of an Out hands on -/
theorem outKeep {h₀ : Heap} {s : Shared} {L : Addr} {rest : List (Addr × Obj)} {h' : Heap} {x dx bx : Addr} {t1 : Tok} {bs : Array UInt8} {ks : List Int}
    (N : News h₀ L s.heap ((bx, baObj bs) :: (x, instObj 161 dx) :: (dx, outD w bx t1) :: rest)) (o1 : ∀ q ∈ rest, @Ne Nat q.1 x) (o2 : ∀ q ∈ rest, @Ne Nat q.1 dx) (o3 : ∀ q ∈ rest, @Ne Nat q.1 bx)
    (K : KeepBut [x, dx, bx] s.heap h') (P : OutIs w h' x dx bx ks) : ∃ t1 bs, News h₀ L h' ((bx, baObj bs) :: (x, instObj 161 dx) :: (dx, outD w bx t1) :: rest) ∧ KBw.bInts bs = ks := by
  obtain ⟨t, b, a1, a2, a3, a4⟩ := P
  refine ⟨t, b, List.forall_mem_cons.mpr ⟨⟨a3, (N _ (.head _)).2⟩, List.forall_mem_cons.mpr ⟨⟨a1, (N _ (.tail _ (.head _))).2⟩, List.forall_mem_cons.mpr ⟨⟨a2, (N _ (.tail _ (.tail _ (.head _)))).2⟩, News.keepBut N K fun q hq => ⟨.tail _ (.tail _ (.tail _ hq)), fun hm => ?_⟩⟩⟩⟩, a4⟩
  rcases List.mem_cons.mp hm with e | hm
  · exact o1 q hq e
  · rcases List.mem_cons.mp hm with e | hm
    · exact o2 q hq e
    · exact o3 q hq (List.mem_singleton.mp hm)
theorem outIn {h₀ : Heap} {s : Shared} {L : Addr} {rest : List (Addr × Obj)} {x dx bx : Addr} {t1 : Tok} {bs : Array UInt8}
    (N : News h₀ L s.heap ((bx, baObj bs) :: (x, instObj 161 dx) :: (dx, outD w bx t1) :: rest)) : (∀ d ∈ [x, dx, bx], d ∈ ((bx, baObj bs) :: (x, instObj 161 dx) :: (dx, outD w bx t1) :: rest).map (·.1)) ∧ OutIs w s.heap x dx bx (KBw.bInts bs) := by
  refine ⟨fun d hd => ?_, ⟨t1, bs, (N _ (.tail _ (.head _))).1, (N _ (.tail _ (.tail _ (.head _)))).1, (N _ (.head _)).1, rfl⟩⟩
  simp only [List.map_cons, List.mem_cons, List.not_mem_nil, or_false] at hd ⊢
  rcases hd with rfl | rfl | rfl
  · exact .inr (.inl rfl)
  · exact .inr (.inr (.inl rfl))
  · exact .inl rfl
section
variable {n n' : Nat} {A : Around} {base h₀ : Heap} {fr : List Env} {s s₀ : Shared} {L : Addr} {m : Str → Option Value} {env : Env} {rest : List (Addr × Obj)} {D₀ : List Addr} {Q E₀ E₁ : Value → Shared → Prop} {f : Addr} {vs : List Value} {exc : Prop} {R : Value → Prop}
    {x dx bx : Addr} {t1 : Tok} {bs : Array UInt8} {ks ks' : List Int}
theorem useOut (h : SpecC w mean mg mb n f vs [x, dx, bx] (fun h => OutIs w h x dx bx ks) (fun _ v h' => R v ∧ OutIs w h' x dx bx ks') exc) (S : Site w mean mg mb n' A base fr s₀ D₀) (B : Below A base fr h₀) (F : Fr h₀ L s.heap m)
    (N : News h₀ L s.heap ((bx, baObj bs) :: (x, instObj 161 dx) :: (dx, outD w bx t1) :: rest)) (hb : KBw.bInts bs = ks) (o1 : ∀ q ∈ rest, @Ne Nat q.1 x) (o2 : ∀ q ∈ rest, @Ne Nat q.1 dx) (o3 : ∀ q ∈ rest, @Ne Nat q.1 bx) (hn : n + 1 ≤ n') (hk : env.frame = some L ∧ env.scope.kind = .function)
    (ok : ∀ v t1 bs' h' tk, Fr h₀ L h' m → News h₀ L h' ((bx, baObj bs') :: (x, instObj 161 dx) :: (dx, outD w bx t1) :: rest) → R v → KBw.bInts bs' = ks' → Q v { s with heap := h', toks := tk })
    (er : exc → ∀ e h' tk, Exc base fr e h' → h₀.UpToSlots h' → E₀ (.ref e) { s with heap := h', toks := tk }) :
    wpC (MD w) (A.deeper env) (call (.ref f) vs) Q
      (fun e s' => wpAny (MD w) (A.deeper env) (leaving env e) (fun _ s'' => E₀ e s'') (fun e' s'' => E₁ e' s'') s') s := by
  obtain ⟨i1, i2⟩ := outIn N
  rw [hb] at i2
  refine useC h S B F N i1 hn hk i2 (fun v h' tk K F' P => ?_) er
  obtain ⟨t, b, N', e⟩ := outKeep N o1 o2 o3 K P.2
  exact ok v t b h' tk F' N' P.1 e
theorem useOutA (h : Spec w mean mg mb n f vs [x, dx, bx] (fun h => OutIs w h x dx bx ks) (fun _ v h' => R v ∧ OutIs w h' x dx bx ks') exc) (S : Site w mean mg mb n' A base fr s₀ D₀) (B : Below A base fr h₀) (F : Fr h₀ L s.heap m)
    (N : News h₀ L s.heap ((bx, baObj bs) :: (x, instObj 161 dx) :: (dx, outD w bx t1) :: rest)) (hb : KBw.bInts bs = ks) (o1 : ∀ q ∈ rest, @Ne Nat q.1 x) (o2 : ∀ q ∈ rest, @Ne Nat q.1 dx) (o3 : ∀ q ∈ rest, @Ne Nat q.1 bx) (hn : n + 1 ≤ n') (hk : env.frame = some L ∧ env.scope.kind = .function)
    (ok : ∀ v t1 bs' h' tk, Fr h₀ L h' m → News h₀ L h' ((bx, baObj bs') :: (x, instObj 161 dx) :: (dx, outD w bx t1) :: rest) → R v → KBw.bInts bs' = ks' → Q v { s with heap := h', toks := tk })
    (er : exc → ∀ e h' tk, Exc base fr e h' → h₀.UpToSlots h' → E₀ (.ref e) { s with heap := h', toks := tk }) :
    wpAny (MD w) (A.deeper env) (call (.ref f) vs) Q
      (fun e s' => wpAny (MD w) (A.deeper env) (leaving env e) (fun _ s'' => E₀ e s'') (fun e' s'' => E₁ e' s'') s') s := by
  obtain ⟨i1, i2⟩ := outIn N
  rw [hb] at i2
  refine use h S B F N i1 hn hk i2 (fun v h' tk K F' P => ?_) er
  obtain ⟨t, b, N', e⟩ := outKeep N o1 o2 o3 K P.2
  exact ok v t b h' tk F' N' P.1 e
end
set_option maxHeartbeats 1000000 in
theorem w8 (x dx bx : Addr) (h3 : Out3 x dx bx) (ks : List Int) (hz : ks.length ≤ 900000) (n : Int) (tn : Tok) (hn1 : -1099511627776 ≤ n) (hn2 : n ≤ 1099511627776) : SpecC w mean mg mb 10 81 [.ref x, .int n tn] [x, dx, bx]
    (fun h => OutIs w h x dx bx ks) (fun _ v h' => (v = .none ∧ 0 ≤ n ∧ n < 256 ^ 1) ∧ OutIs w h' x dx bx (ks ++ leL n 1)) (¬ (0 ≤ n ∧ n < 256 ^ 1)) := by
  intro A base fr s Q E S hpre ok er
  obtain ⟨t1, bs, hx, hdx, hbx, hb⟩ := hpre
  obtain ⟨d1, d2, d3⟩ := h3
  have hsz : bs.size = ks.length := by rw [← hb, KBw.ints_length]
  refine enterW (binds := [(Str.ofString "self", .ref x), (Str.ofString "n", .int n tn)]) [(x, instObj 161 dx), (dx, outD w bx t1), (bx, baObj bs)] S (List.forall_mem_cons.mpr ⟨hx, List.forall_mem_cons.mpr ⟨hdx, List.forall_mem_cons.mpr ⟨hbx, List.forall_mem_nil _⟩⟩⟩) (by k_is) (by k_is) (BindsTo.of_eq rfl) (locs rfl) er ?_ rfl rfl rfl (by decide)
  intro g L h₁ gk lt B X T F N sz hE
  (try dsimp only)
  refine C_execs (C_Expr (C_callName ?_))
  k_fold
  k_steps
  refine C_callK (K := hd.heap_1 w.params) (by k_is) ?_
  k_fold
  k_steps
  (rename Fr _ _ _ _ => fE; rename News _ _ _ _ => nE)
  show wpC _ _ (call (Value.ref 60) [_, _, _]) _ _ _
  refine useBa (putNumber bs bx n tn _ 1 (by decide) (by omega) hn1 hn2) S B fE (News.perm' nE (news' := [(bx, _), (x, _), (dx, _)]) (List.forall_mem_cons.mpr ⟨.tail _ (.tail _ (.head _)), List.forall_mem_cons.mpr ⟨.head _, List.forall_mem_cons.mpr ⟨.tail _ (.head _), List.forall_mem_nil _⟩⟩⟩)) (List.forall_mem_cons.mpr ⟨d2, List.forall_mem_cons.mpr ⟨d3, List.forall_mem_nil _⟩⟩) (by decide) ⟨rfl, rfl⟩ ?_ hE
  intro bs' h' tk' F' N' R' hb'
  rw [hb] at hb'
  refine C_nil ?_
  exact ok _ _ _ (Fr.kept gk F') ⟨⟨rfl, R'⟩, _, bs', (N' _ (.tail _ (.head _))).1, (N' _ (.tail _ (.tail _ (.head _)))).1, (N' _ (.head _)).1, hb'⟩
set_option maxHeartbeats 1000000 in
theorem w16 (x dx bx : Addr) (h3 : Out3 x dx bx) (ks : List Int) (hz : ks.length ≤ 900000) (n : Int) (tn : Tok) (hn1 : -1099511627776 ≤ n) (hn2 : n ≤ 1099511627776) : SpecC w mean mg mb 10 88 [.ref x, .int n tn] [x, dx, bx]
    (fun h => OutIs w h x dx bx ks) (fun _ v h' => (v = .none ∧ 0 ≤ n ∧ n < 256 ^ 2) ∧ OutIs w h' x dx bx (ks ++ leL n 2)) (¬ (0 ≤ n ∧ n < 256 ^ 2)) := by
  intro A base fr s Q E S hpre ok er
  obtain ⟨t1, bs, hx, hdx, hbx, hb⟩ := hpre
  obtain ⟨d1, d2, d3⟩ := h3
  have hsz : bs.size = ks.length := by rw [← hb, KBw.ints_length]
  refine enterW (binds := [(Str.ofString "self", .ref x), (Str.ofString "n", .int n tn)]) [(x, instObj 161 dx), (dx, outD w bx t1), (bx, baObj bs)] S (List.forall_mem_cons.mpr ⟨hx, List.forall_mem_cons.mpr ⟨hdx, List.forall_mem_cons.mpr ⟨hbx, List.forall_mem_nil _⟩⟩⟩) (by k_is) (by k_is) (BindsTo.of_eq rfl) (locs rfl) er ?_ rfl rfl rfl (by decide)
  intro g L h₁ gk lt B X T F N sz hE
  (try dsimp only)
  refine C_execs (C_Expr (C_callName ?_))
  k_fold
  k_steps
  refine C_callK (K := hd.heap_1 w.params) (by k_is) ?_
  k_fold
  k_steps
  (rename Fr _ _ _ _ => fE; rename News _ _ _ _ => nE)
  show wpC _ _ (call (Value.ref 60) [_, _, _]) _ _ _
  refine useBa (putNumber bs bx n tn _ 2 (by decide) (by omega) hn1 hn2) S B fE (News.perm' nE (news' := [(bx, _), (x, _), (dx, _)]) (List.forall_mem_cons.mpr ⟨.tail _ (.tail _ (.head _)), List.forall_mem_cons.mpr ⟨.head _, List.forall_mem_cons.mpr ⟨.tail _ (.head _), List.forall_mem_nil _⟩⟩⟩)) (List.forall_mem_cons.mpr ⟨d2, List.forall_mem_cons.mpr ⟨d3, List.forall_mem_nil _⟩⟩) (by decide) ⟨rfl, rfl⟩ ?_ hE
  intro bs' h' tk' F' N' R' hb'
  rw [hb] at hb'
  refine C_nil ?_
  exact ok _ _ _ (Fr.kept gk F') ⟨⟨rfl, R'⟩, _, bs', (N' _ (.tail _ (.head _))).1, (N' _ (.tail _ (.tail _ (.head _)))).1, (N' _ (.head _)).1, hb'⟩
set_option maxHeartbeats 1000000 in
theorem w32 (x dx bx : Addr) (h3 : Out3 x dx bx) (ks : List Int) (hz : ks.length ≤ 900000) (n : Int) (tn : Tok) (hn1 : -1099511627776 ≤ n) (hn2 : n ≤ 1099511627776) : SpecC w mean mg mb 10 95 [.ref x, .int n tn] [x, dx, bx]
    (fun h => OutIs w h x dx bx ks) (fun _ v h' => (v = .none ∧ 0 ≤ n ∧ n < 256 ^ 4) ∧ OutIs w h' x dx bx (ks ++ leL n 4)) (¬ (0 ≤ n ∧ n < 256 ^ 4)) := by
  intro A base fr s Q E S hpre ok er
  obtain ⟨t1, bs, hx, hdx, hbx, hb⟩ := hpre
  obtain ⟨d1, d2, d3⟩ := h3
  have hsz : bs.size = ks.length := by rw [← hb, KBw.ints_length]
  refine enterW (binds := [(Str.ofString "self", .ref x), (Str.ofString "n", .int n tn)]) [(x, instObj 161 dx), (dx, outD w bx t1), (bx, baObj bs)] S (List.forall_mem_cons.mpr ⟨hx, List.forall_mem_cons.mpr ⟨hdx, List.forall_mem_cons.mpr ⟨hbx, List.forall_mem_nil _⟩⟩⟩) (by k_is) (by k_is) (BindsTo.of_eq rfl) (locs rfl) er ?_ rfl rfl rfl (by decide)
  intro g L h₁ gk lt B X T F N sz hE
  (try dsimp only)
  refine C_execs (C_Expr (C_callName ?_))
  k_fold
  k_steps
  refine C_callK (K := hd.heap_1 w.params) (by k_is) ?_
  k_fold
  k_steps
  (rename Fr _ _ _ _ => fE; rename News _ _ _ _ => nE)
  show wpC _ _ (call (Value.ref 60) [_, _, _]) _ _ _
  refine useBa (putNumber bs bx n tn _ 4 (by decide) (by omega) hn1 hn2) S B fE (News.perm' nE (news' := [(bx, _), (x, _), (dx, _)]) (List.forall_mem_cons.mpr ⟨.tail _ (.tail _ (.head _)), List.forall_mem_cons.mpr ⟨.head _, List.forall_mem_cons.mpr ⟨.tail _ (.head _), List.forall_mem_nil _⟩⟩⟩)) (List.forall_mem_cons.mpr ⟨d2, List.forall_mem_cons.mpr ⟨d3, List.forall_mem_nil _⟩⟩) (by decide) ⟨rfl, rfl⟩ ?_ hE
  intro bs' h' tk' F' N' R' hb'
  rw [hb] at hb'
  refine C_nil ?_
  exact ok _ _ _ (Fr.kept gk F') ⟨⟨rfl, R'⟩, _, bs', (N' _ (.tail _ (.head _))).1, (N' _ (.tail _ (.tail _ (.head _)))).1, (N' _ (.head _)).1, hb'⟩
end
section
open PySem PySem.W PySem.Calls PyProof.Rows
open Builtin Builtin.ObjectAttr
section
variable {prog : Program} {w : World} {A : Around} {C : Addr} {R : Result → Shared → Prop} {h : Heap} {g : Array GenState} {d : Drawn} {t : Nat} {os : OsState}
theorem codeC_call_builtin_at {s : Shared} {id : String} {args : Args} {b : Builtin} (hd : dirtyIds.contains id = false) (hq : (Code.builtin id args).quiet = true) (hb : entryFor table id = some b)
    (h : wpAny (model prog w) A.in1 (checkBuiltinCall id args) (fun _ s₁ => wpC (model prog w) (A.under (.builtin id args)) (b args)
      (fun fin s' => match fin with | .done f => R (.ok f) s' | .again c' => c'.quiet = true ∧ codeC (model prog w) A c' R s') (fun e s' => R (.error e) s') s₁)
      (fun e s' => R (.error e) s') s) : codeC (model prog w) A (.call (.builtin id) args) R s := by
  refine codeC_of_tree rfl ?_
  show wpC _ A.in1 (do checkBuiltinCall id args; again (.builtin id args)) _ _ s
  exact wpC_bindA (wpAny_mono h (fun _ s₁ h₁ => wpC_pure (And.intro hq (codeC_builtin hd hb h₁))) fun _ _ h' => h')
theorem makeC_core {rest : List Value} {init : Value} (Y : Makes (model prog w) h C) (hi : Looks (model prog w) h (typeLookup (.ref C) "__init__") (some init))
    (hb : ∀ self, Looks (model prog w) h (bindSpecial init self) (init, [self])) (hne : (some init != some (Value.builtin "object.__init__")) = true ∨ (rest = [] ∧ ([] : List (Str × Value)) = []))
    (hq : codeC (model prog w) (A.under (.builtin "type.__call__" ⟨.ref C :: rest, []⟩)) (.call init ⟨.ref (h.objs.size + 1) :: rest, []⟩) (InitBack (h.objs.size + 1) R) ⟨(h.push emptyDict).push (instObj C h.objs.size), g, d, t, os⟩) :
    codeC (model prog w) A (.call (.ref C) ⟨rest, []⟩) R ⟨h, g, d, t, os⟩ := by
  have Y' := Y
  obtain ⟨⟨oc, od, cd, sl, hC, e1, e2, e4⟩, made, base, self, top, call, typ⟩ := Y
  refine codeC_of_tree rfl ?_
  show wpC _ _ (callAny (.ref C) _) _ _ _
  refine wpC_bindA (wpAny_load hC ?_)
  show wpC _ _ (callAny.viaDunder (.ref C) _) _ _ _
  unfold callAny.viaDunder
  refine wpC_bindA (call.at ?_)
  dsimp only
  rw [tc_bind]
  refine wpC_bindA (wpAny_pure (wpC_bindA (wpAny_pure ?_)))
  refine wpC_pure (a := Fin.again (.call (.builtin "type.__call__") ⟨.ref C :: rest, []⟩)) (And.intro rfl ?_)
  refine codeC_call_builtin_at (by decide +kernel) (Code.quiet_builtin _ (by decide +kernel)) entry_typeCall (check_slot tc_kind tc_split typ (tc_args _ _ _) ?_)
  unfold Builtin.«type.__call__»
  have hm : Looks (model prog w) h (mroOf (.ref C)) cd.mro := ((Looks.ld (part := none) hC).andThen .now).andThen .now
  have k : ∀ b o, h.get? b = some o → ((h.push emptyDict).push (instObj C h.objs.size)).get? b = some o := fun b o e => Heap.get?_push_of_some _ (Heap.get?_push_of_some _ e)
  have hx : ((h.push emptyDict).push (instObj C h.objs.size)).get? (h.objs.size + 1) = some (instObj C h.objs.size) := by heap_get
  have t1 : Looks (model prog w) ((h.push emptyDict).push (instObj C h.objs.size)) (typeOf (.ref (h.objs.size + 1))) (.ref C) := (Looks.ld hx).andThen .now
  have s1 := self.keeps k
  have i1 := hi.keeps k
  have b1 := (hb (.ref (h.objs.size + 1))).keeps k
  dsimp only
  refine wpC_ite_false rfl ?_
  refine wpC_bindA (hm.at ?_)
  rw [e4]
  refine wpC_ite_false rfl ?_
  refine wpC_bindA (made.at ?_)
  dsimp only
  refine wpC_bindA (wpAny_pure ?_)
  refine wpC_bindA (wpAny_holding (wpAny_call (new_K Y' hi hne ?_)))
  unfold isInstance callSpecial? specialOf
  refine wpC_bindA (wpAny_bind (t1.at (s1.at ?_)))
  refine wpC_ite_false rfl ?_
  refine wpC_bind (wpC_holding ?_)
  refine wpC_bindA (wpAny_bind (t1.at (i1.at ?_)))
  dsimp only
  refine wpC_holding (wpC_bindA (b1.at ?_))
  refine wpC_bind (wpC_call (codeC_mono hq fun r s' z => ?_))
  rcases r with e | (v | _ | _ | _) <;> first | exact z | exact z.elim | skip
  obtain ⟨rfl, z⟩ := z
  refine wpC_pure ?_
  exact wpC_ite_false (by decide) (wpC_pure z)
theorem makeC {K : Frag} {s : Shared} {h₀ : Heap} {L : Addr} {m : Str → Option Value} {news : List (Addr × Obj)} {rest : List Value} {fI : Addr} (F : Fr h₀ L s.heap m) (N : News h₀ L s.heap news) (X : K.In s.heap) (hm : makesIn K C = true)
    (hi : findIn K (.ref C) "__init__" = some (some (.ref fI))) (hf : typeIn K (.ref fI) = some (.type "function"))
    (h : ∀ x dx h', Fr h₀ L h' m → News h₀ L h' ((x, instObj C dx) :: (dx, emptyDict) :: news) → (∀ p ∈ news, p.1 < dx) → dx < x →
      codeC (model prog w) (A.under (.builtin "type.__call__" ⟨.ref C :: rest, []⟩)) (.call (.ref fI) ⟨.ref x :: rest, []⟩) (InitBack x R) { s with heap := h' }) :
    codeC (model prog w) A (.call (.ref C) ⟨rest, []⟩) R s := by
  obtain ⟨hh, g, d, t, os⟩ := s
  refine makeC_core (makes_of X hm) (looks_findIn X hi) (fun self => bind_fn X self hf) (.inl rfl) (h _ hh.objs.size _ ((F.push _).push _) ?_ (fun p hp => Heap.lt_size (N p hp).1) (Nat.lt_succ_self _))
  have := (N.push F emptyDict).push (F.push _) (instObj C hh.objs.size)
  rwa [Heap.size_push] at this
end
end
section
open PySem PySem.W PySem.Calls PyProof.Rows
variable {w : World} {mean : ExcName → Option Value} {mg mb : Str → Option Value}
set_option maxHeartbeats 1000000 in
theorem wSize (x dx bx : Addr) (h3 : Out3 x dx bx) (ks : List Int) (hz : ks.length ≤ 900000) : Spec w mean mg mb 9 151 [.ref x] [x, dx, bx]
    (fun h => OutIs w h x dx bx ks) (fun _ v h' => (∃ tv, v = .int (ks.length : Int) tv) ∧ OutIs w h' x dx bx ks) False := by
  intro A base fr s Q E S hpre ok er
  obtain ⟨t1, bs, hx, hdx, hbx, hb⟩ := hpre
  obtain ⟨d1, d2, d3⟩ := h3
  have hsz : bs.size = ks.length := by rw [← hb, KBw.ints_length]
  refine enter (binds := [(Str.ofString "self", .ref x)]) [(x, instObj 161 dx), (dx, outD w bx t1), (bx, baObj bs)] S (List.forall_mem_cons.mpr ⟨hx, List.forall_mem_cons.mpr ⟨hdx, List.forall_mem_cons.mpr ⟨hbx, List.forall_mem_nil _⟩⟩⟩) (by k_is) (by k_is) (BindsTo.of_eq rfl) (locs rfl) er ?_ rfl rfl rfl (by decide)
  intro g L h₁ gk lt B X T F N sz hE
  (try dsimp only)
  k_fold
  (repeat' (first | ((((with_reducible show wpAny _ _ (call (Value.builtin "len") [Value.ref _]) _ _ _); (rename News _ _ _ _ => nXZZ); (first | refine ba_len_call (nXZZ _ (.head _)).1 ?bal ?_ | refine ba_len_call (nXZZ _ (.tail _ (.head _))).1 ?bal ?_ | refine ba_len_call (nXZZ _ (.tail _ (.tail _ (.head _)))).1 ?bal ?_); (case bal => omega); intro tZZ kZZ)) <;> (try dsimp only)) | walk_at "ks"))
  (rename News _ _ _ _ => nE; rename Fr _ _ _ _ => fE)
  refine ok _ _ _ (Fr.kept gk fE) ⟨⟨_, congrArg (fun z => Value.int z _) (congrArg (fun z : Nat => (z : Int)) hsz)⟩, _, _, (nE _ (.head _)).1, (nE _ (.tail _ (.head _))).1, (nE _ (.tail _ (.tail _ (.head _)))).1, hb⟩
set_option maxHeartbeats 1000000 in
theorem wDone (x dx bx : Addr) (h3 : Out3 x dx bx) (ks : List Int) (hz : ks.length ≤ 900000) : Spec w mean mg mb 9 158 [.ref x] [x, dx, bx]
    (fun h => OutIs w h x dx bx ks) (fun _ v h' => (∃ b tv, v = .bytes b tv ∧ KBw.bInts b = ks) ∧ OutIs w h' x dx bx ks) False := by
  intro A base fr s Q E S hpre ok er
  obtain ⟨t1, bs, hx, hdx, hbx, hb⟩ := hpre
  obtain ⟨d1, d2, d3⟩ := h3
  have hsz : bs.size = ks.length := by rw [← hb, KBw.ints_length]
  refine enter (binds := [(Str.ofString "self", .ref x)]) [(x, instObj 161 dx), (dx, outD w bx t1), (bx, baObj bs)] S (List.forall_mem_cons.mpr ⟨hx, List.forall_mem_cons.mpr ⟨hdx, List.forall_mem_cons.mpr ⟨hbx, List.forall_mem_nil _⟩⟩⟩) (by k_is) (by k_is) (BindsTo.of_eq rfl) (locs rfl) er ?_ rfl rfl rfl (by decide)
  intro g L h₁ gk lt B X T F N sz hE
  (try dsimp only)
  k_fold
  (repeat' (first | ((((with_reducible show wpAny _ _ (call (Value.type "bytes") [Value.ref _]) _ _ _); (rename News _ _ _ _ => nXZZ); (first | refine call_bytes_ba (nXZZ _ (.head _)).1 ?bal ?_ | refine call_bytes_ba (nXZZ _ (.tail _ (.head _))).1 ?bal ?_ | refine call_bytes_ba (nXZZ _ (.tail _ (.tail _ (.head _)))).1 ?bal ?_); (case bal => rw [sizeLine_eq]; omega); intro tZZ kZZ)) <;> (try dsimp only)) | walk_at "ks"))
  (rename News _ _ _ _ => nE; rename Fr _ _ _ _ => fE)
  refine ok _ _ _ (Fr.kept gk fE) ⟨⟨_, _, rfl, hb⟩, _, _, (nE _ (.head _)).1, (nE _ (.tail _ (.head _))).1, (nE _ (.tail _ (.tail _ (.head _)))).1, hb⟩
set_option maxHeartbeats 1000000 in
theorem wRaw (x dx bx : Addr) (h3 : Out3 x dx bx) (ks : List Int) (hz : ks.length ≤ 900000) (b : Array UInt8) (tb : Tok) (cs : List Int) (hcs : KBw.bInts b = cs) (hcz : cs.length ≤ 100000) : SpecC w mean mg mb 9 137 [.ref x, .bytes b tb] [x, dx, bx]
    (fun h => OutIs w h x dx bx ks) (fun _ v h' => v = .none ∧ OutIs w h' x dx bx (ks ++ cs)) False := by
  intro A base fr s Q E S hpre ok er
  obtain ⟨t1, bs, hx, hdx, hbx, hb⟩ := hpre
  obtain ⟨d1, d2, d3⟩ := h3
  have hsz : bs.size = ks.length := by rw [← hb, KBw.ints_length]
  refine enterW (binds := [(Str.ofString "self", .ref x), (Str.ofString "octets", .bytes b tb)]) [(x, instObj 161 dx), (dx, outD w bx t1), (bx, baObj bs)] S (List.forall_mem_cons.mpr ⟨hx, List.forall_mem_cons.mpr ⟨hdx, List.forall_mem_cons.mpr ⟨hbx, List.forall_mem_nil _⟩⟩⟩) (by k_is) (by k_is) (BindsTo.of_eq rfl) (locs rfl) er ?_ rfl rfl rfl (by decide)
  intro g L h₁ gk lt B X T F N sz hE
  (try dsimp only)
  refine C_execs (C_Expr (C_callAttr rfl rfl rfl ?_))
  k_fold
  k_steps
  (rename Fr _ _ _ _ => fE; rename News _ _ _ _ => nE)
  refine ba_getMethod ba_extend ba_ty_extend (nE _ (.tail _ (.tail _ (.head _)))).1 ?_
  refine C_callB ?_
  k_fold
  k_steps
  (rename Fr _ _ _ _ => fE2; rename News _ _ _ _ => nE2)
  have hb2 : b.size = cs.length := by rw [← hcs, KBw.ints_length]
  refine C_extend (nE2 _ (.tail _ (.tail _ (.head _)))).1 (by rw [sizeLine_eq]; omega) fun h' e1 e2 => ?_
  obtain ⟨F3, nE⟩ := same_fr fE2 (News.perm' nE2 (news' := [(bx, _), (x, _), (dx, _)]) (List.forall_mem_cons.mpr ⟨.tail _ (.tail _ (.head _)), List.forall_mem_cons.mpr ⟨.head _, List.forall_mem_cons.mpr ⟨.tail _ (.head _), List.forall_mem_nil _⟩⟩⟩)) (List.forall_mem_cons.mpr ⟨d2, List.forall_mem_cons.mpr ⟨d3, List.forall_mem_nil _⟩⟩) e1 e2
  refine C_nil ?_
  exact ok _ _ _ (Fr.kept gk F3) ⟨rfl, _, _, (nE _ (.tail _ (.head _))).1, (nE _ (.tail _ (.tail _ (.head _)))).1, (nE _ (.head _)).1, KBw.ints_app hb hcs⟩
end
section
open PySem PySem.W PySem.Calls PyProof.Rows
variable {w : World} {mean : ExcName → Option Value} {mg mb : Str → Option Value}
noncomputable def padN (n : Nat) : Nat := (4 - n % 4) % 4
theorem zero_push (bs : Array UInt8) : KBw.bInts (bs.push (0 : Int).toNat.toUInt8) = KBw.bInts bs ++ [0] := bInts_push bs 0 (by decide) (by decide)
set_option maxHeartbeats 1000000 in
theorem wPad (x dx bx : Addr) (h3 : Out3 x dx bx) (ks : List Int) (hz : ks.length ≤ 900000) (tt : Tok) : SpecC w mean mg mb 9 144 [.ref x, .int 4 tt] [x, dx, bx]
    (fun h => OutIs w h x dx bx ks) (fun _ v h' => v = .none ∧ OutIs w h' x dx bx (ks ++ List.replicate (padN ks.length) 0)) False := by
  intro A base fr s Q E S hpre ok er
  obtain ⟨t1, bs, hx, hdx, hbx, hb⟩ := hpre
  obtain ⟨d1, d2, d3⟩ := h3
  have hsz : bs.size = ks.length := by rw [← hb, KBw.ints_length]
  refine enterW (binds := [(Str.ofString "self", .ref x), (Str.ofString "to", .int 4 tt)]) [(x, instObj 161 dx), (dx, outD w bx t1), (bx, baObj bs)] S (List.forall_mem_cons.mpr ⟨hx, List.forall_mem_cons.mpr ⟨hdx, List.forall_mem_cons.mpr ⟨hbx, List.forall_mem_nil _⟩⟩⟩) (by k_is) (by k_is) (BindsTo.of_eq rfl) (locs rfl) er ?_ rfl rfl rfl (by decide)
  intro g L h₁ gk lt B X T F N sz hE
  (try dsimp only)
  refine C_execs (C_While (I := fun k s' => ∃ h tk bs' j, s' = { s with heap := h, toks := tk } ∧ Fr g L h (fun y => ([(Str.ofString "self", .ref x), (Str.ofString "to", .int 4 tt)] : List (Str × Value)).reverse.lookup y) ∧
      News g L h [(x, instObj 161 dx), (dx, outD w bx t1), (bx, baObj bs')] ∧ KBw.bInts bs' = ks ++ List.replicate j 0 ∧ j + k = padN ks.length) ?_ (padN ks.length) ⟨_, _, bs, 0, rfl, F, N, by simp [hb], by omega⟩ (by with_unfolding_all passes_own))
  rintro k s' ⟨h, tk, bs', j, rfl, F1, N1, hb1, hj⟩
  clear F N
  have hlen : bs'.size = ks.length + j := by rw [← KBw.ints_length, hb1, List.length_append, List.length_replicate]
  have hpad : padN ks.length < 4 := by unfold padN; omega
  have hmod : ((bs'.size : Int)).fmod 4 = ((bs'.size % 4 : Nat) : Int) := by rw [Int.fmod_eq_emod_of_nonneg _ (by decide)]; rfl
  show wpAny _ _ _ _ _ _
  k_fold
  (repeat' (first | ((((with_reducible show wpAny _ _ (call (Value.builtin "len") [Value.ref _]) _ _ _); (rename News _ _ _ _ => nXZZ); (first | refine ba_len_call (nXZZ _ (.head _)).1 ?bal ?_ | refine ba_len_call (nXZZ _ (.tail _ (.head _))).1 ?bal ?_ | refine ba_len_call (nXZZ _ (.tail _ (.tail _ (.head _)))).1 ?bal ?_); (case bal => omega); intro tZZ kZZ)) <;> (try dsimp only)) | walk_at "ks"))
  · refine C_execs (C_Expr (C_callAttr rfl rfl rfl ?_))
    k_fold
    k_steps
    (rename Fr _ _ _ _ => fE; rename News _ _ _ _ => nE)
    refine ba_getMethod ba_append ba_ty_append (nE _ (.tail _ (.tail _ (.head _)))).1 ?_
    refine C_callB ?_
    k_fold
    k_steps
    (rename Fr _ _ _ _ => fE2; rename News _ _ _ _ => nE2)
    refine C_append (n := 0) (nE2 _ (.tail _ (.tail _ (.head _)))).1 (by decide) (by decide) (by rw [sizeLine_eq]; omega) fun h' e1 e2 => ?_
    obtain ⟨F3, nE⟩ := same_fr fE2 (News.perm' nE2 (news' := [(bx, _), (x, _), (dx, _)]) (List.forall_mem_cons.mpr ⟨.tail _ (.tail _ (.head _)), List.forall_mem_cons.mpr ⟨.head _, List.forall_mem_cons.mpr ⟨.tail _ (.head _), List.forall_mem_nil _⟩⟩⟩)) (List.forall_mem_cons.mpr ⟨d2, List.forall_mem_cons.mpr ⟨d3, List.forall_mem_nil _⟩⟩) e1 e2
    rename (bs'.size : Int).fmod 4 ≠ 0 => hq
    rw [hmod] at hq
    have hj4 : j < padN ks.length := by unfold padN at hj hpad ⊢; omega
    refine C_nil ⟨rfl, k - 1, by omega, _, _, _, j + 1, rfl, F3, News.perm' nE (List.forall_mem_cons.mpr ⟨.tail _ (.head _), List.forall_mem_cons.mpr ⟨.tail _ (.tail _ (.head _)), List.forall_mem_cons.mpr ⟨.head _, List.forall_mem_nil _⟩⟩⟩), ?_, by omega⟩
    rw [zero_push, hb1, List.replicate_succ', List.append_assoc]
  · refine C_nil ?_
    (rename Fr _ _ _ _ => fE; rename News _ _ _ _ => nE)
    rename (bs'.size : Int).fmod 4 = 0 => hq
    rw [hmod] at hq
    have hj4 : j = padN ks.length := by unfold padN at hj hpad ⊢; omega
    refine ok _ _ _ (Fr.kept gk fE) ⟨rfl, _, _, (nE _ (.head _)).1, (nE _ (.tail _ (.head _))).1, (nE _ (.tail _ (.tail _ (.head _)))).1, by rw [hb1, hj4]⟩
section
variable {M : Model} {A : Around} {E : Value → Shared → Prop} {s : Shared} {env : Env} {Q : Value → Shared → Prop}
theorem C_callT0 {pos : Pos} {T : String} {first : List Value} (h : wpC M A (call (.type T) (first ++ [])) Q E s) : wpC M A (callWith pos (.type T) first (backTo pos (starEach [] env)) []) Q E s :=
  C_callWith (P := fun _ => True) rfl (fun _ _ => ⟨.machine, .inr (.inl rfl), .now⟩) (evalArgs_nil3 ⟨trivial, h⟩)
end
theorem grow_fr {h₀ h h' : Heap} {L : Addr} {m : Str → Option Value} {news : List (Addr × Obj)} {o : Obj} (F : Fr h₀ L h m) (N : News h₀ L h news) (hb : h'.get? h.objs.size = some o) (k : ∀ b o, h.get? b = some o → h'.get? b = some o) :
    Fr h₀ L h' m ∧ News h₀ L h' ((h.objs.size, o) :: news) ∧ (∀ q ∈ news, @Ne Nat q.1 h.objs.size) := by
  refine ⟨⟨F.ns.at' fun o e => k _ o e, fun b o e => k _ _ (F.keep b o e), F.above⟩, List.forall_mem_cons.mpr ⟨⟨hb, ?_, next_is_new F⟩, fun q hq => ⟨k _ _ (N q hq).1, (N q hq).2⟩⟩, fun q hq => Nat.ne_of_lt (Heap.lt_size (N q hq).1)⟩
  exact fun e => absurd F.ns.lt (e ▸ Nat.lt_irrefl _)
set_option maxHeartbeats 1000000 in
theorem outInit {n : Nat} {A : Around} {base : Heap} {fr : List Env} {s : Shared} {Q E : Value → Shared → Prop} (x dx : Addr) (hne : @Ne Nat x dx)
    (S : Site w mean mg mb (n + 1) A base fr s [x, dx]) (hx : s.heap.get? x = some (instObj 161 dx)) (hdx : s.heap.get? dx = some emptyDict)
    (ok : ∀ bx h' tk, KeepBut [x, dx] s.heap h' → s.heap.get? bx = none → OutIs w h' x dx bx [] → Q .none { s with heap := h', toks := tk }) :
    codeC (MD w) A (.call (.ref 74) ⟨[.ref x], []⟩) (fun r s' => match r with | .ok (.ret v) => Q v s' | .ok _ => False | .error e => E e s') s := by
  refine enterWK (binds := [(Str.ofString "self", .ref x)]) [(x, instObj 161 dx), (dx, emptyDict)] S (List.forall_mem_cons.mpr ⟨hx, List.forall_mem_cons.mpr ⟨hdx, List.forall_mem_nil _⟩⟩) (by k_is) (by k_is) (BindsTo.of_eq rfl) (locs rfl) (exc := False) (fun q => q.elim) ?_ rfl rfl rfl (by decide)
  intro g L h₁ gk lt B X T F N sz hE
  (try dsimp only)
  refine C_execs (C_AssignAttr (C_callName ?_))
  k_fold
  k_steps
  refine C_callT0 (C_bytearray fun h' e1 e2 => ?_)
  (rename Fr _ _ _ _ => fE; rename News _ _ _ _ => nE)
  obtain ⟨F2, N2, n2⟩ := grow_fr fE nE e1 e2
  have m1 := n2 _ (.head _)
  have m2 := n2 _ (.tail _ (.head _))
  clear fE nE
  show wpAny _ _ _ _ _ _
  k_fold
  k_steps
  refine C_nil ?_
  (rename Fr _ _ _ _ => fE; rename News _ _ _ _ => nE)
  exact ok _ _ _ (Fr.kept gk fE) (freshOf' gk (nE _ (.head _)).2.2 (by intro hm; rcases List.mem_cons.mp hm with e | hm; exact m1 e.symm; exact m2 (List.mem_singleton.mp hm).symm)) ⟨_, #[], (nE _ (.tail _ (.head _))).1, (nE _ (.tail _ (.tail _ (.head _)))).1, (nE _ (.head _)).1, rfl⟩
theorem mkO_in {w : World} : makesIn (hd.heap_1 w.params) 161 = true := by k_is
theorem mkO_init {w : World} : findIn (hd.heap_1 w.params) (.ref 161) "__init__" = some (some (.ref 74)) := by k_is
theorem mkO_fn {w : World} : typeIn (hd.heap_1 w.params) (.ref 74) = some (.type "function") := by k_is
theorem makeOut {n' : Nat} {A : Around} {base h₀ : Heap} {fr : List Env} {s s₀ : Shared} {L : Addr} {m : Str → Option Value} {env : Env} {news : List (Addr × Obj)} {D₀ : List Addr} {Q E : Value → Shared → Prop}
    (S : Site w mean mg mb n' A base fr s₀ D₀) (B : Below A base fr h₀) (F : Fr h₀ L s.heap m) (N : News h₀ L s.heap news) (hn : 3 ≤ n') (hkk : env.frame = some L ∧ env.scope.kind = .function)
    (ok : ∀ x dx bx t1 bs h' tk, Fr h₀ L h' m → News h₀ L h' ((bx, baObj bs) :: (x, instObj 161 dx) :: (dx, outD w bx t1) :: news) → KBw.bInts bs = [] → Out3 x dx bx → (∀ p ∈ news, @Ne Nat p.1 x) → (∀ p ∈ news, @Ne Nat p.1 dx) → (∀ p ∈ news, @Ne Nat p.1 bx) → Q (.ref x) { s with heap := h', toks := tk }) :
    wpC (MD w) (A.deeper env) (call (.ref 161) []) Q E s := by
  refine wpC_call (makeC F N ((S.K.keeps B.stays).keeps F.keep) mkO_in mkO_init mkO_fn fun x dx h' F' N' l1 l2 => ?_)
  have S1 := Site.body (s := { s with heap := h' }) (env := env) (D := [x, dx]) (n := 2) S B F' N' (fun d hd => by
    rcases List.mem_cons.mp hd with rfl | hd
    · exact .head _
    · rcases List.mem_cons.mp hd with rfl | hd
      · exact .tail _ (.head _)
      · nomatch hd) hkk (by omega)
  have S2 := Site.underMake (n := 1) (s' := { s with heap := h' }) (vs := []) (C := 161) S1 (fun _ _ q => q) S1.fresh S1.apart
  refine codeC_mono (outInit (n := 0) (s := { s with heap := h' }) (Q := fun v s' => v = .none ∧ Q (.ref x) s') (E := E) x dx (Nat.ne_of_gt l2) S2 (N' _ (.head _)).1 (N' _ (.tail _ (.head _))).1 fun bx h2 tk2 K2 f2 I2 => ⟨rfl, ?_⟩) fun r s' hr => ?_
  · obtain ⟨t1, bs, o1, o2, o3, o4⟩ := I2
    have hD : ∀ d ∈ [x, dx], d ∈ ((x, instObj 161 dx) :: (dx, emptyDict) :: news).map (·.1) := fun d hd => by
      rcases List.mem_cons.mp hd with rfl | hd
      · exact .head _
      · rcases List.mem_cons.mp hd with rfl | hd
        · exact .tail _ (.head _)
        · nomatch hd
    have fb := newAt' (s := { s with heap := h' }) F' N' f2
    have b1 := fb.2.2 _ (.head _)
    have b2 := fb.2.2 _ (.tail _ (.head _))
    refine ok x dx bx t1 bs h2 tk2 (Fr.keepBut (s := { s with heap := h' }) F' N' (D := [x, dx]) hD K2) (List.forall_mem_cons.mpr ⟨⟨o3, fb.1, fb.2.1⟩, List.forall_mem_cons.mpr ⟨⟨o1, (N' _ (.head _)).2⟩, List.forall_mem_cons.mpr ⟨⟨o2, (N' _ (.tail _ (.head _))).2⟩, ?_⟩⟩⟩) o4 ⟨Nat.ne_of_gt l2, b1, b2⟩
      (fun p hp => Nat.ne_of_lt (Nat.lt_trans (l1 p hp) l2)) (fun p hp => Nat.ne_of_lt (l1 p hp)) (fun p hp => fb.2.2 p (.tail _ (.tail _ hp)))
    refine News.keepBut (s := { s with heap := h' }) N' K2 fun q hq => ⟨.tail _ (.tail _ hq), fun hm => ?_⟩
    rcases List.mem_cons.mp hm with e | hm
    · exact Nat.ne_of_lt (Nat.lt_trans (l1 q hq) l2) e
    · rcases List.mem_cons.mp hm with e | hm
      · exact Nat.ne_of_lt (l1 q hq) e
      · nomatch hm
  · cases r with
    | error e => exact hr
    | ok fl => cases fl <;> first | exact hr | exact hr.elim
end
section
open PySem PySem.W PySem.Calls PyProof.Rows
variable {w : World} {mean : ExcName → Option Value} {mg mb : Str → Option Value}
/-- a list of rows that stands -/
noncomputable def SecsAt (h : Heap) (sr : Addr) (rows : List (List Int)) : Prop := ∃ (vs : List Value) (cap : Nat), h.get? sr = some (listO vs cap) ∧ RowsAt (fun a o => h.get? a = some o) vs rows
theorem RowsAt.imp {P P' : Addr → Obj → Prop} {vs : List Value} {rows : List (List Int)} (h : RowsAt P vs rows) (k : ∀ a o row, P a o → IsRow o row → P' a o) : RowsAt P' vs rows := by
  induction h with
  | nil => exact .nil
  | cons p r _ ih => exact .cons (k _ _ _ p r) r ih
theorem RowsAt.get {P : Addr → Obj → Prop} {vs : List Value} {rows : List (List Int)} (h : RowsAt P vs rows) : ∀ (i : Nat) (v : Value), vs[i]? = some v → ∃ a o row, v = .ref a ∧ P a o ∧ IsRow o row ∧ rows[i]? = some row := by
  induction h with
  | nil => intro i v e; simp at e
  | cons p r _ ih =>
    intro i v e
    cases i with
    | zero => simp at e; exact ⟨_, _, _, e.symm, p, r, by simp⟩
    | succ i => simp at e; obtain ⟨a, o, row, e1, e2, e3, e4⟩ := ih i v e; exact ⟨a, o, row, e1, e2, e3, by simpa using e4⟩
noncomputable def Plainless (h : Heap) (D : List Addr) : Prop := ∀ d ∈ D, ∀ o, h.get? d = some o → o.cls ≠ .type "list" ∧ o.cls ≠ .type "tuple"
theorem SecsAt.move {h g : Heap} {D : List Addr} {sr : Addr} {rows : List (List Int)} (x : SecsAt h sr rows) (k : ∀ b o, b ∉ D → h.get? b = some o → g.get? b = some o) (pl : Plainless h D) : SecsAt g sr rows := by
  obtain ⟨vs, cap, h1, h2⟩ := x
  refine ⟨vs, cap, k _ _ (fun hm => (pl _ hm _ h1).1 rfl) h1, h2.imp fun a o row p r => k _ _ (fun hm => ?_) p⟩
  obtain ⟨vs', rfl, _⟩ := r
  exact (pl _ hm _ p).2 rfl
theorem SecsAt.keeps {h g : Heap} {sr : Addr} {rows : List (List Int)} (x : SecsAt h sr rows) (k : ∀ b o, h.get? b = some o → g.get? b = some o) : SecsAt g sr rows := by
  obtain ⟨vs, cap, h1, h2⟩ := x
  exact ⟨vs, cap, k _ _ h1, h2.imp fun a o row p _ => k _ _ p⟩
theorem outPlain {h : Heap} {x dx bx : Addr} {t1 : Tok} {bs : Array UInt8} (hx : h.get? x = some (instObj 161 dx)) (hdx : h.get? dx = some (outD w bx t1)) (hbx : h.get? bx = some (baObj bs)) : Plainless h [x, dx, bx] := by
  intro d hd o ho
  simp only [List.mem_cons, List.not_mem_nil, or_false] at hd
  rcases hd with rfl | rfl | rfl
  · rw [hx] at ho; cases ho; exact ⟨by simp, by simp⟩
  · rw [hdx] at ho; cases ho; exact ⟨by simp, by simp⟩
  · rw [hbx] at ho; cases ho; exact ⟨by simp, by simp⟩
/-- rows of six numbers of some size -/
noncomputable def Rows6 (rows : List (List Int)) : Prop := ∀ row ∈ rows, row.length = 6 ∧ ∀ n ∈ row, -1099511627776 ≤ n ∧ n ≤ 1099511627776
theorem six {α : Type} : ∀ {l : List α}, l.length = 6 → ∃ a b c d e f, l = [a, b, c, d, e, f]
  | [a, b, c, d, e, f], _ => ⟨a, b, c, d, e, f, rfl⟩
noncomputable def fits (n : Int) (c : Nat) : Prop := 0 ≤ n ∧ n < 256 ^ c
noncomputable def smallRowOk (row : List Int) : Prop := okSort (row.getD 0 0) ∧ fits (row.getD 0 0) 2 ∧ fits (row.getD 1 0) 2 ∧ fits (row.getD 2 0) 1 ∧ fits (row.getD 3 0) 2 ∧ fits (row.getD 4 0) 1 ∧ fits (row.getD 5 0) 4
noncomputable def smallRowB (row : List Int) : List Int := leL (row.getD 0 0) 2 ++ (leL (row.getD 1 0) 2 ++ (leL (row.getD 2 0) 1 ++ (leL (row.getD 3 0) 2 ++ (leL (row.getD 4 0) 1 ++ leL (row.getD 5 0) 4))))
noncomputable def smallB (rows : List (List Int)) : List Int := leL 1 1 ++ (leL (12 * (rows.length : Int) + 4) 1 ++ (leL 0 2 ++ rows.flatMap smallRowB))
noncomputable def fatRowOk (row : List Int) : Prop := okSort (row.getD 0 0) ∧ ∀ n ∈ row, fits n 4
noncomputable def fatRowB (row : List Int) : List Int := row.flatMap fun n => leL n 4
noncomputable def fatB (rows : List (List Int)) : List Int := leL 65 1 ++ (leL ((24 * (rows.length : Int) + 4) % 256) 1 ++ (leL ((24 * (rows.length : Int) + 4) / 256) 2 ++ rows.flatMap fatRowB))
theorem smallRowB_len (row : List Int) : (smallRowB row).length = 12 := by simp [smallRowB, leL_length]
theorem flat_len {f : List Int → List Int} {n : Nat} (h : ∀ r, (f r).length = n) : ∀ rows : List (List Int), (rows.flatMap f).length = n * rows.length
  | [] => by simp
  | r :: rows => by rw [List.flatMap_cons, List.length_append, h, flat_len h rows, List.length_cons, Nat.mul_succ, Nat.add_comm]
theorem take_snoc {α : Type} {l : List α} {i : Nat} {a : α} (h : l[i]? = some a) : l.take (i + 1) = l.take i ++ [a] := by
  obtain ⟨hi, rfl⟩ := List.getElem?_eq_some_iff.mp h
  rw [List.take_succ_eq_append_getElem hi]
section
variable {n n' : Nat} {A : Around} {base h₀ : Heap} {fr : List Env} {s s₀ : Shared} {L : Addr} {m : Str → Option Value} {env : Env} {rest : List (Addr × Obj)} {D₀ : List Addr} {Q E₀ E₁ : Value → Shared → Prop} {f : Addr} {vs : List Value} {exc : Prop} {R : Value → Prop}
    {x dx bx sr : Addr} {rows : List (List Int)} {t1 : Tok} {bs : Array UInt8} {ks ks' : List Int}
theorem useOutS (h : SpecC w mean mg mb n f vs [x, dx, bx] (fun h => OutIs w h x dx bx ks ∧ SecsAt h sr rows) (fun _ v h' => R v ∧ OutIs w h' x dx bx ks') exc) (S : Site w mean mg mb n' A base fr s₀ D₀) (B : Below A base fr h₀) (F : Fr h₀ L s.heap m) (hs : SecsAt h₀ sr rows)
    (N : News h₀ L s.heap ((bx, baObj bs) :: (x, instObj 161 dx) :: (dx, outD w bx t1) :: rest)) (hb : KBw.bInts bs = ks) (o1 : ∀ q ∈ rest, @Ne Nat q.1 x) (o2 : ∀ q ∈ rest, @Ne Nat q.1 dx) (o3 : ∀ q ∈ rest, @Ne Nat q.1 bx) (hn : n + 1 ≤ n') (hk : env.frame = some L ∧ env.scope.kind = .function)
    (ok : ∀ v t1 bs' h' tk, Fr h₀ L h' m → News h₀ L h' ((bx, baObj bs') :: (x, instObj 161 dx) :: (dx, outD w bx t1) :: rest) → R v → KBw.bInts bs' = ks' → Q v { s with heap := h', toks := tk })
    (er : exc → ∀ e h' tk, Exc base fr e h' → h₀.UpToSlots h' → E₀ (.ref e) { s with heap := h', toks := tk }) :
    wpC (MD w) (A.deeper env) (call (.ref f) vs) Q
      (fun e s' => wpAny (MD w) (A.deeper env) (leaving env e) (fun _ s'' => E₀ e s'') (fun e' s'' => E₁ e' s'') s') s := by
  obtain ⟨i1, i2⟩ := outIn N
  rw [hb] at i2
  refine useC h S B F N i1 hn hk ⟨i2, hs.keeps F.keep⟩ (fun v h' tk K F' P => ?_) er
  obtain ⟨t, b, N', e⟩ := outKeep N o1 o2 o3 K P.2
  exact ok v t b h' tk F' N' P.1 e
end
theorem len_old {prog : Program} {A : Around} {E : Value → Shared → Prop} {s : Shared} {g : Heap} {L r : Addr} {m : Str → Option Value} {vs : List Value} {Q : Value → Shared → Prop} (F : Fr g L s.heap m) (hl : g.IsList r vs.toArray) (hz : vs.length ≤ 1000000) (h : ∀ t k, Q (.int (vs.length : Int) t) { s with toks := k }) :
    wpAny (model prog w) A (call (.builtin "len") [.ref r]) Q E s := by
  have hl' : s.heap.IsList r vs.toArray := by obtain ⟨o, ho, q⟩ := hl; exact ⟨o, F.keep _ _ ho, q⟩
  refine len_list hl' (by simp; omega) ?_
  simpa using h _ _
theorem rowTup {g : Heap} {a : Addr} {o : Obj} {row : List Int} (ho : g.get? a = some o) (h : IsRow o row) (h6 : row.length = 6) :
    ∃ r0 r1 r2 r3 r4 r5 t0 t1 t2 t3 t4 t5, row = [r0, r1, r2, r3, r4, r5] ∧ IsTup g a #[.int r0 t0, .int r1 t1, .int r2 t2, .int r3 t3, .int r4 t4, .int r5 t5] := by
  obtain ⟨vs, rfl, hi⟩ := h
  obtain ⟨r0, r1, r2, r3, r4, r5, rfl⟩ := six h6
  cases hi with | cons _ _ h1 => cases h1 with | cons _ _ h2 => cases h2 with | cons _ _ h3 => cases h3 with | cons _ _ h4 => cases h4 with | cons _ _ h5 => cases h5 with | cons _ _ h6 => cases h6 with | nil => exact ⟨_, _, _, _, _, _, _, _, _, _, _, _, rfl, _, ho, rfl, _, rfl⟩
set_option maxHeartbeats 2000000 in
theorem writeSmall (x dx bx sr : Addr) (h3 : Out3 x dx bx) (ks : List Int) (hz : ks.length ≤ 100000) (rows : List (List Int)) (h6 : Rows6 rows) (hrl : rows.length ≤ 20) : SpecC w mean mg mb 12 306 [.ref x, .ref sr] [x, dx, bx]
    (fun h => OutIs w h x dx bx ks ∧ SecsAt h sr rows) (fun _ v h' => (v = .none ∧ ∀ row ∈ rows, smallRowOk row) ∧ OutIs w h' x dx bx (ks ++ smallB rows)) (¬ ∀ row ∈ rows, smallRowOk row) := by
  intro A base fr s Q E S hpre ok er
  obtain ⟨⟨t1, bs, hx, hdx, hbx, hb⟩, hsec⟩ := hpre
  have h3' := h3
  obtain ⟨d1, d2, d3⟩ := h3'
  refine enterW (binds := [(Str.ofString "out", .ref x), (Str.ofString "sections", .ref sr)]) [(x, instObj 161 dx), (dx, outD w bx t1), (bx, baObj bs)] S (List.forall_mem_cons.mpr ⟨hx, List.forall_mem_cons.mpr ⟨hdx, List.forall_mem_cons.mpr ⟨hbx, List.forall_mem_nil _⟩⟩⟩) (by k_is) (by k_is) (BindsTo.of_eq rfl) (locs rfl) er ?_ rfl rfl rfl (by decide)
  intro g L h₁ gk lt B X T F N sz hE
  have sec := hsec.move gk (outPlain hx hdx hbx)
  replace N := News.perm' N (news' := [(bx, baObj bs), (x, instObj 161 dx), (dx, outD w bx t1)]) (List.forall_mem_cons.mpr ⟨.tail _ (.tail _ (.head _)), List.forall_mem_cons.mpr ⟨.head _, List.forall_mem_cons.mpr ⟨.tail _ (.head _), List.forall_mem_nil _⟩⟩⟩)
  obtain ⟨vs, cap, hsr, hvs⟩ := sec
  have hvl := hvs.length
  have hlst : g.IsList sr vs.toArray := ⟨_, hsr, rfl, _, rfl⟩
  (try dsimp only)
  refine C_execs (C_Expr (C_callAttr rfl rfl rfl ?_))
  k_fold
  k_steps
  refine C_callK (K := hd.heap_1 w.params) (by k_is) ?_
  k_fold
  k_steps
  (rename Fr _ _ _ _ => fX; rename News _ _ _ _ => nX)
  show wpC _ _ (call (Value.ref 81) [_, Value.int _ _]) _ _ _
  refine useOut (w8 x dx bx h3 _ (by omega) 1 _ (by decide) (by decide)) S B fX nX hb (fun _ q => nomatch q) (fun _ q => nomatch q) (fun _ q => nomatch q) (by decide) ⟨rfl, rfl⟩ ?_ (fun q => absurd (by first | exact ⟨by decide, by decide⟩ | exact ⟨by omega, by omega⟩) q)
  intro v t1 bs1 hp1 tk1 fE nE R1 hb1
  obtain ⟨rfl, R1⟩ := R1
  clear fX nX
  refine C_execs (C_Expr (C_callAttr rfl rfl rfl ?_))
  k_fold
  k_steps
  refine C_callK (K := hd.heap_1 w.params) (by k_is) ?_
  k_fold
  (repeat' (first | ((with_reducible (((with_reducible show wpAny _ _ (call (Value.builtin "len") [Value.ref _]) _ _ _); refine len_old (by assumption) (by assumption) (by omega) ?_; intro tZZ kZZ))) <;> (try dsimp only)) | walk_at "ks"))
  (rename Fr _ _ _ _ => fX; rename News _ _ _ _ => nX)
  show wpC _ _ (call (Value.ref 81) [_, Value.int _ _]) _ _ _
  refine useOut (w8 x dx bx h3 _ (by simp only [List.length_append, leL_length]; omega) ((vs.length : Int) * 12 + 4) _ (by omega) (by omega)) S B fX nX hb1 (fun _ q => nomatch q) (fun _ q => nomatch q) (fun _ q => nomatch q) (by decide) ⟨rfl, rfl⟩ ?_ (fun q => absurd (by first | exact ⟨by decide, by decide⟩ | exact ⟨by omega, by omega⟩) q)
  intro v t2 bs2 hp2 tk2 fE nE R2 hb2
  obtain ⟨rfl, R2⟩ := R2
  clear fX nX
  refine C_execs (C_Expr (C_callAttr rfl rfl rfl ?_))
  k_fold
  k_steps
  refine C_callK (K := hd.heap_1 w.params) (by k_is) ?_
  k_fold
  k_steps
  (rename Fr _ _ _ _ => fX; rename News _ _ _ _ => nX)
  show wpC _ _ (call (Value.ref 88) [_, Value.int _ _]) _ _ _
  refine useOut (w16 x dx bx h3 _ (by simp only [List.length_append, leL_length]; omega) 0 _ (by decide) (by decide)) S B fX nX hb2 (fun _ q => nomatch q) (fun _ q => nomatch q) (fun _ q => nomatch q) (by decide) ⟨rfl, rfl⟩ ?_ (fun q => absurd (by first | exact ⟨by decide, by decide⟩ | exact ⟨by omega, by omega⟩) q)
  intro v t3 bs3 hp3 tk3 fE nE R3 hb3
  obtain ⟨rfl, R3⟩ := R3
  clear fX nX
  obtain ⟨P0, hP0⟩ : ∃ P0, P0 = ks ++ leL 1 1 ++ leL ((vs.length : Int) * 12 + 4) 1 ++ leL 0 2 := ⟨_, rfl⟩
  have hPl : P0.length = ks.length + 4 := by rw [hP0]; simp [leL_length]
  rw [← hP0] at hb3
  refine C_execs (C_For g rfl rfl ?_ (by with_unfolding_all passes_own))
  k_fold
  k_steps
  rename Fr _ _ _ _ => lF; rename News _ _ _ _ => lN
  refine C_iter_list (fun i m news => m (Str.ofString "out") = some (.ref x) ∧ ∃ b t, news = [(bx, baObj b), (x, instObj 161 dx), (dx, outD w bx t)] ∧ KBw.bInts b = P0 ++ (rows.take i).flatMap smallRowB ∧ ∀ row ∈ rows.take i, smallRowOk row) S.hh hlst lF lN (Nat.ne_of_gt (Nat.lt_of_lt_of_le (Heap.lt_size hsr) lF.above)) ⟨rfl, bs3, _, rfl, by simp [hb3], by simp⟩ ?_ ?_
  · intro I oI lI i v m₁ news₁ h tk0 hi hP hJ hI F1 N1
    obtain ⟨e1, b', t', rfl, hb', hok⟩ := hJ
    rw [List.getElem?_toArray] at hP
    obtain ⟨a, o, row, rfl, ho, hrow, hri⟩ := hvs.get i v hP
    have hmem : row ∈ rows := List.mem_of_getElem? hri
    obtain ⟨r0, r1, r2, r3, r4, r5, u0, u1, u2, u3, u4, u5, rfl, hT⟩ := rowTup ho hrow (h6 _ hmem).1
    have bd := (h6 _ hmem).2
    simp only [List.forall_mem_cons] at bd
    obtain ⟨b0, b1, b2, b3, b4, b5, _⟩ := bd
    have hi' : i < vs.length := by simpa using hi
    have n1 := hI _ (.head _)
    have n2 := hI _ (.tail _ (.head _))
    have n3 := hI _ (.tail _ (.tail _ (.head _)))
    have o1 : ∀ q ∈ [(I, oI)], @Ne Nat q.1 x := List.forall_mem_cons.mpr ⟨Ne.symm n2, List.forall_mem_nil _⟩
    have o2 : ∀ q ∈ [(I, oI)], @Ne Nat q.1 dx := List.forall_mem_cons.mpr ⟨Ne.symm n3, List.forall_mem_nil _⟩
    have o3 : ∀ q ∈ [(I, oI)], @Ne Nat q.1 bx := List.forall_mem_cons.mpr ⟨Ne.symm n1, List.forall_mem_nil _⟩
    have F2 : Fr g L h (fun y => if y = Str.ofString "row" then some (.ref a) else front [(Str.ofString "out", .ref x)] m₁ y) := by
      rw [front_eq (List.forall_mem_cons.mpr ⟨e1, List.forall_mem_nil _⟩)]; exact F1
    have N2 : News g L h [(bx, baObj b'), (x, instObj 161 dx), (dx, outD w bx t'), (I, oI)] := News.perm' N1 (List.forall_mem_cons.mpr ⟨.tail _ (.head _), List.forall_mem_cons.mpr ⟨.tail _ (.tail _ (.head _)), List.forall_mem_cons.mpr ⟨.tail _ (.tail _ (.tail _ (.head _))), List.forall_mem_cons.mpr ⟨.head _, List.forall_mem_nil _⟩⟩⟩⟩)
    clear F1 N1 lF lN
    obtain ⟨P1, hP1⟩ : ∃ P1, P1 = P0 ++ (rows.take i).flatMap smallRowB := ⟨_, rfl⟩
    have hPl1 : P1.length ≤ ks.length + 300 := by rw [hP1, List.length_append, flat_len smallRowB_len, List.length_take]; omega
    rw [← hP1] at hb'
    show wpC _ _ (execs ([_] ++ _) _) _ _ _
    refine C_block ?_
    k_fold
    (repeat' (first | ((with_reducible (((with_reducible show wpAny _ _ (subscriptTail _ _ (Value.ref _) (Value.int _ _)) _ _ _); refine item_tupleT (Fr.tup (by assumption) (by assumption)) (by decide) (by decide) rfl rfl ?_))) <;> (try dsimp only)) | (((with_reducible show wpAny _ _ (call (Value.ref _) _) _ _ _); ((show wpAny _ _ (call (Value.ref 151) [_]) _ _ _); (rename News _ _ _ _ => nXZZ); (refine useOutA (wSize _ _ _ (by assumption) _ ?hsz) (by assumption) (by assumption) (by assumption) nXZZ (by assumption) (by k_all) (by k_all) (by k_all) (by decide) ⟨rfl, rfl⟩ ?_ (fun q => q.elim)); (case hsz => omega); intro vZZ t1ZZ bsZZ hZZ tkZZ FZZ NZZ rZZ hbZZ; obtain ⟨tvZZ, hvZZ⟩ := rZZ; subst hvZZ)) <;> (try dsimp only)) | ((with_reducible (((with_reducible show wpAny _ _ (call (Value.ref 299) [Value.int _ _, Value.int _ _]) _ _ _); (refine useNone (checkSort _ _ _ _) (by assumption) (by assumption) (by assumption) (by assumption) (by decide) ⟨rfl, rfl⟩ ?_ ?_); rotate_left; (intro qZZ eZZ hZZ tkZZ XZZ UZZ); rotate_left; intro vZZ hZZ tkZZ FZZ NZZ rZZ; obtain ⟨hvZZ, r1ZZ⟩ := rZZ; subst hvZZ))) <;> (try dsimp only)) | walk_at "ks"))
    rotate_left
    · exact hE (fun hall => by rename ¬ okSort _ => q; exact q (hall _ hmem).1) _ _ _ (by assumption) (by assumption)
    rename okSort _ => hso
    rename KBw.bInts _ = P1 => hc0
    (rename Fr _ _ _ _ => fE; rename News _ _ _ _ => nE)
    clear F2 hb'
    refine C_execs (C_Expr (C_callAttr rfl rfl rfl ?_))
    k_fold
    k_steps
    refine C_callK (K := hd.heap_1 w.params) (by k_is) ?_
    k_fold
    (repeat' (first | ((with_reducible (((with_reducible show wpAny _ _ (subscriptTail _ _ (Value.ref _) (Value.int _ _)) _ _ _); refine item_tupleT (Fr.tup (by assumption) (by assumption)) (by decide) (by decide) rfl rfl ?_))) <;> (try dsimp only)) | walk_at "ks"))
    (rename Fr _ _ _ _ => fX; rename News _ _ _ _ => nX)
    show wpC _ _ (call (Value.ref 88) [_, Value.int _ _]) _ _ _
    refine useOut (w16 x dx bx h3 _ (by omega) r0 _ (by omega) (by omega)) S B fX nX hc0 o1 o2 o3 (by decide) ⟨rfl, rfl⟩ ?_ (fun q => hE fun hall => q (hall _ hmem).2.1)
    intro v tc1 bsc1 hpc1 tkc1 fE nE Rc1 hbc1
    obtain ⟨rfl, Rc1⟩ := Rc1
    clear fX nX
    refine C_execs (C_Expr (C_callAttr rfl rfl rfl ?_))
    k_fold
    k_steps
    refine C_callK (K := hd.heap_1 w.params) (by k_is) ?_
    k_fold
    (repeat' (first | ((with_reducible (((with_reducible show wpAny _ _ (subscriptTail _ _ (Value.ref _) (Value.int _ _)) _ _ _); refine item_tupleT (Fr.tup (by assumption) (by assumption)) (by decide) (by decide) rfl rfl ?_))) <;> (try dsimp only)) | walk_at "ks"))
    (rename Fr _ _ _ _ => fX; rename News _ _ _ _ => nX)
    show wpC _ _ (call (Value.ref 88) [_, Value.int _ _]) _ _ _
    refine useOut (w16 x dx bx h3 _ (by simp only [List.length_append, leL_length]; omega) r1 _ (by omega) (by omega)) S B fX nX hbc1 o1 o2 o3 (by decide) ⟨rfl, rfl⟩ ?_ (fun q => hE fun hall => q (hall _ hmem).2.2.1)
    intro v tc2 bsc2 hpc2 tkc2 fE nE Rc2 hbc2
    obtain ⟨rfl, Rc2⟩ := Rc2
    clear fX nX
    refine C_execs (C_Expr (C_callAttr rfl rfl rfl ?_))
    k_fold
    k_steps
    refine C_callK (K := hd.heap_1 w.params) (by k_is) ?_
    k_fold
    (repeat' (first | ((with_reducible (((with_reducible show wpAny _ _ (subscriptTail _ _ (Value.ref _) (Value.int _ _)) _ _ _); refine item_tupleT (Fr.tup (by assumption) (by assumption)) (by decide) (by decide) rfl rfl ?_))) <;> (try dsimp only)) | walk_at "ks"))
    (rename Fr _ _ _ _ => fX; rename News _ _ _ _ => nX)
    show wpC _ _ (call (Value.ref 81) [_, Value.int _ _]) _ _ _
    refine useOut (w8 x dx bx h3 _ (by simp only [List.length_append, leL_length]; omega) r2 _ (by omega) (by omega)) S B fX nX hbc2 o1 o2 o3 (by decide) ⟨rfl, rfl⟩ ?_ (fun q => hE fun hall => q (hall _ hmem).2.2.2.1)
    intro v tc3 bsc3 hpc3 tkc3 fE nE Rc3 hbc3
    obtain ⟨rfl, Rc3⟩ := Rc3
    clear fX nX
    refine C_execs (C_Expr (C_callAttr rfl rfl rfl ?_))
    k_fold
    k_steps
    refine C_callK (K := hd.heap_1 w.params) (by k_is) ?_
    k_fold
    (repeat' (first | ((with_reducible (((with_reducible show wpAny _ _ (subscriptTail _ _ (Value.ref _) (Value.int _ _)) _ _ _); refine item_tupleT (Fr.tup (by assumption) (by assumption)) (by decide) (by decide) rfl rfl ?_))) <;> (try dsimp only)) | walk_at "ks"))
    (rename Fr _ _ _ _ => fX; rename News _ _ _ _ => nX)
    show wpC _ _ (call (Value.ref 88) [_, Value.int _ _]) _ _ _
    refine useOut (w16 x dx bx h3 _ (by simp only [List.length_append, leL_length]; omega) r3 _ (by omega) (by omega)) S B fX nX hbc3 o1 o2 o3 (by decide) ⟨rfl, rfl⟩ ?_ (fun q => hE fun hall => q (hall _ hmem).2.2.2.2.1)
    intro v tc4 bsc4 hpc4 tkc4 fE nE Rc4 hbc4
    obtain ⟨rfl, Rc4⟩ := Rc4
    clear fX nX
    refine C_execs (C_Expr (C_callAttr rfl rfl rfl ?_))
    k_fold
    k_steps
    refine C_callK (K := hd.heap_1 w.params) (by k_is) ?_
    k_fold
    (repeat' (first | ((with_reducible (((with_reducible show wpAny _ _ (subscriptTail _ _ (Value.ref _) (Value.int _ _)) _ _ _); refine item_tupleT (Fr.tup (by assumption) (by assumption)) (by decide) (by decide) rfl rfl ?_))) <;> (try dsimp only)) | walk_at "ks"))
    (rename Fr _ _ _ _ => fX; rename News _ _ _ _ => nX)
    show wpC _ _ (call (Value.ref 81) [_, Value.int _ _]) _ _ _
    refine useOut (w8 x dx bx h3 _ (by simp only [List.length_append, leL_length]; omega) r4 _ (by omega) (by omega)) S B fX nX hbc4 o1 o2 o3 (by decide) ⟨rfl, rfl⟩ ?_ (fun q => hE fun hall => q (hall _ hmem).2.2.2.2.2.1)
    intro v tc5 bsc5 hpc5 tkc5 fE nE Rc5 hbc5
    obtain ⟨rfl, Rc5⟩ := Rc5
    clear fX nX
    refine C_execs (C_Expr (C_callAttr rfl rfl rfl ?_))
    k_fold
    k_steps
    refine C_callK (K := hd.heap_1 w.params) (by k_is) ?_
    k_fold
    (repeat' (first | ((with_reducible (((with_reducible show wpAny _ _ (subscriptTail _ _ (Value.ref _) (Value.int _ _)) _ _ _); refine item_tupleT (Fr.tup (by assumption) (by assumption)) (by decide) (by decide) rfl rfl ?_))) <;> (try dsimp only)) | walk_at "ks"))
    (rename Fr _ _ _ _ => fX; rename News _ _ _ _ => nX)
    show wpC _ _ (call (Value.ref 95) [_, Value.int _ _]) _ _ _
    refine useOut (w32 x dx bx h3 _ (by simp only [List.length_append, leL_length]; omega) r5 _ (by omega) (by omega)) S B fX nX hbc5 o1 o2 o3 (by decide) ⟨rfl, rfl⟩ ?_ (fun q => hE fun hall => q (hall _ hmem).2.2.2.2.2.2)
    intro v tc6 bsc6 hpc6 tkc6 fE nE Rc6 hbc6
    obtain ⟨rfl, Rc6⟩ := Rc6
    clear fX nX
    refine C_nil ⟨rfl, TurnI.intro (tk := _) fE nE [(bx, _), (x, _), (dx, _)] (List.forall_mem_cons.mpr ⟨.tail _ (.tail _ (.tail _ (.head _))), List.forall_mem_cons.mpr ⟨.head _, List.forall_mem_cons.mpr ⟨.tail _ (.head _), List.forall_mem_cons.mpr ⟨.tail _ (.tail _ (.head _)), List.forall_mem_nil _⟩⟩⟩⟩) (List.forall_mem_cons.mpr ⟨n1, List.forall_mem_cons.mpr ⟨n2, List.forall_mem_cons.mpr ⟨n3, List.forall_mem_nil _⟩⟩⟩) ⟨rfl, _, _, rfl, ?_, ?_⟩⟩
    · rw [hbc6, hP1, take_snoc hri, List.flatMap_append]
      simp only [List.append_assoc, List.flatMap_cons, List.flatMap_nil, List.append_nil]
      rfl
    · rw [take_snoc hri]
      intro row hrow
      rcases List.mem_append.mp hrow with hrow | hrow
      · exact hok _ hrow
      · rw [List.mem_singleton.mp hrow]; exact ⟨hso, Rc1, Rc2, Rc3, Rc4, Rc5, Rc6⟩
  · intro h tk2 m' news' F1 N1 hJ
    obtain ⟨e1, b', t', rfl, hb', hok⟩ := hJ
    have htk : rows.take vs.toArray.size = rows := by rw [List.size_toArray, hvl, List.take_length]
    rw [htk] at hb' hok
    refine C_nil ?_
    refine ok _ _ _ (Fr.kept gk F1) ⟨⟨rfl, hok⟩, _, b', (N1 _ (.tail _ (.head _))).1, (N1 _ (.tail _ (.tail _ (.head _)))).1, (N1 _ (.head _)).1, ?_⟩
    rw [hb', hP0, hvl, Int.mul_comm]
    simp only [List.append_assoc, smallB]
end
section
open PySem PySem.W PySem.Calls PyProof.Rows
variable {w : World} {mean : ExcName → Option Value} {mg mb : Str → Option Value}
theorem sum_le {α : Type} {f : α → Nat} {n : Nat} : ∀ {l : List α}, (∀ a ∈ l, f a ≤ n) → (l.map f).sum ≤ n * l.length
  | [], _ => by simp
  | a :: l, h => by
    have h1 := h a (.head _)
    have h2 := sum_le (l := l) fun b hb => h b (.tail _ hb)
    simp only [List.map_cons, List.sum_cons, List.length_cons, Nat.mul_succ]
    omega
theorem intGet {vs : List Value} {ns : List Int} (h : IntsAre vs ns) : ∀ (i : Nat) (v : Value), vs[i]? = some v → ∃ n t, v = .int n t ∧ ns[i]? = some n := by
  induction h with
  | nil => intro i v e; simp at e
  | cons n t _ ih =>
    intro i v e
    cases i with
    | zero => simp at e; exact ⟨_, _, e.symm, by simp⟩
    | succ i => simp at e; obtain ⟨n', t', e1, e2⟩ := ih i v e; exact ⟨n', t', e1, by simpa using e2⟩
set_option maxHeartbeats 2000000 in
theorem writeFat (x dx bx sr : Addr) (h3 : Out3 x dx bx) (ks : List Int) (hz : ks.length ≤ 100000) (rows : List (List Int)) (h6 : Rows6 rows) (hrl : rows.length ≤ 100) : SpecC w mean mg mb 12 313 [.ref x, .ref sr] [x, dx, bx]
    (fun h => OutIs w h x dx bx ks ∧ SecsAt h sr rows) (fun _ v h' => (v = .none ∧ ∀ row ∈ rows, fatRowOk row) ∧ OutIs w h' x dx bx (ks ++ fatB rows)) (¬ ∀ row ∈ rows, fatRowOk row) := by
  intro A base fr s Q E S hpre ok er
  obtain ⟨⟨t1, bs, hx, hdx, hbx, hb⟩, hsec⟩ := hpre
  have h3' := h3
  obtain ⟨d1, d2, d3⟩ := h3'
  refine enterW (binds := [(Str.ofString "out", .ref x), (Str.ofString "sections", .ref sr)]) [(x, instObj 161 dx), (dx, outD w bx t1), (bx, baObj bs)] S (List.forall_mem_cons.mpr ⟨hx, List.forall_mem_cons.mpr ⟨hdx, List.forall_mem_cons.mpr ⟨hbx, List.forall_mem_nil _⟩⟩⟩) (by k_is) (by k_is) (BindsTo.of_eq rfl) (locs rfl) er ?_ rfl rfl rfl (by decide)
  intro g L h₁ gk lt B X T F N sz hE
  have sec := hsec.move gk (outPlain hx hdx hbx)
  replace N := News.perm' N (news' := [(bx, baObj bs), (x, instObj 161 dx), (dx, outD w bx t1)]) (List.forall_mem_cons.mpr ⟨.tail _ (.tail _ (.head _)), List.forall_mem_cons.mpr ⟨.head _, List.forall_mem_cons.mpr ⟨.tail _ (.head _), List.forall_mem_nil _⟩⟩⟩)
  obtain ⟨vs, cap, hsr, hvs⟩ := sec
  have hvl := hvs.length
  have hlst : g.IsList sr vs.toArray := ⟨_, hsr, rfl, _, rfl⟩
  (try dsimp only)
  show wpC _ _ (execs ([_] ++ _) _) _ _ _
  refine C_block ?_
  k_fold
  (repeat' (first | ((with_reducible (((with_reducible show wpAny _ _ (call (Value.builtin "len") [Value.ref _]) _ _ _); refine len_old (by assumption) (by assumption) (by omega) ?_; intro tZZ kZZ))) <;> (try dsimp only)) | walk_at "ks"))
  refine C_execs (C_Expr (C_callAttr rfl rfl rfl ?_))
  k_fold
  k_steps
  refine C_callK (K := hd.heap_1 w.params) (by k_is) ?_
  k_fold
  k_steps
  (rename Fr _ _ _ _ => fX; rename News _ _ _ _ => nX)
  show wpC _ _ (call (Value.ref 81) [_, Value.int _ _]) _ _ _
  refine useOut (w8 x dx bx h3 _ (by omega) (Builtin.bitOr 1 64) _ (by decide) (by decide)) S B fX nX hb (fun _ q => nomatch q) (fun _ q => nomatch q) (fun _ q => nomatch q) (by decide) ⟨rfl, rfl⟩ ?_ (fun q => absurd (by first | exact ⟨by decide, by decide⟩ | exact ⟨by omega, by omega⟩) q)
  intro v t1 bs1 hp1 tk1 fE nE R1 hb1
  obtain ⟨rfl, R1⟩ := R1
  clear fX nX
  have hv2 : Builtin.bitAnd ((vs.length : Int) * 24 + 4) 255 = (24 * (rows.length : Int) + 4) % 256 := by rw [octet, hvl]; omega
  have hv3 : ((vs.length : Int) * 24 + 4).fdiv (2 ^ Int.toNat 8) = (24 * (rows.length : Int) + 4) / 256 := by rw [Int.fdiv_eq_ediv_of_nonneg _ (by decide), hvl, Int.mul_comm]; rfl
  refine C_execs (C_Expr (C_callAttr rfl rfl rfl ?_))
  k_fold
  k_steps
  refine C_callK (K := hd.heap_1 w.params) (by k_is) ?_
  k_fold
  k_steps
  (rename Fr _ _ _ _ => fX; rename News _ _ _ _ => nX)
  show wpC _ _ (call (Value.ref 81) [_, Value.int _ _]) _ _ _
  refine useOut (w8 x dx bx h3 _ (by simp only [List.length_append, leL_length]; omega) (Builtin.bitAnd ((vs.length : Int) * 24 + 4) 255) _ (by omega) (by omega)) S B fX nX hb1 (fun _ q => nomatch q) (fun _ q => nomatch q) (fun _ q => nomatch q) (by decide) ⟨rfl, rfl⟩ ?_ (fun q => absurd ⟨by rw [hv2]; omega, by rw [hv2]; omega⟩ q)
  intro v t2 bs2 hp2 tk2 fE nE R2 hb2
  obtain ⟨rfl, R2⟩ := R2
  clear fX nX
  refine C_execs (C_Expr (C_callAttr rfl rfl rfl ?_))
  k_fold
  k_steps
  refine C_callK (K := hd.heap_1 w.params) (by k_is) ?_
  k_fold
  k_steps
  (rename Fr _ _ _ _ => fX; rename News _ _ _ _ => nX)
  show wpC _ _ (call (Value.ref 88) [_, Value.int _ _]) _ _ _
  refine useOut (w16 x dx bx h3 _ (by simp only [List.length_append, leL_length]; omega) (((vs.length : Int) * 24 + 4).fdiv (2 ^ Int.toNat 8)) _ (by omega) (by omega)) S B fX nX hb2 (fun _ q => nomatch q) (fun _ q => nomatch q) (fun _ q => nomatch q) (by decide) ⟨rfl, rfl⟩ ?_ (fun q => absurd ⟨by rw [hv3]; omega, by rw [hv3]; omega⟩ q)
  intro v t3 bs3 hp3 tk3 fE nE R3 hb3
  obtain ⟨rfl, R3⟩ := R3
  clear fX nX
  obtain ⟨P0, hP0⟩ : ∃ P0, P0 = ks ++ leL (Builtin.bitOr 1 64) 1 ++ leL (Builtin.bitAnd ((vs.length : Int) * 24 + 4) 255) 1 ++ leL (((vs.length : Int) * 24 + 4).fdiv (2 ^ Int.toNat 8)) 2 := ⟨_, rfl⟩
  have hPl : P0.length = ks.length + 4 := by rw [hP0]; simp [leL_length]
  rw [← hP0] at hb3
  refine C_execs (C_For g rfl rfl ?_ (by with_unfolding_all passes_own))
  k_fold
  k_steps
  rename Fr _ _ _ _ => lF; rename News _ _ _ _ => lN
  have len6 : ∀ row ∈ rows, (fatRowB row).length = 24 := fun row hm => by obtain ⟨a, b, c, d, e, f, rfl⟩ := six (h6 _ hm).1; simp [fatRowB, leL_length]
  refine C_iter_list (fun i m news => m (Str.ofString "out") = some (.ref x) ∧ ∃ b t, news = [(bx, baObj b), (x, instObj 161 dx), (dx, outD w bx t)] ∧ KBw.bInts b = P0 ++ (rows.take i).flatMap fatRowB ∧ ∀ row ∈ rows.take i, fatRowOk row) S.hh hlst lF lN (Nat.ne_of_gt (Nat.lt_of_lt_of_le (Heap.lt_size hsr) lF.above)) ⟨rfl, bs3, _, rfl, by simp [hb3], by simp⟩ ?_ ?_
  · intro I oI lI i v m₁ news₁ h tk0 hi hP hJ hI F1 N1
    obtain ⟨e1, b', t', rfl, hb', hok⟩ := hJ
    rw [List.getElem?_toArray] at hP
    obtain ⟨a, o, row, rfl, ho, hrow, hri⟩ := hvs.get i v hP
    have hmem : row ∈ rows := List.mem_of_getElem? hri
    obtain ⟨r0, r1, r2, r3, r4, r5, u0, u1, u2, u3, u4, u5, rfl, hT⟩ := rowTup ho hrow (h6 _ hmem).1
    have bd := (h6 _ hmem).2
    have hi' : i < vs.length := by simpa using hi
    have n1 := hI _ (.head _)
    have n2 := hI _ (.tail _ (.head _))
    have n3 := hI _ (.tail _ (.tail _ (.head _)))
    have o1 : ∀ q ∈ [(I, oI)], @Ne Nat q.1 x := List.forall_mem_cons.mpr ⟨Ne.symm n2, List.forall_mem_nil _⟩
    have o2 : ∀ q ∈ [(I, oI)], @Ne Nat q.1 dx := List.forall_mem_cons.mpr ⟨Ne.symm n3, List.forall_mem_nil _⟩
    have o3 : ∀ q ∈ [(I, oI)], @Ne Nat q.1 bx := List.forall_mem_cons.mpr ⟨Ne.symm n1, List.forall_mem_nil _⟩
    have F2 : Fr g L h (fun y => if y = Str.ofString "row" then some (.ref a) else front [(Str.ofString "out", .ref x)] m₁ y) := by
      rw [front_eq (List.forall_mem_cons.mpr ⟨e1, List.forall_mem_nil _⟩)]; exact F1
    have N2 : News g L h [(bx, baObj b'), (x, instObj 161 dx), (dx, outD w bx t'), (I, oI)] := News.perm' N1 (List.forall_mem_cons.mpr ⟨.tail _ (.head _), List.forall_mem_cons.mpr ⟨.tail _ (.tail _ (.head _)), List.forall_mem_cons.mpr ⟨.tail _ (.tail _ (.tail _ (.head _))), List.forall_mem_cons.mpr ⟨.head _, List.forall_mem_nil _⟩⟩⟩⟩)
    clear F1 N1 lF lN
    obtain ⟨P1, hP1⟩ : ∃ P1, P1 = P0 ++ (rows.take i).flatMap fatRowB := ⟨_, rfl⟩
    have hPl1 : P1.length ≤ ks.length + 2500 := by
      rw [hP1, List.length_append, List.length_flatMap]
      have : ((rows.take i).map fun r => (fatRowB r).length).sum ≤ 24 * (rows.take i).length := sum_le fun r hr => Nat.le_of_eq (len6 r (List.mem_of_mem_take hr))
      rw [List.length_take] at this; omega
    rw [← hP1] at hb'
    show wpC _ _ (execs ([_] ++ _) _) _ _ _
    refine C_block ?_
    k_fold
    (repeat' (first | ((with_reducible (((with_reducible show wpAny _ _ (subscriptTail _ _ (Value.ref _) (Value.int _ _)) _ _ _); refine item_tupleT (Fr.tup (by assumption) (by assumption)) (by decide) (by decide) rfl rfl ?_))) <;> (try dsimp only)) | (((with_reducible show wpAny _ _ (call (Value.ref _) _) _ _ _); ((show wpAny _ _ (call (Value.ref 151) [_]) _ _ _); (rename News _ _ _ _ => nXZZ); (refine useOutA (wSize _ _ _ (by assumption) _ ?hsz) (by assumption) (by assumption) (by assumption) nXZZ (by assumption) (by k_all) (by k_all) (by k_all) (by decide) ⟨rfl, rfl⟩ ?_ (fun q => q.elim)); (case hsz => omega); intro vZZ t1ZZ bsZZ hZZ tkZZ FZZ NZZ rZZ hbZZ; obtain ⟨tvZZ, hvZZ⟩ := rZZ; subst hvZZ)) <;> (try dsimp only)) | ((with_reducible (((with_reducible show wpAny _ _ (call (Value.ref 299) [Value.int _ _, Value.int _ _]) _ _ _); (refine useNone (checkSort _ _ _ _) (by assumption) (by assumption) (by assumption) (by assumption) (by decide) ⟨rfl, rfl⟩ ?_ ?_); rotate_left; (intro qZZ eZZ hZZ tkZZ XZZ UZZ); rotate_left; intro vZZ hZZ tkZZ FZZ NZZ rZZ; obtain ⟨hvZZ, r1ZZ⟩ := rZZ; subst hvZZ))) <;> (try dsimp only)) | walk_at "ks"))
    rotate_left
    · exact hE (fun hall => by rename ¬ okSort _ => q; exact q (hall _ hmem).1) _ _ _ (by assumption) (by assumption)
    rename okSort _ => hso
    rename KBw.bInts _ = P1 => hc0
    clear F2 hb'
    refine C_execs (C_For g rfl rfl ?_ (by with_unfolding_all passes_own))
    show wpAny _ _ _ _ _ _
    k_fold
    k_steps
    rename Fr _ _ _ _ => iF; rename News _ _ _ _ => iN
    have hTup : g.IsTuple a #[.int r0 u0, .int r1 u1, .int r2 u2, .int r3 u3, .int r4 u4, .int r5 u5] := hT
    have hIA : IntsAre [.int r0 u0, .int r1 u1, .int r2 u2, .int r3 u3, .int r4 u4, .int r5 u5] [r0, r1, r2, r3, r4, r5] := by repeat constructor
    obtain ⟨row, hrow'⟩ : ∃ row, row = [r0, r1, r2, r3, r4, r5] := ⟨_, rfl⟩
    rw [← hrow'] at hIA hmem hri bd
    have hrl6 : row.length = 6 := by rw [hrow']; rfl
    refine C_iter_tuple (fun j m news => m (Str.ofString "out") = some (.ref x) ∧ ∃ b t, news = [(bx, baObj b), (x, instObj 161 dx), (dx, outD w bx t), (I, oI)] ∧ KBw.bInts b = P1 ++ (row.take j).flatMap (fun n => leL n 4) ∧ ∀ n ∈ row.take j, fits n 4) S.hh hTup iF iN (by obtain ⟨oT, hoT, _⟩ := hTup; exact Nat.ne_of_gt (Nat.lt_of_lt_of_le (Heap.lt_size hoT) iF.above)) ⟨rfl, _, _, rfl, by simp [hc0], by simp⟩ ?_ ?_
    · intro I' oI' lI' j v m₁ news₁ h tk0 hj hP hJ hI F1 N1
      obtain ⟨e1, b', t', rfl, hb', hok'⟩ := hJ
      obtain ⟨nj, tj, rfl, hrj⟩ := intGet hIA j v (by simpa using hP)
      have hnm : nj ∈ row := List.mem_of_getElem? hrj
      have bj := bd nj hnm
      have hj' : j < 6 := hj
      have p1 := hI _ (.head _)
      have p2 := hI _ (.tail _ (.head _))
      have p3 := hI _ (.tail _ (.tail _ (.head _)))
      have p4 := hI _ (.tail _ (.tail _ (.tail _ (.head _))))
      have o1 : ∀ q ∈ [(I, oI), (I', oI')], @Ne Nat q.1 x := List.forall_mem_cons.mpr ⟨Ne.symm n2, List.forall_mem_cons.mpr ⟨Ne.symm p2, List.forall_mem_nil _⟩⟩
      have o2 : ∀ q ∈ [(I, oI), (I', oI')], @Ne Nat q.1 dx := List.forall_mem_cons.mpr ⟨Ne.symm n3, List.forall_mem_cons.mpr ⟨Ne.symm p3, List.forall_mem_nil _⟩⟩
      have o3 : ∀ q ∈ [(I, oI), (I', oI')], @Ne Nat q.1 bx := List.forall_mem_cons.mpr ⟨Ne.symm n1, List.forall_mem_cons.mpr ⟨Ne.symm p1, List.forall_mem_nil _⟩⟩
      have F2 : Fr g L h (fun y => if y = Str.ofString "n" then some (.int nj tj) else front [(Str.ofString "out", .ref x)] m₁ y) := by
        rw [front_eq (List.forall_mem_cons.mpr ⟨e1, List.forall_mem_nil _⟩)]; exact F1
      have N2 : News g L h [(bx, baObj b'), (x, instObj 161 dx), (dx, outD w bx t'), (I, oI), (I', oI')] := News.perm' N1 (List.forall_mem_cons.mpr ⟨.tail _ (.head _), List.forall_mem_cons.mpr ⟨.tail _ (.tail _ (.head _)), List.forall_mem_cons.mpr ⟨.tail _ (.tail _ (.tail _ (.head _))), List.forall_mem_cons.mpr ⟨.tail _ (.tail _ (.tail _ (.tail _ (.head _)))), List.forall_mem_cons.mpr ⟨.head _, List.forall_mem_nil _⟩⟩⟩⟩⟩)
      clear F1 N1 iF iN
      obtain ⟨P2, hP2⟩ : ∃ P2, P2 = P1 ++ (row.take j).flatMap (fun n => leL n 4) := ⟨_, rfl⟩
      have hPl2 : P2.length ≤ ks.length + 2600 := by
        rw [hP2, List.length_append, List.length_flatMap]
        have : ((row.take j).map fun n => (leL n 4).length).sum ≤ 4 * (row.take j).length := sum_le fun n _ => Nat.le_of_eq (leL_length n 4)
        rw [List.length_take] at this; omega
      rw [← hP2] at hb'
      refine C_execs (C_Expr (C_callAttr rfl rfl rfl ?_))
      k_fold
      k_steps
      refine C_callK (K := hd.heap_1 w.params) (by k_is) ?_
      k_fold
      k_steps
      (rename Fr _ _ _ _ => fX; rename News _ _ _ _ => nX)
      show wpC _ _ (call (Value.ref 95) [_, Value.int _ _]) _ _ _
      refine useOut (w32 x dx bx h3 _ (by omega) nj _ (by omega) (by omega)) S B fX nX hb' o1 o2 o3 (by decide) ⟨rfl, rfl⟩ ?_ (fun q => hE fun hall => q ((hall _ hmem).2 nj hnm))
      intro v tc bsc hpc tkc fE nE Rc hbc
      obtain ⟨rfl, Rc⟩ := Rc
      clear fX nX
      refine C_nil ⟨rfl, TurnI.intro (tk := _) fE nE [(bx, _), (x, _), (dx, _), (I, _)] (List.forall_mem_cons.mpr ⟨.tail _ (.tail _ (.tail _ (.tail _ (.head _)))), List.forall_mem_cons.mpr ⟨.head _, List.forall_mem_cons.mpr ⟨.tail _ (.head _), List.forall_mem_cons.mpr ⟨.tail _ (.tail _ (.head _)), List.forall_mem_cons.mpr ⟨.tail _ (.tail _ (.tail _ (.head _))), List.forall_mem_nil _⟩⟩⟩⟩⟩) (List.forall_mem_cons.mpr ⟨p1, List.forall_mem_cons.mpr ⟨p2, List.forall_mem_cons.mpr ⟨p3, List.forall_mem_cons.mpr ⟨p4, List.forall_mem_nil _⟩⟩⟩⟩) ⟨rfl, _, _, rfl, ?_, ?_⟩⟩
      · rw [hbc, hP2, take_snoc hrj, List.flatMap_append]
        simp only [List.append_assoc, List.flatMap_cons, List.flatMap_nil, List.append_nil]
      · rw [take_snoc hrj]
        intro n hn
        rcases List.mem_append.mp hn with hn | hn
        · exact hok' _ hn
        · rw [List.mem_singleton.mp hn]; exact Rc
    · intro h tk2 m' news' F1 N1 hJ
      obtain ⟨e1, b', t', rfl, hb', hok'⟩ := hJ
      have htk : row.take (#[Value.int r0 u0, .int r1 u1, .int r2 u2, .int r3 u3, .int r4 u4, .int r5 u5] : Array Value).size = row := by
        rw [show (#[Value.int r0 u0, .int r1 u1, .int r2 u2, .int r3 u3, .int r4 u4, .int r5 u5] : Array Value).size = row.length by rw [hrl6]; rfl, List.take_length]
      rw [htk] at hb' hok'
      refine C_nil ⟨rfl, TurnI.intro (tk := _) F1 N1 [(bx, _), (x, _), (dx, _)] (List.forall_mem_cons.mpr ⟨.tail _ (.tail _ (.tail _ (.head _))), List.forall_mem_cons.mpr ⟨.head _, List.forall_mem_cons.mpr ⟨.tail _ (.head _), List.forall_mem_cons.mpr ⟨.tail _ (.tail _ (.head _)), List.forall_mem_nil _⟩⟩⟩⟩) (List.forall_mem_cons.mpr ⟨n1, List.forall_mem_cons.mpr ⟨n2, List.forall_mem_cons.mpr ⟨n3, List.forall_mem_nil _⟩⟩⟩) ⟨e1, _, _, rfl, ?_, ?_⟩⟩
      · rw [hb', hP1, take_snoc hri, List.flatMap_append]
        simp only [List.append_assoc, List.flatMap_cons, List.flatMap_nil, List.append_nil]
        rfl
      · rw [take_snoc hri]
        intro row' hrow''
        rcases List.mem_append.mp hrow'' with hm | hm
        · exact hok _ hm
        · rw [List.mem_singleton.mp hm]
          refine ⟨?_, hok'⟩
          rw [hrow']; exact hso
  · intro h tk2 m' news' F1 N1 hJ
    obtain ⟨e1, b', t', rfl, hb', hok⟩ := hJ
    have htk : rows.take vs.toArray.size = rows := by rw [List.size_toArray, hvl, List.take_length]
    rw [htk] at hb' hok
    refine C_nil ?_
    refine ok _ _ _ (Fr.kept gk F1) ⟨⟨rfl, hok⟩, _, b', (N1 _ (.tail _ (.head _))).1, (N1 _ (.tail _ (.tail _ (.head _)))).1, (N1 _ (.head _)).1, ?_⟩
    rw [hb', hP0, hv2, hv3]
    simp only [List.append_assoc, fatB]
    rfl
end
section
local macro_rules | `(tactic| walk_at "eval Call") => `(tactic| with_unfolding_all refine Call_ ?_)
section
open PySem PySem.W PySem.Calls PyProof.Rows
variable {w : World} {mean : ExcName → Option Value} {mg mb : Str → Option Value}
noncomputable def flagsOf (n : Nat) (token : Int) : Int := 12291 + (if n = 0 then 0 else 8) + (if token = 0 then 0 else 16)
noncomputable def headB (len : Nat) (deep token : Int) (nr : Nat) : List Int := leL (flagsOf nr token) 2 ++ (leL deep 2 ++ (leL (len : Int) 4 ++ leL token 4))
noncomputable def tinyOk (len : Nat) (deep token : Int) (nr : Nat) : Prop := len < 64 ∧ token = 0 ∧ (0 ≤ deep ∧ deep ≤ 8) ∧ nr = 0
noncomputable def fitsSmall (row : List Int) : Prop := row.getD 1 0 ≤ 65535 ∧ row.getD 2 0 ≤ 255 ∧ row.getD 3 0 ≤ 65535 ∧ row.getD 4 0 ≤ 255
noncomputable def allSmall (rows : List (List Int)) : Prop := rows.length ≤ 20 ∧ ∀ row ∈ rows, fitsSmall row
theorem useNoneP {n n' : Nat} {A : Around} {base h₀ : Heap} {fr : List Env} {s s₀ : Shared} {L : Addr} {m : Str → Option Value} {env : Env} {news : List (Addr × Obj)} {D₀ : List Addr} {Q E₀ E₁ : Value → Shared → Prop} {f : Addr} {vs : List Value} {exc : Prop} {pre : Heap → Prop}
    {R : Value → Prop} (h : Spec w mean mg mb n f vs [] pre (fun _ v _ => R v) exc) (S : Site w mean mg mb n' A base fr s₀ D₀) (B : Below A base fr h₀) (F : Fr h₀ L s.heap m)
    (N : News h₀ L s.heap news) (hn : n + 1 ≤ n') (hk : env.frame = some L ∧ env.scope.kind = .function) (hp : pre s.heap)
    (ok : ∀ v h' tk, Fr h₀ L h' m → News h₀ L h' news → R v → Q v { s with heap := h', toks := tk })
    (er : exc → ∀ e h' tk, Exc base fr e h' → h₀.UpToSlots h' → E₀ (.ref e) { s with heap := h', toks := tk }) :
    wpAny (MD w) (A.deeper env) (call (.ref f) vs) Q
      (fun e s' => wpAny (MD w) (A.deeper env) (leaving env e) (fun _ s'' => E₀ e s'') (fun e' s'' => E₁ e' s'') s') s :=
  use h S B F N (fun _ hd => nomatch hd) hn hk hp (fun v h' tk K F' P => ok v h' tk F' (News.keepBut N K fun q hq => ⟨hq, fun hm => nomatch hm⟩) P) er
/-- a step that the walker does not take by itself -/
noncomputable def Later (p : Prop) : Prop := p
section
variable {M : Model} {A : Around} {E : Value → Shared → Prop} {s : Shared} {env : Env}
theorem A_block {l₁ l₂ : List Stmt} {Q : Flow → Shared → Prop}
    (h : wpAny M A (execs l₁ env) (fun f s' => match f with | .next => Later (wpAny M A (execs l₂ env) Q E s') | f => Q f s') E s) : wpAny M A (execs (l₁ ++ l₂) env) Q E s := by
  rw [execs_append]
  refine wpAny_bind (wpAny_mono h (fun f s' h' => ?_) fun _ _ x => x)
  cases f <;> first | exact h' | exact wpAny_pure h'
theorem A_execs {st : Stmt} {rest : List Stmt} {Q : Flow → Shared → Prop}
    (h : wpAny M A (exec st env) (fun f s' => match f with | .next => Later (wpAny M A (execs rest env) Q E s') | f => Q f s') E s) : wpAny M A (execs (st :: rest) env) Q E s := by
  rw [execs_cons]
  refine wpAny_bind (wpAny_mono h (fun f s' h' => ?_) fun _ _ x => x)
  cases f <;> first | exact h' | exact wpAny_pure h'
end
set_option maxHeartbeats 2000000 in
theorem isTiny (cb : Array UInt8) (tc td tt : Tok) (cs : List Int) (hk : KBw.bInts cb = cs) (hz : cs.length ≤ 100000) (deep token : Int) (sr : Addr) (rows : List (List Int)) (hrl : rows.length ≤ 100) : Spec w mean mg mb 8 278 [.bytes cb tc, .int deep td, .int token tt, .ref sr] []
    (fun h => SecsAt h sr rows) (fun _ v _ => ∃ b, v = .bool b ∧ (b = true ↔ tinyOk cs.length deep token rows.length)) False := by
  intro A base fr s Q E S hpre ok er
  refine enter (binds := [(Str.ofString "code", .bytes cb tc), (Str.ofString "maxstack", .int deep td), (Str.ofString "token", .int token tt), (Str.ofString "sections", .ref sr)]) [] S (List.forall_mem_nil _) (by k_is) (by k_is) (BindsTo.of_eq rfl) (locs rfl) er ?_ rfl rfl rfl (by decide)
  intro g L h₁ gk lt B X T F N sz hE
  have sec := hpre.move gk (fun _ q => nomatch q)
  obtain ⟨vs, cap, hsr, hvs⟩ := sec
  have hvl := hvs.length
  have hlst : g.IsList sr vs.toArray := ⟨_, hsr, rfl, _, rfl⟩
  (try dsimp only)
  show wpAny _ _ _ _ _ _
  k_fold
  (repeat' (first | ((with_reducible (((with_reducible show wpAny _ _ (call (Value.builtin "len") [Value.ref _]) _ _ _); refine len_old (by assumption) (by assumption) (by omega) ?_; intro tZZ kZZ))) <;> (try dsimp only)) | walk_at "ks"))
  all_goals ((rename Fr _ _ _ _ => fE); exact ok _ _ _ (Fr.kept gk fE) ⟨_, rfl, by simp only [decide_eq_true_eq, beq_iff_eq, tinyOk]; omega⟩)
set_option maxHeartbeats 2000000 in
theorem fitsS (a : Addr) (o : Obj) (row : List Int) (h6 : row.length = 6) (hr : IsRow o row) : Spec w mean mg mb 8 285 [.ref a] []
    (fun h => h.get? a = some o) (fun _ v _ => ∃ b, v = .bool b ∧ (b = true ↔ fitsSmall row)) False := by
  intro A base fr s Q E S hpre ok er
  refine enter (binds := [(Str.ofString "row", .ref a)]) [] S (List.forall_mem_nil _) (by k_is) (by k_is) (BindsTo.of_eq rfl) (locs rfl) er ?_ rfl rfl rfl (by decide)
  intro g L h₁ gk lt B X T F N sz hE
  obtain ⟨r0, r1, r2, r3, r4, r5, u0, u1, u2, u3, u4, u5, rfl, hT⟩ := rowTup (gk _ _ List.not_mem_nil hpre) hr h6
  (try dsimp only)
  k_fold
  (repeat' (first | ((with_reducible (((with_reducible show wpAny _ _ (subscriptTail _ _ (Value.ref _) (Value.int _ _)) _ _ _); refine item_tupleT (Fr.tup (by assumption) (by assumption)) (by decide) (by decide) rfl rfl ?_))) <;> (try dsimp only)) | walk_at "ks"))
  all_goals ((rename Fr _ _ _ _ => fE); exact ok _ _ _ (Fr.kept gk fE) ⟨_, rfl, by simp only [decide_eq_true_eq, fitsSmall, List.getD_cons_zero, List.getD_cons_succ]; omega⟩)
set_option maxHeartbeats 2000000 in
theorem allS (sr : Addr) (rows : List (List Int)) (h6 : Rows6 rows) (hrl : rows.length ≤ 100) : Spec w mean mg mb 12 292 [.ref sr] []
    (fun h => SecsAt h sr rows) (fun _ v _ => ∃ b, v = .bool b ∧ (b = true ↔ allSmall rows)) False := by
  intro A base fr s Q E S hpre ok er
  refine enter (binds := [(Str.ofString "sections", .ref sr)]) [] S (List.forall_mem_nil _) (by k_is) (by k_is) (BindsTo.of_eq rfl) (locs rfl) er ?_ rfl rfl rfl (by decide)
  intro g L h₁ gk lt B X T F N sz hE
  have sec := hpre.move gk (fun _ q => nomatch q)
  obtain ⟨vs, cap, hsr, hvs⟩ := sec
  have hvl := hvs.length
  have hlst : g.IsList sr vs.toArray := ⟨_, hsr, rfl, _, rfl⟩
  (try dsimp only)
  show wpAny _ _ (execs ([_] ++ _) _) _ _ _
  refine A_block ?_
  k_fold
  (repeat' (first | ((with_reducible (((with_reducible show wpAny _ _ (call (Value.builtin "len") [Value.ref _]) _ _ _); refine len_old (by assumption) (by assumption) (by omega) ?_; intro tZZ kZZ))) <;> (try dsimp only)) | walk_at "ks"))
  · (rename Fr _ _ _ _ => fE)
    exact ok _ _ _ (Fr.kept gk fE) ⟨_, rfl, by simp only [Bool.false_eq_true, false_iff, allSmall]; omega⟩
  unfold Later
  refine A_execs (For_invV g rfl rfl ?_)
  show wpAny _ _ _ _ _ _
  k_fold
  k_steps
  rename Fr _ _ _ _ => lF; rename News _ _ _ _ => lN
  refine V_iter_list (fun i m news => news = [] ∧ ∀ row ∈ rows.take i, fitsSmall row) S.hh hlst lF lN ⟨rfl, by simp⟩ ?_ ?_
  · intro I oI lI i v m₁ news₁ h tk0 hi hP hJ hI F1 N1
    obtain ⟨rfl, hok⟩ := hJ
    rw [List.getElem?_toArray] at hP
    obtain ⟨a, o, row, rfl, ho, hrow, hri⟩ := hvs.get i v hP
    have hmem : row ∈ rows := List.mem_of_getElem? hri
    have hr6 := (h6 _ hmem).1
    clear lF lN
    show wpAny _ _ _ _ _ _
    k_fold
    (repeat' (first | ((with_reducible (((with_reducible show wpAny _ _ (call (Value.ref 285) [Value.ref _]) _ _ _); (rename News _ _ _ _ => nXZZ); (refine useNoneP (fitsS _ _ _ (by assumption) (by assumption)) (by assumption) (by assumption) (by assumption) nXZZ (by decide) ⟨rfl, rfl⟩ (Fr.keep (by assumption) _ _ (by assumption)) ?_ (fun q => q.elim)); intro vZZ hZZ tkZZ FZZ NZZ rZZ; obtain ⟨bZZ, hvZZ, hbZZ⟩ := rZZ; subst hvZZ))) <;> (try dsimp only)) | walk_at "ks"))
    · (rename Fr _ _ _ _ => fE; rename News _ _ _ _ => nE; rename _ ↔ fitsSmall _ => hb1; rename (_ : Bool) = true => hb2)
      refine TurnI.intro (tk := _) fE nE [] (List.forall_mem_cons.mpr ⟨.head _, List.forall_mem_nil _⟩) (List.forall_mem_nil _) ⟨rfl, ?_⟩
      rw [take_snoc hri]
      intro row' hm
      rcases List.mem_append.mp hm with hm | hm
      · exact hok _ hm
      · rw [List.mem_singleton.mp hm]; exact hb1.mp hb2
    · (rename Fr _ _ _ _ => fE; rename _ ↔ fitsSmall _ => hb1; rename (_ : Bool) = false => hb2)
      exact ok _ _ _ (Fr.kept gk fE) ⟨_, rfl, by simp only [Bool.false_eq_true, false_iff, allSmall]; exact fun q => absurd (hb1.mpr (q.2 _ hmem)) (by rw [hb2]; decide)⟩
  · intro h tk2 m' news' F1 N1 hJ
    obtain ⟨rfl, hok⟩ := hJ
    have htk : rows.take vs.toArray.size = rows := by rw [List.size_toArray, hvl, List.take_length]
    rw [htk] at hok
    show wpAny _ _ _ _ _ _
    k_steps
    (rename Fr _ _ _ _ => fE)
    exact ok _ _ _ (Fr.kept gk fE) ⟨_, rfl, by simp only [true_iff, allSmall]; exact ⟨by omega, hok⟩⟩
end
section
open PySem PySem.W PySem.Calls PyProof.Rows
variable {w : World} {mean : ExcName → Option Value} {mg mb : Str → Option Value}
noncomputable def HeadOk (deep token : Int) : Prop := fits deep 2 ∧ fits token 4
set_option maxHeartbeats 4000000 in
theorem writeHead (x dx bx sr : Addr) (h3 : Out3 x dx bx) (ks : List Int) (hz : ks.length ≤ 100000) (cb : Array UInt8) (cs : List Int) (hk : KBw.bInts cb = cs) (hcz : cs.length ≤ 100000) (tc td tt : Tok) (deep token : Int) (hd1 : -1099511627776 ≤ deep) (hd2 : deep ≤ 1099511627776) (ht1 : -1099511627776 ≤ token) (ht2 : token ≤ 1099511627776) (rows : List (List Int)) (hrl : rows.length ≤ 100) :
    SpecC w mean mg mb 12 320 [.ref x, .bytes cb tc, .int deep td, .int token tt, .ref sr] [x, dx, bx]
    (fun h => OutIs w h x dx bx ks ∧ SecsAt h sr rows) (fun _ v h' => (v = .none ∧ HeadOk deep token) ∧ OutIs w h' x dx bx (ks ++ headB cs.length deep token rows.length)) (¬ HeadOk deep token) := by
  intro A base fr s Q E S hpre ok er
  obtain ⟨⟨t1, bs, hx, hdx, hbx, hb⟩, hsec⟩ := hpre
  have h3' := h3
  obtain ⟨d1, d2, d3⟩ := h3'
  refine enterW (binds := [(Str.ofString "out", .ref x), (Str.ofString "code", .bytes cb tc), (Str.ofString "maxstack", .int deep td), (Str.ofString "token", .int token tt), (Str.ofString "sections", .ref sr)]) [(x, instObj 161 dx), (dx, outD w bx t1), (bx, baObj bs)] S (List.forall_mem_cons.mpr ⟨hx, List.forall_mem_cons.mpr ⟨hdx, List.forall_mem_cons.mpr ⟨hbx, List.forall_mem_nil _⟩⟩⟩) (by k_is) (by k_is) (BindsTo.of_eq rfl) (locs rfl) er ?_ rfl rfl rfl (by decide)
  intro g L h₁ gk lt B X T F N sz hE
  have sec := hsec.move gk (outPlain hx hdx hbx)
  replace N := News.perm' N (news' := [(bx, baObj bs), (x, instObj 161 dx), (dx, outD w bx t1)]) (List.forall_mem_cons.mpr ⟨.tail _ (.tail _ (.head _)), List.forall_mem_cons.mpr ⟨.head _, List.forall_mem_cons.mpr ⟨.tail _ (.head _), List.forall_mem_nil _⟩⟩⟩)
  obtain ⟨vs, cap, hsr, hvs⟩ := sec
  have hvl := hvs.length
  have hlst : g.IsList sr vs.toArray := ⟨_, hsr, rfl, _, rfl⟩
  (try dsimp only)
  show wpC _ _ (execs ([_, _, _] ++ _) _) _ _ _
  refine C_block ?_
  k_fold
  (repeat' (first | ((with_reducible (((with_reducible show wpAny _ _ (call (Value.builtin "len") [Value.ref _]) _ _ _); refine len_old (by assumption) (by assumption) (by omega) ?_; intro tZZ kZZ))) <;> (try dsimp only)) | walk_at "ks"))
  all_goals
  · skip
    refine C_execs (C_Expr (C_callAttr rfl rfl rfl ?_))
    k_fold
    k_steps
    refine C_callK (K := hd.heap_1 w.params) (by k_is) ?_
    k_fold
    k_steps
    (rename Fr _ _ _ _ => fX; rename News _ _ _ _ => nX)
    show wpC _ _ (call (Value.ref 88) [_, Value.int _ _]) _ _ _
    refine useOut (w16 x dx bx h3 _ (by omega) _ _ (by decide) (by decide)) S B fX nX hb (fun _ q => nomatch q) (fun _ q => nomatch q) (fun _ q => nomatch q) (by decide) ⟨rfl, rfl⟩ ?_ (fun q => absurd (by first | exact ⟨by decide, by decide⟩ | exact ⟨by omega, by omega⟩) q)
    intro v tc1 bsc1 hpc1 tkc1 fE nE Rc1 hbc1
    obtain ⟨rfl, Rc1⟩ := Rc1
    clear fX nX
    refine C_execs (C_Expr (C_callAttr rfl rfl rfl ?_))
    k_fold
    k_steps
    refine C_callK (K := hd.heap_1 w.params) (by k_is) ?_
    k_fold
    k_steps
    (rename Fr _ _ _ _ => fX; rename News _ _ _ _ => nX)
    show wpC _ _ (call (Value.ref 88) [_, Value.int _ _]) _ _ _
    refine useOut (w16 x dx bx h3 _ (by simp only [List.length_append, leL_length]; omega) deep _ (by omega) (by omega)) S B fX nX hbc1 (fun _ q => nomatch q) (fun _ q => nomatch q) (fun _ q => nomatch q) (by decide) ⟨rfl, rfl⟩ ?_ (fun q => hE fun z => q z.1)
    intro v tc2 bsc2 hpc2 tkc2 fE nE Rc2 hbc2
    obtain ⟨rfl, Rc2⟩ := Rc2
    clear fX nX
    refine C_execs (C_Expr (C_callAttr rfl rfl rfl ?_))
    k_fold
    k_steps
    refine C_callK (K := hd.heap_1 w.params) (by k_is) ?_
    k_fold
    k_steps
    (rename Fr _ _ _ _ => fX; rename News _ _ _ _ => nX)
    show wpC _ _ (call (Value.ref 95) [_, Value.int _ _]) _ _ _
    refine useOut (w32 x dx bx h3 _ (by simp only [List.length_append, leL_length]; omega) (cs.length : Int) _ (by omega) (by omega)) S B fX nX hbc2 (fun _ q => nomatch q) (fun _ q => nomatch q) (fun _ q => nomatch q) (by decide) ⟨rfl, rfl⟩ ?_ (fun q => absurd (by first | exact ⟨by decide, by decide⟩ | exact ⟨by omega, by omega⟩) q)
    intro v tc3 bsc3 hpc3 tkc3 fE nE Rc3 hbc3
    obtain ⟨rfl, Rc3⟩ := Rc3
    clear fX nX
    refine C_execs (C_Expr (C_callAttr rfl rfl rfl ?_))
    k_fold
    k_steps
    refine C_callK (K := hd.heap_1 w.params) (by k_is) ?_
    k_fold
    k_steps
    (rename Fr _ _ _ _ => fX; rename News _ _ _ _ => nX)
    show wpC _ _ (call (Value.ref 95) [_, Value.int _ _]) _ _ _
    refine useOut (w32 x dx bx h3 _ (by simp only [List.length_append, leL_length]; omega) token _ (by omega) (by omega)) S B fX nX hbc3 (fun _ q => nomatch q) (fun _ q => nomatch q) (fun _ q => nomatch q) (by decide) ⟨rfl, rfl⟩ ?_ (fun q => hE fun z => q z.2)
    intro v tc4 bsc4 hpc4 tkc4 fE nE Rc4 hbc4
    obtain ⟨rfl, Rc4⟩ := Rc4
    clear fX nX
    refine C_nil ?_
    refine ok _ _ _ (Fr.kept gk fE) ⟨⟨rfl, Rc2, Rc4⟩, _, bsc4, (nE _ (.tail _ (.head _))).1, (nE _ (.tail _ (.tail _ (.head _)))).1, (nE _ (.head _)).1, ?_⟩
    rw [hbc4]
    simp only [List.append_assoc, headB, flagsOf]
    repeat' split
    all_goals first | (exfalso; omega) | rfl
end
section
open PySem PySem.W PySem.Calls PyProof.Rows
variable {w : World} {mean : ExcName → Option Value} {mg mb : Str → Option Value}
/-- what write_body gives -/
noncomputable def WriteOk (cs : List Int) (deep token : Int) (rows : List (List Int)) (out : List Int) : Prop :=
  (tinyOk cs.length deep token rows.length ∧ out = leL ((cs.length : Int) * 4 + 2) 1 ++ cs) ∨
  (¬ tinyOk cs.length deep token rows.length ∧ HeadOk deep token ∧
    ((rows = [] ∧ out = headB cs.length deep token rows.length ++ cs) ∨
     (rows ≠ [] ∧ allSmall rows ∧ (∀ row ∈ rows, smallRowOk row) ∧ out = headB cs.length deep token rows.length ++ cs ++ List.replicate (padN (headB cs.length deep token rows.length ++ cs).length) 0 ++ smallB rows) ∨
     (rows ≠ [] ∧ ¬ allSmall rows ∧ (∀ row ∈ rows, fatRowOk row) ∧ out = headB cs.length deep token rows.length ++ cs ++ List.replicate (padN (headB cs.length deep token rows.length ++ cs).length) 0 ++ fatB rows)))
theorem headB_len (len : Nat) (deep token : Int) (nr : Nat) : (headB len deep token nr).length = 12 := by simp [headB, leL_length]
theorem smallB_len (rows : List (List Int)) : (smallB rows).length = 4 + 12 * rows.length := by
  simp only [smallB, List.length_append, leL_length, flat_len smallRowB_len]; omega
theorem fatB_len {rows : List (List Int)} (h6 : Rows6 rows) : (fatB rows).length ≤ 4 + 24 * rows.length := by
  have : (rows.flatMap fatRowB).length ≤ 24 * rows.length := by
    rw [List.length_flatMap]
    refine sum_le fun r hr => ?_
    obtain ⟨a, b, c, d, e, f, rfl⟩ := six (h6 _ hr).1
    simp [fatRowB, leL_length]
  simp only [fatB, List.length_append, leL_length]; omega
theorem padN_lt (n : Nat) : padN n < 4 := by unfold padN; omega
set_option maxHeartbeats 4000000 in
theorem writeBody (cb : Array UInt8) (cs : List Int) (hk : KBw.bInts cb = cs) (hcz : cs.length ≤ 10000) (tc td tt : Tok) (deep token : Int) (hd1 : -1099511627776 ≤ deep) (hd2 : deep ≤ 1099511627776) (ht1 : -1099511627776 ≤ token) (ht2 : token ≤ 1099511627776) (sr : Addr) (rows : List (List Int)) (h6 : Rows6 rows) (hrl : rows.length ≤ 100) :
    SpecC w mean mg mb 20 327 [.bytes cb tc, .int deep td, .int token tt, .ref sr] [] (fun h => SecsAt h sr rows)
    (fun _ v _ => ∃ b tv out, v = .bytes b tv ∧ KBw.bInts b = out ∧ WriteOk cs deep token rows out) (∀ out, ¬ WriteOk cs deep token rows out) := by
  intro A base fr s Q E S hpre ok er
  refine enterW (binds := [(Str.ofString "code", .bytes cb tc), (Str.ofString "maxstack", .int deep td), (Str.ofString "token", .int token tt), (Str.ofString "sections", .ref sr)]) [] S (List.forall_mem_nil _) (by k_is) (by k_is) (BindsTo.of_eq rfl) (locs rfl) er ?_ rfl rfl rfl (by decide)
  intro g L h₁ gk lt B X T F N sz hE
  have sec := hpre.move gk (fun _ q => nomatch q)
  have sec' := sec
  obtain ⟨vs, cap, hsr, hvs⟩ := sec'
  have hvl := hvs.length
  have hlst : g.IsList sr vs.toArray := ⟨_, hsr, rfl, _, rfl⟩
  have hcz' : cs.length ≤ 100000 := by omega
  (try dsimp only)
  refine C_execs (C_Assign (C_callName ?_))
  k_fold
  k_steps
  (rename Fr _ _ _ _ => fX; rename News _ _ _ _ => nX)
  refine C_callK0 (K := hd.heap_1 w.params) (by k_is) (by k_in) ?_
  refine makeOut S B fX nX (by decide) ⟨rfl, rfl⟩ ?_
  intro x dx bx t1 bs h' tk' F' N' hb h3 o1 o2 o3
  clear fX nX
  k_fold
  k_steps
  refine C_execs (C_If ?_)
  k_fold
  (repeat' (first | ((with_reducible (((with_reducible show wpAny _ _ (call (Value.ref 278) [_, _, _, _]) _ _ _); (rename News _ _ _ _ => nXZZ); (refine useNoneP (isTiny _ _ _ _ _ (by assumption) (by assumption) _ _ _ _ ?hrl) (by assumption) (by assumption) (by assumption) nXZZ (by decide) ⟨rfl, rfl⟩ (SecsAt.keeps (by assumption) (Fr.keep (by assumption))) ?_ (fun q => q.elim)); (case hrl => assumption); intro vZZ hZZ tkZZ FZZ NZZ rZZ; obtain ⟨bZZ, hvZZ, hbZZ⟩ := rZZ; subst hvZZ))) <;> (try dsimp only)) | walk_at "ks"))
  · rename _ ↔ tinyOk _ _ _ _ => hti; rename (_ : Bool) = true => hbt
    have hty := hti.mp hbt
    have htl := hty.1
    refine C_execs (C_Expr (C_callAttr rfl rfl rfl ?_))
    k_fold
    k_steps
    refine C_callK (K := hd.heap_1 w.params) (by k_is) ?_
    k_fold
    k_steps
    (rename Fr _ _ _ _ => fX; rename News _ _ _ _ => nX)
    show wpC _ _ (call (Value.ref 81) [_, Value.int _ _]) _ _ _
    refine useOut (w8 x dx bx h3 _ (by simp) ((cs.length : Int) * 4 + 2) _ (by omega) (by omega)) S B fX nX hb (fun _ q => nomatch q) (fun _ q => nomatch q) (fun _ q => nomatch q) (by decide) ⟨rfl, rfl⟩ ?_ (fun q => absurd (by first | exact ⟨by decide, by decide⟩ | exact ⟨by omega, by omega⟩) q)
    intro v tc1 bsc1 hpc1 tkc1 fE nE Rc1 hbc1
    obtain ⟨rfl, Rc1⟩ := Rc1
    clear fX nX
    refine C_execs (C_Expr (C_callAttr rfl rfl rfl ?_))
    k_fold
    k_steps
    refine C_callK (K := hd.heap_1 w.params) (by k_is) ?_
    k_fold
    k_steps
    (rename Fr _ _ _ _ => fX; rename News _ _ _ _ => nX)
    show wpC _ _ (call (Value.ref 137) [_, Value.bytes _ _]) _ _ _
    refine useOut (wRaw x dx bx h3 _ (by simp [leL_length]) cb _ cs hk hcz') S B fX nX hbc1 (fun _ q => nomatch q) (fun _ q => nomatch q) (fun _ q => nomatch q) (by decide) ⟨rfl, rfl⟩ ?_ (fun q => q.elim)
    intro v tc2 bsc2 hpc2 tkc2 fE nE Rc2 hbc2
    obtain rfl := Rc2
    clear fX nX
    obtain ⟨OUT, hOUT⟩ : ∃ OUT, OUT = [] ++ leL ((cs.length : Int) * 4 + 2) 1 ++ cs := ⟨_, rfl⟩
    have hOl : OUT.length ≤ 100000 := by rw [hOUT]; simp only [List.length_append, leL_length, List.length_nil]; omega
    rw [← hOUT] at hbc2
    refine wpC_of ?_
    k_fold
    (repeat' (first | (((with_reducible show wpAny _ _ (call (Value.ref _) _) _ _ _); ((show wpAny _ _ (call (Value.ref 158) [_]) _ _ _); (rename News _ _ _ _ => nXZZ); (refine useOutA (wDone _ _ _ (by assumption) _ ?hsz) (by assumption) (by assumption) (by assumption) nXZZ (by assumption) (by k_all) (by k_all) (by k_all) (by decide) ⟨rfl, rfl⟩ ?_ (fun q => q.elim)); (case hsz => omega); intro vZZ t1ZZ bsZZ hZZ tkZZ FZZ NZZ rZZ hbZZ; obtain ⟨bZZ, tvZZ, hvZZ, hbbZZ⟩ := rZZ; subst hvZZ)) <;> (try dsimp only)) | walk_at "ks"))
    (rename Fr _ _ _ _ => fY)
    exact ok _ _ _ (Fr.kept gk fY) ⟨_, _, OUT, rfl, by assumption, .inl ⟨hty, by rw [hOUT]; simp⟩⟩
  · rename _ ↔ tinyOk _ _ _ _ => hti; rename (_ : Bool) = false => hbt
    have hty : ¬ tinyOk cs.length deep token rows.length := fun q => by have := hti.mpr q; rw [hbt] at this; cases this
    refine C_nil ?_
    show wpC _ _ _ _ _ _
    refine C_execs (C_Expr (C_callName ?_))
    k_fold
    k_steps
    refine C_callK (K := hd.heap_1 w.params) (by k_is) ?_
    k_fold
    k_steps
    (rename Fr _ _ _ _ => fX; rename News _ _ _ _ => nX)
    show wpC _ _ (call (Value.ref 320) [_, _, _, _, _]) _ _ _
    refine useOutS (writeHead x dx bx sr h3 _ (by simp) cb cs hk hcz' _ _ _ deep token hd1 hd2 ht1 ht2 rows hrl) S B fX sec nX hb (fun _ q => nomatch q) (fun _ q => nomatch q) (fun _ q => nomatch q) (by decide) ⟨rfl, rfl⟩ ?_ (fun q => hE fun out z => by rcases z with ⟨z, _⟩ | ⟨_, z, _⟩; exact hty z; exact q z)
    intro v td1 bsd1 hpd1 tkd1 fE nE Rd1 hbd1
    obtain ⟨rfl, Rd1⟩ := Rd1
    clear fX nX
    refine C_execs (C_Expr (C_callAttr rfl rfl rfl ?_))
    k_fold
    k_steps
    refine C_callK (K := hd.heap_1 w.params) (by k_is) ?_
    k_fold
    k_steps
    (rename Fr _ _ _ _ => fX; rename News _ _ _ _ => nX)
    show wpC _ _ (call (Value.ref 137) [_, Value.bytes _ _]) _ _ _
    refine useOut (wRaw x dx bx h3 _ (by simp only [List.length_append, headB_len, List.length_nil]; omega) cb _ cs hk hcz') S B fX nX hbd1 (fun _ q => nomatch q) (fun _ q => nomatch q) (fun _ q => nomatch q) (by decide) ⟨rfl, rfl⟩ ?_ (fun q => q.elim)
    intro v td2 bsd2 hpd2 tkd2 fE nE Rd2 hbd2
    obtain rfl := Rd2
    clear fX nX
    obtain ⟨H, hH⟩ : ∃ H, H = headB cs.length deep token rows.length ++ cs := ⟨_, rfl⟩
    have hHl : H.length ≤ 11000 := by rw [hH, List.length_append, headB_len]; omega
    rw [List.nil_append, ← hH] at hbd2
    refine C_execs (C_If ?_)
    k_fold
    (repeat' (first | ((with_reducible (((with_reducible show wpAny _ _ (call (Value.builtin "len") [Value.ref _]) _ _ _); refine len_old (by assumption) (by assumption) (by omega) ?_; intro tZZ kZZ))) <;> (try dsimp only)) | walk_at "ks"))
    · rename (vs.length : Int) ≠ 0 => hne0
      have hne : rows ≠ [] := fun q => by rw [q] at hvl; apply hne0; rw [hvl]; rfl
      clear hb hbd1
      refine C_execs (C_Expr (C_callAttr rfl rfl rfl ?_))
      k_fold
      k_steps
      refine C_callK (K := hd.heap_1 w.params) (by k_is) ?_
      k_fold
      k_steps
      (rename Fr _ _ _ _ => fX; rename News _ _ _ _ => nX)
      show wpC _ _ (call (Value.ref 144) [_, Value.int 4 _]) _ _ _
      refine useOut (wPad x dx bx h3 _ (by omega) _) S B fX nX hbd2 (fun _ q => nomatch q) (fun _ q => nomatch q) (fun _ q => nomatch q) (by decide) ⟨rfl, rfl⟩ ?_ (fun q => q.elim)
      intro v tp bsp hpp tkp fE nE Rp hbp
      obtain rfl := Rp
      clear fX nX
      obtain ⟨H2, hH2⟩ : ∃ H2, H2 = H ++ List.replicate (padN H.length) 0 := ⟨_, rfl⟩
      have hH2l : H2.length ≤ 11010 := by have := padN_lt H.length; rw [hH2, List.length_append, List.length_replicate]; omega
      rw [← hH2] at hbp
      clear hbd2
      refine C_execs (C_If ?_)
      k_fold
      (repeat' (first | ((with_reducible (((with_reducible show wpAny _ _ (call (Value.ref 292) [_]) _ _ _); (rename News _ _ _ _ => nXZZ); (refine useNoneP (allS _ _ ?h6 ?hrl) (by assumption) (by assumption) (by assumption) nXZZ (by decide) ⟨rfl, rfl⟩ (SecsAt.keeps (by assumption) (Fr.keep (by assumption))) ?_ (fun q => q.elim)); (case hrl => assumption); (case h6 => assumption); intro vZZ hZZ tkZZ FZZ NZZ rZZ; obtain ⟨bZZ, hvZZ, hbZZ⟩ := rZZ; subst hvZZ))) <;> (try dsimp only)) | walk_at "ks"))
      · rename _ ↔ allSmall _ => hti; rename (_ : Bool) = true => hbt2
        have hal := hti.mp hbt2
        refine C_execs (C_Expr (C_callName ?_))
        k_fold
        k_steps
        refine C_callK (K := hd.heap_1 w.params) (by k_is) ?_
        k_fold
        k_steps
        (rename Fr _ _ _ _ => fX; rename News _ _ _ _ => nX)
        show wpC _ _ (call (Value.ref 306) [_, _]) _ _ _
        refine useOutS (writeSmall x dx bx sr h3 H2 (by omega) rows h6 hal.1) S B fX sec nX hbp (fun _ q => nomatch q) (fun _ q => nomatch q) (fun _ q => nomatch q) (by decide) ⟨rfl, rfl⟩ ?_ (fun q => hE fun out z => by rcases z with ⟨z, _⟩ | ⟨_, _, ⟨z, _⟩ | ⟨_, _, z, _⟩ | ⟨_, z, _⟩⟩; exact hty z; exact hne z; exact q z; exact z hal)
        intro v ts bss hps tks fE nE Rs hbs
        obtain ⟨rfl, Rs⟩ := Rs
        clear fX nX
        obtain ⟨OUT, hOUT⟩ : ∃ OUT, OUT = H2 ++ smallB rows := ⟨_, rfl⟩
        have hOl : OUT.length ≤ 100000 := by rw [hOUT, List.length_append, smallB_len]; omega
        rw [← hOUT] at hbs
        clear hbp
        refine C_nil ?_
        show wpC _ _ _ _ _ _
        refine C_nil ?_
        show wpC _ _ _ _ _ _
        refine wpC_of ?_
        k_fold
        (repeat' (first | (((with_reducible show wpAny _ _ (call (Value.ref _) _) _ _ _); ((show wpAny _ _ (call (Value.ref 158) [_]) _ _ _); (rename News _ _ _ _ => nXZZ); (refine useOutA (wDone _ _ _ (by assumption) _ ?hsz) (by assumption) (by assumption) (by assumption) nXZZ (by assumption) (by k_all) (by k_all) (by k_all) (by decide) ⟨rfl, rfl⟩ ?_ (fun q => q.elim)); (case hsz => omega); intro vZZ t1ZZ bsZZ hZZ tkZZ FZZ NZZ rZZ hbZZ; obtain ⟨bZZ, tvZZ, hvZZ, hbbZZ⟩ := rZZ; subst hvZZ)) <;> (try dsimp only)) | walk_at "ks"))
        (rename Fr _ _ _ _ => fY)
        exact ok _ _ _ (Fr.kept gk fY) ⟨_, _, OUT, rfl, by assumption, .inr ⟨hty, Rd1, .inr (.inl ⟨hne, hal, Rs, by rw [hOUT, hH2, hH]⟩)⟩⟩
      · rename _ ↔ allSmall _ => hti; rename (_ : Bool) = false => hbt2
        have hal : ¬ allSmall rows := fun q => by have := hti.mpr q; rw [hbt2] at this; cases this
        refine C_execs (C_Expr (C_callName ?_))
        k_fold
        k_steps
        refine C_callK (K := hd.heap_1 w.params) (by k_is) ?_
        k_fold
        k_steps
        (rename Fr _ _ _ _ => fX; rename News _ _ _ _ => nX)
        show wpC _ _ (call (Value.ref 313) [_, _]) _ _ _
        refine useOutS (writeFat x dx bx sr h3 H2 (by omega) rows h6 hrl) S B fX sec nX hbp (fun _ q => nomatch q) (fun _ q => nomatch q) (fun _ q => nomatch q) (by decide) ⟨rfl, rfl⟩ ?_ (fun q => hE fun out z => by rcases z with ⟨z, _⟩ | ⟨_, _, ⟨z, _⟩ | ⟨_, z, _⟩ | ⟨_, _, z, _⟩⟩; exact hty z; exact hne z; exact hal z; exact q z)
        intro v ts bss hps tks fE nE Rs hbs
        obtain ⟨rfl, Rs⟩ := Rs
        clear fX nX
        obtain ⟨OUT, hOUT⟩ : ∃ OUT, OUT = H2 ++ fatB rows := ⟨_, rfl⟩
        have hOl : OUT.length ≤ 100000 := by have := fatB_len h6; rw [hOUT, List.length_append]; omega
        rw [← hOUT] at hbs
        clear hbp
        refine C_nil ?_
        show wpC _ _ _ _ _ _
        refine C_nil ?_
        show wpC _ _ _ _ _ _
        refine wpC_of ?_
        k_fold
        (repeat' (first | (((with_reducible show wpAny _ _ (call (Value.ref _) _) _ _ _); ((show wpAny _ _ (call (Value.ref 158) [_]) _ _ _); (rename News _ _ _ _ => nXZZ); (refine useOutA (wDone _ _ _ (by assumption) _ ?hsz) (by assumption) (by assumption) (by assumption) nXZZ (by assumption) (by k_all) (by k_all) (by k_all) (by decide) ⟨rfl, rfl⟩ ?_ (fun q => q.elim)); (case hsz => omega); intro vZZ t1ZZ bsZZ hZZ tkZZ FZZ NZZ rZZ hbZZ; obtain ⟨bZZ, tvZZ, hvZZ, hbbZZ⟩ := rZZ; subst hvZZ)) <;> (try dsimp only)) | walk_at "ks"))
        (rename Fr _ _ _ _ => fY)
        exact ok _ _ _ (Fr.kept gk fY) ⟨_, _, OUT, rfl, by assumption, .inr ⟨hty, Rd1, .inr (.inr ⟨hne, hal, Rs, by rw [hOUT, hH2, hH]⟩)⟩⟩
    · rename (vs.length : Int) = 0 => hne0
      have hne : rows = [] := List.eq_nil_of_length_eq_zero (by omega)
      clear hb hbd1
      obtain ⟨OUT, hOUT⟩ : ∃ OUT, OUT = H := ⟨_, rfl⟩
      have hOl : OUT.length ≤ 100000 := by rw [hOUT]; omega
      rw [← hOUT] at hbd2
      refine C_nil ?_
      show wpC _ _ _ _ _ _
      refine wpC_of ?_
      k_fold
      (repeat' (first | (((with_reducible show wpAny _ _ (call (Value.ref _) _) _ _ _); ((show wpAny _ _ (call (Value.ref 158) [_]) _ _ _); (rename News _ _ _ _ => nXZZ); (refine useOutA (wDone _ _ _ (by assumption) _ ?hsz) (by assumption) (by assumption) (by assumption) nXZZ (by assumption) (by k_all) (by k_all) (by k_all) (by decide) ⟨rfl, rfl⟩ ?_ (fun q => q.elim)); (case hsz => omega); intro vZZ t1ZZ bsZZ hZZ tkZZ FZZ NZZ rZZ hbZZ; obtain ⟨bZZ, tvZZ, hvZZ, hbbZZ⟩ := rZZ; subst hvZZ)) <;> (try dsimp only)) | walk_at "ks"))
      (rename Fr _ _ _ _ => fY)
      exact ok _ _ _ (Fr.kept gk fY) ⟨_, _, OUT, rfl, by assumption, .inr ⟨hty, Rd1, .inl ⟨hne, by rw [hOUT, hH]⟩⟩⟩
end
section
open PySem PySem.W PySem.Calls PyProof.Rows
variable {w : World} {mean : ExcName → Option Value} {mg mb : Str → Option Value}
/-- a cell of the script -/
noncomputable def cell (ns : List Int) (p : Nat) : Int := if p < ns.length then ns.getD p 0 else 5 + 5 * (p : Int)
theorem intAt {vs : List Value} {ns : List Int} (h : IntsAre vs ns) : ∀ i, i < ns.length → ∃ n t, vs[i]? = some (.int n t) ∧ n ∈ ns := by
  induction h with
  | nil => intro i hi; exact absurd hi (Nat.not_lt_zero _)
  | cons n t _ ih =>
    intro i hi
    cases i with
    | zero => exact ⟨n, t, rfl, .head _⟩
    | succ i => obtain ⟨n', t', e, m⟩ := ih i (Nat.lt_of_succ_lt_succ hi); exact ⟨n', t', by simpa using e, .tail _ m⟩
theorem item_any {prog : Program} {w : World} {A : Around} {E : Value → Shared → Prop} {s : Shared} {value slice : Expr} {t : Addr} {l : List Value} {ns : List Int} {k lo hi : Int} {u : Tok} {Q : Value → Shared → Prop} (ht : IsTup s.heap t l.toArray) (hl : IntsAre l ns)
    {len : Int} (h01 : 0 ≤ k ∧ k < len) (hlen : len = (ns.length : Int)) (hz : ns.length ≤ 100) (hb : ∀ n ∈ ns, lo ≤ n ∧ n ≤ hi) (h : ∀ n tk, lo ≤ n ∧ n ≤ hi → Q (.int n tk) s)
    (hs : subscripted slice false (.ref t) (.int k u) = operate [.ref t, .int k u] (getItem (.ref t) (.int k u)) := by with_unfolding_all rfl) :
    wpAny (model prog w) A (subscriptTail value slice (.ref t) (.int k u)) Q E s := by
  obtain ⟨h0, h1⟩ := h01
  rw [hlen] at h1
  obtain ⟨n, tk, e, m⟩ := intAt hl k.toNat (by omega)
  have hlen' := IntsAre.length hl
  refine item_tupleT (j := k.toNat) ht (by omega) (by omega) ?_ e (h n tk (hb n m)) hs
  simp only [seqIndex?]
  rw [hlen']
  have c1 : ¬ k < 0 := by omega
  simp [c1, h0]
  omega
theorem fmodI (a b : Int) (hn : 0 < b) : 0 ≤ a.fmod b ∧ a.fmod b < b := by
  rw [Int.fmod_eq_emod_of_nonneg _ (Int.le_of_lt hn)]
  exact ⟨Int.emod_nonneg _ (Int.ne_of_gt hn), Int.emod_lt_of_pos _ hn⟩
theorem pow256_ne (k : Int) : (256 : Int) ^ k.toNat ≠ 0 := Int.ne_of_gt (Int.pow_pos (by decide))
theorem noPy256 {a k : Int} (hk : k ≤ 100) : Builtin.divisionGoesByPylong a (256 ^ k.toNat) = false := by
  refine PyProof.noPylong_of_log2 ?_
  have e : ((256 : Int) ^ k.toNat).natAbs = 256 ^ k.toNat := by rw [Int.natAbs_pow]; rfl
  rw [e]
  refine (Nat.log2_lt (Nat.ne_of_gt (Nat.pow_pos (by decide)))).mpr ?_
  rw [show (256 : Nat) = 2 ^ 8 from rfl, ← Nat.pow_mul]
  exact Nat.pow_lt_pow_right (by decide) (by omega)
theorem little_list (n : Int) (c : Nat) : List.map (fun a : Int => (n.fdiv (256 ^ a.toNat)).fmod 256) (rangeKs 0 ((c : Int) - 0).toNat) = leL n c := by
  unfold rangeKs leL
  rw [List.map_map, show ((c : Int) - 0).toNat = c by omega]
  refine List.map_congr_left fun j _ => ?_
  show (n.fdiv (256 ^ (0 + (j : Int)).toNat)).fmod 256 = _
  rw [show (0 + (j : Int)).toNat = j by omega, Int.fdiv_eq_ediv_of_nonneg _ (Int.le_of_lt (Int.pow_pos (by decide))), Int.fmod_eq_emod_of_nonneg _ (by decide)]
set_option maxHeartbeats 1000000 in
theorem lawAt (l : Addr) (vs : List Value) (ns : List Int) (hi : IntsAre vs ns) (hl : ns.length ≤ 63) (p : Nat) (hp : p ≤ 100) (tp : Tok) : Spec w mean mg mb 8 405 [.ref l, .int (p : Int) tp] []
    (fun h => h.IsList l vs.toArray) (fun _ v _ => ∃ t, v = .int (cell ns p) t) False := by
  intro A base fr s Q E S hpre ok er
  refine enter (binds := [(Str.ofString "script", .ref l), (Str.ofString "place", .int (p : Int) tp)]) [] S (List.forall_mem_nil _) (by k_is) (by k_is) (BindsTo.of_eq rfl) (locs rfl) er ?_ rfl rfl rfl (by decide)
  intro g L h₁ gk lt B X T F N sz hE
  have hls : g.IsList l vs.toArray := by obtain ⟨o, ho, q⟩ := hpre; exact ⟨o, gk _ _ List.not_mem_nil ho, q⟩
  (try dsimp only)
  show wpAny _ _ _ _ _ _
  k_fold
  k_steps
  · (rename Fr _ _ _ _ => fE)
    exact ok _ _ _ (Fr.kept gk fE) ⟨_, congrArg (fun z => Value.int z _) (by unfold cell; rw [if_pos (by omega)]; rfl)⟩
  · (rename Fr _ _ _ _ => fE)
    exact ok _ _ _ (Fr.kept gk fE) ⟨_, congrArg (fun z => Value.int z _) (by unfold cell; rw [if_neg (by omega)])⟩
set_option maxHeartbeats 1000000 in
theorem whole (n : Int) (c : Nat) (hc : c ≤ 4) (tn tw : Tok) : Spec w mean mg mb 8 429 [.int n tn, .int (c : Int) tw] []
    (fun _ => True) (fun h v h' => ∃ b, v = .bool b ∧ (b = true ↔ fits n c)) False := by
  intro A base fr s Q E S hpre ok er
  refine enter (binds := [(Str.ofString "n", .int n tn), (Str.ofString "width", .int (c : Int) tw)]) [] S (List.forall_mem_nil _) (by k_is) (by k_is) (BindsTo.of_eq rfl) (locs rfl) er ?_ rfl rfl rfl (by decide)
  intro g L h₁ gk lt B X T F N sz hE
  (try dsimp only)
  show wpAny _ _ _ _ _ _
  k_fold
  k_steps
  all_goals ((rename Fr _ _ _ _ => fE); refine ok _ _ _ (Fr.kept gk fE) ⟨_, rfl, ?_⟩; simp only [decide_eq_true_eq, fits, Int.toNat_natCast])
  · exact ⟨fun h => ⟨by assumption, h⟩, fun h => h.2⟩
  · exact ⟨fun h => absurd h (by assumption), fun h => h.1⟩
set_option maxHeartbeats 1000000 in
theorem little (n : Int) (c : Nat) (hc : c ≤ 4) (tn tw : Tok) : Spec w mean mg mb 8 422 [.int n tn, .int (c : Int) tw] []
    (fun _ => True) (fun h v h' => ∃ r vs cap, v = .ref r ∧ h.get? r = none ∧ h'.get? r = some (listO vs cap) ∧ IntsAre vs (leL n c)) False := by
  intro A base fr s Q E S hpre ok er
  refine enterC (binds := [(Str.ofString "n", .int n tn), (Str.ofString "width", .int (c : Int) tw)]) [] S (List.forall_mem_nil _) (by k_is) (by k_is) (BindsTo.of_eq rfl) rfl (by decide +kernel) er ?_ rfl rfl rfl
  intro g L h₁ tk0 cells gk lt B X T F N Y sz hE
  k_cells Y
  (try simp only [List.cons_append, List.nil_append, List.append_nil] at N)
  obtain ⟨a1, a2, a3, a4, a5⟩ := A
  obtain rfl : a1 = none := S.hh
  (try dsimp only)
  show wpAny _ _ _ _ _ _
  k_fold
  (repeat' (first | ((with_reducible (((with_reducible show wpAny _ _ (binaryOp _ (Value.int _ _) (Value.int (256 ^ _) _)) _ _ _); (with_unfolding_all refine floordiv_int (pow256_ne _) ?_ (Or.inl (noPy256 (by omega))))))) <;> (try dsimp only)) | walk_at "ks"))
  (rename Fr _ _ _ _ => fE; rename News _ _ _ _ => nE; rename IntsAre _ _ => hI)
  rw [little_list] at hI
  exact ok _ _ _ (Fr.kept gk fE) ⟨_, _, _, rfl, freshOf' gk (nE _ (.head _)).2.2 List.not_mem_nil, (nE _ (.head _)).1, hI⟩
set_option maxHeartbeats 1000000 in
theorem clause (n : Int) (tn : Tok) : Spec w mean mg mb 8 412 [.int n tn] []
    (fun _ => True) (fun h v h' => ∃ r vs cap row, v = .ref r ∧ h.get? r = none ∧ h'.get? r = some (listO vs cap) ∧ IntsAre vs row ∧ row.length = 6 ∧ ∀ n ∈ row, 0 ≤ n ∧ n ≤ 4294967295) False := by
  intro A base fr s Q E S hpre ok er
  refine enter (binds := [(Str.ofString "v", .int n tn)]) [] S (List.forall_mem_nil _) (by k_is) (by k_is) (BindsTo.of_eq rfl) (locs rfl) er ?_ rfl rfl rfl (by decide)
  intro g L h₁ gk lt B X T F N sz hE
  (try dsimp only)
  show wpAny _ _ _ _ _ _
  k_fold
  (repeat' (first | ((with_reducible (((with_reducible show wpAny _ _ (subscriptTail _ _ (Value.ref _) (Value.int _ _)) _ _ _); (rename News _ _ _ _ => nXZZ); with_unfolding_all (refine item_any (lo := 0) (hi := 4294967295) (News.isTup nXZZ (.head _)) (by repeat constructor) (fmodI _ _ (by decide)) (by rfl) (by decide) (by decide) ?_); intro nZZ tZZ hbZZ))) <;> (try dsimp only)) | walk_at "ks"))
  (rename Fr _ _ _ _ => fE; rename News _ _ _ _ => nE)
  refine ok _ _ _ (Fr.kept gk fE) ⟨_, _, _, _, rfl, freshOf' gk (nE _ (.head _)).2.2 List.not_mem_nil, (nE _ (.head _)).1, by repeat constructor, rfl, ?_⟩
  repeat (first | exact List.forall_mem_nil _ | refine List.forall_mem_cons.mpr ⟨by assumption, ?_⟩)
end
section
open PySem PySem.W PySem.Calls PyProof.Rows
variable {w : World} {mean : ExcName → Option Value} {mg mb : Str → Option Value}
noncomputable def W1 : List Int := [2, 2, 1, 2, 1, 4]
noncomputable def W2 : List Int := [4, 4, 4, 4, 4, 4]
noncomputable def tupO (vs : List Value) : Obj := { cls := .type "tuple", data := .seq vs.toArray }
theorem getD_some {ns : List Int} {i : Nat} {n : Int} (h : ns[i]? = some n) : ns.getD i 0 = n := by simp [List.getD, h]
theorem item_sym {prog : Program} {w : World} {A : Around} {E : Value → Shared → Prop} {s : Shared} {value slice : Expr} {t : Addr} {l : List Value} {ns : List Int} {k : Int} {u : Tok} {Q : Value → Shared → Prop} (ht : IsTup s.heap t l.toArray) (hl : IntsAre l ns)
    (h01 : 0 ≤ k ∧ k < (ns.length : Int)) (hz : ns.length ≤ 100) (h : ∀ tk, Q (.int (ns.getD k.toNat 0) tk) s)
    (hs : subscripted slice false (.ref t) (.int k u) = operate [.ref t, .int k u] (getItem (.ref t) (.int k u)) := by with_unfolding_all rfl) :
    wpAny (model prog w) A (subscriptTail value slice (.ref t) (.int k u)) Q E s := by
  obtain ⟨h0, h1⟩ := h01
  have hk : k.toNat < ns.length := by omega
  obtain ⟨tk, e⟩ := IntsAre.get hl k.toNat ns[k.toNat] (List.getElem?_eq_getElem hk)
  have hlen' := IntsAre.length hl
  refine item_tupleT (j := k.toNat) ht (by omega) (by omega) ?_ e ?_ hs
  · simp only [seqIndex?]
    rw [hlen']
    have c1 : ¬ k < 0 := by omega
    simp [c1, h0]
    omega
  · rw [← getD_some (List.getElem?_eq_getElem hk)]; exact h tk
theorem wholeI (n wv : Int) (h : 0 ≤ wv ∧ wv ≤ 4) (tn tw : Tok) : Spec w mean mg mb 8 429 [.int n tn, .int wv tw] []
    (fun _ => True) (fun _ v _ => ∃ b, v = .bool b ∧ (b = true ↔ fits n wv.toNat)) False := by
  obtain ⟨c, rfl⟩ := Int.eq_ofNat_of_zero_le h.1
  exact whole n c (by omega) tn tw
theorem littleI (n wv : Int) (h : 0 ≤ wv ∧ wv ≤ 4) (tn tw : Tok) : Spec w mean mg mb 8 422 [.int n tn, .int wv tw] []
    (fun _ => True) (fun h v h' => ∃ r vs cap, v = .ref r ∧ h.get? r = none ∧ h'.get? r = some (listO vs cap) ∧ IntsAre vs (leL n wv.toNat)) False := by
  obtain ⟨c, rfl⟩ := Int.eq_ofNat_of_zero_le h.1
  exact little n c (by omega) tn tw
/-- a call that gives a new list of ints -/
theorem useNewL {n n' : Nat} {A : Around} {base h₀ : Heap} {fr : List Env} {s s₀ : Shared} {L : Addr} {m : Str → Option Value} {env : Env} {news : List (Addr × Obj)} {D₀ : List Addr} {Q E₀ E₁ : Value → Shared → Prop} {f : Addr} {vs : List Value} {exc : Prop} {pre : Heap → Prop} {R : List Value → Prop}
    (h : Spec w mean mg mb n f vs [] pre (fun h v h' => ∃ r vs cap, v = .ref r ∧ h.get? r = none ∧ h'.get? r = some (listO vs cap) ∧ R vs) exc) (S : Site w mean mg mb n' A base fr s₀ D₀) (B : Below A base fr h₀) (F : Fr h₀ L s.heap m)
    (N : News h₀ L s.heap news) (hn : n + 1 ≤ n') (hk : env.frame = some L ∧ env.scope.kind = .function) (hp : pre s.heap)
    (ok : ∀ r vs cap h' tk, Fr h₀ L h' m → News h₀ L h' ((r, listO vs cap) :: news) → (∀ q ∈ news, @Ne Nat q.1 r) → R vs → Q (.ref r) { s with heap := h', toks := tk })
    (er : exc → ∀ e h' tk, Exc base fr e h' → h₀.UpToSlots h' → E₀ (.ref e) { s with heap := h', toks := tk }) :
    wpAny (MD w) (A.deeper env) (call (.ref f) vs) Q
      (fun e s' => wpAny (MD w) (A.deeper env) (leaving env e) (fun _ s'' => E₀ e s'') (fun e' s'' => E₁ e' s'') s') s := by
  refine use h S B F N (fun _ hd => nomatch hd) hn hk hp (fun v h' tk K F' P => ?_) er
  obtain ⟨r, vs, cap, rfl, f1, o1, r1⟩ := P
  have z := newAt' F N f1
  exact ok r vs cap h' tk F' (List.forall_mem_cons.mpr ⟨⟨o1, z.1, z.2.1⟩, News.keepBut N K fun q hq => ⟨hq, fun hm => nomatch hm⟩⟩) z.2.2 r1
theorem rowInts {g : Heap} {a : Addr} {o : Obj} {row : List Int} (ho : g.get? a = some o) (h : IsRow o row) : ∃ l, IsTup g a l.toArray ∧ IntsAre l row := by
  obtain ⟨vs, rfl, hi⟩ := h
  exact ⟨vs, ⟨_, ho, rfl, _, rfl⟩, hi⟩
theorem W1_b (k : Nat) : 0 ≤ W1.getD k 0 ∧ W1.getD k 0 ≤ 4 := by
  match k with
  | 0 | 1 | 2 | 3 | 4 | 5 => exact ⟨by decide, by decide⟩
  | k + 6 => exact ⟨by simp [W1], by simp [W1]⟩
theorem W2_b (k : Nat) : 0 ≤ W2.getD k 0 ∧ W2.getD k 0 ≤ 4 := by
  match k with
  | 0 | 1 | 2 | 3 | 4 | 5 => exact ⟨by decide, by decide⟩
  | k + 6 => exact ⟨by simp [W2], by simp [W2]⟩
/-- the first j of a row's inner places fit the small widths -/
noncomputable def fitsTo (row : List Int) (j : Nat) : Prop := ∀ k, 1 ≤ k → k ≤ j → fits (row.getD k 0) (W1.getD k 0).toNat
theorem fitsTo_mono {row : List Int} {i j : Nat} (h : i ≤ j) (x : fitsTo row j) : fitsTo row i := fun k a b => x k a (Nat.le_trans b h)
theorem fitsTo4 {row : List Int} (hf : ∀ n ∈ row, fits n 4) (h6 : row.length = 6) : fitsTo row 4 ↔ fitsSmall row := by
  obtain ⟨r0, r1, r2, r3, r4, r5, rfl⟩ := six h6
  simp only [List.forall_mem_cons] at hf
  obtain ⟨_, h1, h2, h3, h4, _⟩ := hf
  unfold fits at h1 h2 h3 h4
  constructor
  · intro x
    have a1 := x 1 (by omega) (by omega)
    have a2 := x 2 (by omega) (by omega)
    have a3 := x 3 (by omega) (by omega)
    have a4 := x 4 (by omega) (by omega)
    simp only [fits, W1, List.getD_cons_succ, List.getD_cons_zero] at a1 a2 a3 a4
    simp only [fitsSmall, List.getD_cons_succ, List.getD_cons_zero]
    have e1 : (256 : Int) ^ (2 : Int).toNat = 65536 := by decide
    have e2 : (256 : Int) ^ (1 : Int).toNat = 256 := by decide
    rw [e1] at a1 a3; rw [e2] at a2 a4
    omega
  · intro x k hk1 hk4
    simp only [fitsSmall, List.getD_cons_succ, List.getD_cons_zero] at x
    have e1 : (256 : Int) ^ (2 : Int).toNat = 65536 := by decide
    have e2 : (256 : Int) ^ (1 : Int).toNat = 256 := by decide
    rcases (by omega : k = 1 ∨ k = 2 ∨ k = 3 ∨ k = 4) with rfl | rfl | rfl | rfl <;> simp only [fits, W1, List.getD_cons_succ, List.getD_cons_zero, e1, e2] <;> omega
theorem take_all {P : List Int → Prop} {rows : List (List Int)} {i : Nat} {row : List Int} (h : rows[i]? = some row) : (∀ r ∈ rows.take (i + 1), P r) ↔ (∀ r ∈ rows.take i, P r) ∧ P row := by
  rw [take_snoc h]
  constructor
  · exact fun x => ⟨fun r hr => x r (List.mem_append_left _ hr), x row (List.mem_append_right _ (.head _))⟩
  · rintro ⟨x, y⟩ r hr
    rcases List.mem_append.mp hr with hr | hr
    · exact x r hr
    · rw [List.mem_singleton.mp hr]; exact y
theorem intsSix {vs : List Value} {a b c d e f : Int} (h : IntsAre vs [a, b, c, d, e, f]) : ∃ t0 t1 t2 t3 t4 t5, vs = [.int a t0, .int b t1, .int c t2, .int d t3, .int e t4, .int f t5] := by
  cases h with | cons _ _ h1 => cases h1 with | cons _ _ h2 => cases h2 with | cons _ _ h3 => cases h3 with | cons _ _ h4 => cases h4 with | cons _ _ h5 => cases h5 with | cons _ _ h6 => cases h6 with | nil => exact ⟨_, _, _, _, _, _, rfl⟩
noncomputable def hdS (n : Nat) : List Int := leL 1 1 ++ (leL (12 * (n : Int) + 4) 1 ++ leL 0 2)
noncomputable def hdF (n : Nat) : List Int := leL 65 1 ++ (leL ((24 * (n : Int) + 4) % 256) 1 ++ leL ((24 * (n : Int) + 4) / 256) 2)
theorem leL1 (x : Int) : leL x 1 = [x % 256] := by simp [leL, List.range_succ]
theorem leL2 (x : Int) : leL x 2 = [x % 256, x / 256 % 256] := by simp [leL, List.range_succ]
theorem leL3 (x : Int) : leL x 3 = [x % 256, x / 256 % 256, x / 65536 % 256] := by simp [leL, List.range_succ]
theorem leL4 (x : Int) : leL x 4 = [x % 256, x / 256 % 256, x / 65536 % 256, x / 16777216 % 256] := by simp [leL, List.range_succ]
theorem hdS_eq {n : Nat} (h : n ≤ 20) {k : Int} (hk : k = 12) : [1, 4 + (n : Int) * k, 0, 0] = hdS n := by
  subst hk
  have e : 4 + (n : Int) * 12 = (12 * (n : Int) + 4) % 256 := by omega
  simp only [hdS, leL1, leL2, e, List.cons_append, List.nil_append]
  rfl
theorem hdF_eq {n : Nat} (h : n ≤ 1000) {k : Int} (hk : k = 24) : [65] ++ leL (4 + (n : Int) * k) 3 = hdF n := by
  subst hk
  rw [show 4 + (n : Int) * 24 = 24 * (n : Int) + 4 by omega]
  simp only [hdF, leL1, leL2, leL3, List.cons_append, List.nil_append, List.cons.injEq, and_true]
  have h1 : (24 * (n : Int) + 4) / 65536 = 0 := by omega
  have h2 : (24 * (n : Int) + 4) / 256 / 256 = 0 := by omega
  rw [h1, h2]
  exact ⟨by decide, by omega, trivial, rfl⟩
theorem smallB_hd (rows : List (List Int)) : smallB rows = hdS rows.length ++ rows.flatMap smallRowB := by simp only [smallB, hdS, List.append_assoc]
theorem fatB_hd (rows : List (List Int)) : fatB rows = hdF rows.length ++ rows.flatMap fatRowB := by simp only [fatB, hdF, List.append_assoc]
noncomputable def SecSt (g : Heap) (L : Addr) (h : Heap) (sr : Addr) (rows : List (List Int)) : Prop :=
  ∃ (m : Str → Option Value) (wd o : Addr) (vsW vsO : List Value) (W H : List Int) (cap : Nat), Fr g L h m ∧ m (Str.ofString "rows") = some (.ref sr) ∧ m (Str.ofString "widths") = some (.ref wd) ∧ m (Str.ofString "out") = some (.ref o) ∧
    News g L h [(o, listO vsO cap), (wd, tupO vsW)] ∧ IntsAre vsW W ∧ IntsAre vsO H ∧ ((W = W1 ∧ allSmall rows ∧ H = hdS rows.length) ∨ (W = W2 ∧ ¬ allSmall rows ∧ H = hdF rows.length))
noncomputable def rowB (W row : List Int) : List Int := (List.range 6).flatMap fun k => leL (row.getD k 0) (W.getD k 0).toNat
theorem rowB1 {row : List Int} : rowB W1 row = smallRowB row := by simp [rowB, smallRowB, W1, List.range_succ]
theorem rowB2 {row : List Int} (h6 : row.length = 6) : rowB W2 row = fatRowB row := by
  obtain ⟨a, b, c, d, e, f, rfl⟩ := six h6
  simp [rowB, fatRowB, W2, List.range_succ]
theorem flat_congr {f g : List Int → List Int} : ∀ {rows : List (List Int)}, (∀ r ∈ rows, f r = g r) → rows.flatMap f = rows.flatMap g
  | [], _ => rfl
  | r :: rows, h => by rw [List.flatMap_cons, List.flatMap_cons, h r (.head _), flat_congr fun q hq => h q (.tail _ hq)]
theorem front_self {l : List (Str × Value)} {m : Str → Option Value} {g h : Heap} {L : Addr} (F : Fr g L h m) (k : ∀ p ∈ l, m p.1 = some p.2) : Fr g L h (front l m) := by rw [front_eq k]; exact F
theorem sum_le' {α : Type} {f : α → List Int} {n : Nat} : ∀ {l : List α}, (∀ a ∈ l, (f a).length ≤ n) → (l.map fun a => (f a).length).sum ≤ n * l.length
  | [], _ => by simp
  | a :: l, h => by
    have h1 := h a (.head _)
    have h2 := sum_le' (l := l) fun b hb => h b (.tail _ hb)
    simp only [List.map_cons, List.sum_cons, List.length_cons, Nat.mul_succ]
    omega
theorem flat_le {α : Type} {f : α → List Int} {n : Nat} {l : List α} (h : ∀ a ∈ l, (f a).length ≤ n) : (l.flatMap f).length ≤ n * l.length := by
  rw [List.length_flatMap]; exact sum_le' h
theorem rowB_len {W : List Int} (hb : ∀ k : Nat, 0 ≤ W.getD k 0 ∧ W.getD k 0 ≤ 4) (row : List Int) : (rowB W row).length ≤ 24 := by
  have := flat_le (f := fun k => leL (row.getD k 0) (W.getD k 0).toNat) (n := 4) (l := List.range 6) fun k _ => by rw [leL_length]; have := hb k; omega
  rw [List.length_range] at this
  exact this
set_option maxHeartbeats 4000000 in
theorem lawSection (sr : Addr) (rows : List (List Int)) (h6 : Rows6 rows) (hrl : rows.length ≤ 100) (hf4 : ∀ row ∈ rows, ∀ n ∈ row, fits n 4) : Spec w mean mg mb 12 436 [.ref sr] [] (fun h => SecsAt h sr rows)
    (fun h v h' => ∃ r vs cap, v = .ref r ∧ h.get? r = none ∧ h'.get? r = some (listO vs cap) ∧ ((allSmall rows ∧ IntsAre vs (smallB rows)) ∨ (¬ allSmall rows ∧ IntsAre vs (fatB rows)))) False := by
  intro A base fr s Q E S hpre ok er
  refine enter (binds := [(Str.ofString "rows", .ref sr)]) [] S (List.forall_mem_nil _) (by k_is) (by k_is) (BindsTo.of_eq rfl) (locs rfl) er ?_ rfl rfl rfl (by decide)
  intro g L h₁ gk lt B X T F N sz hE
  have sec := hpre.move gk (fun _ q => nomatch q)
  obtain ⟨vs, cap, hsr, hvs⟩ := sec
  have hvl := hvs.length
  have hlst : g.IsList sr vs.toArray := ⟨_, hsr, rfl, _, rfl⟩
  (try dsimp only)
  show wpAny _ _ (execs ([_] ++ _) _) _ _ _
  refine A_block ?_
  k_fold
  k_steps
  unfold Later
  refine A_execs (For_invV g rfl rfl ?_)
  show wpAny _ _ _ _ _ _
  k_fold
  k_steps
  rename Fr _ _ _ _ => lF; rename News _ _ _ _ => lN
  refine V_iter_list (fun i m news => ∃ wd vsW W, m (Str.ofString "rows") = some (.ref sr) ∧ m (Str.ofString "widths") = some (.ref wd) ∧ news = [(wd, tupO vsW)] ∧ IntsAre vsW W ∧ ((W = W1 ∧ ∀ row ∈ rows.take i, fitsSmall row) ∨ (W = W2 ∧ ¬ ∀ row ∈ rows.take i, fitsSmall row))) S.hh hlst lF lN ⟨_, _, W1, rfl, rfl, rfl, by repeat constructor, .inl ⟨rfl, by simp⟩⟩ ?_ ?_
  · intro I oI lI i v m₁ news₁ h tk0 hi hP hJ hI F1 N1
    obtain ⟨wd, vsW, W, e1, e2, rfl, hW, hWc⟩ := hJ
    rw [List.getElem?_toArray] at hP
    obtain ⟨a, o, row, rfl, ho, hrow, hri⟩ := hvs.get i v hP
    have hmem : row ∈ rows := List.mem_of_getElem? hri
    have hr6 := (h6 _ hmem).1
    obtain ⟨vsR, hT, hR⟩ := rowInts ho hrow
    have hRl := hR.length
    have F2 : Fr g L h (fun y => if y = Str.ofString "row" then some (.ref a) else front [(Str.ofString "widths", .ref wd), (Str.ofString "rows", .ref sr)] m₁ y) := by
      rw [front_eq (List.forall_mem_cons.mpr ⟨e2, List.forall_mem_cons.mpr ⟨e1, List.forall_mem_nil _⟩⟩)]; exact F1
    have n1 := hI _ (.head _)
    clear F1 lF lN
    refine A_execs (For_invV g rfl rfl ?_)
    show wpAny _ _ _ _ _ _
    k_fold
    k_steps
    rename Fr _ _ _ _ => iF; rename News _ _ _ _ => iN; rename IsRange _ _ _ _ _ _ _ _ => lR
    refine V_iter_range (n := 4) (fun j m news => ∃ wd vsW W, m (Str.ofString "rows") = some (.ref sr) ∧ m (Str.ofString "row") = some (.ref a) ∧ m (Str.ofString "widths") = some (.ref wd) ∧ news = [(wd, tupO vsW), (I, oI)] ∧ @Ne Nat wd I ∧ IntsAre vsW W ∧ ((W = W1 ∧ (∀ row ∈ rows.take i, fitsSmall row) ∧ fitsTo row j) ∨ (W = W2 ∧ ¬ ((∀ row ∈ rows.take i, fitsSmall row) ∧ fitsTo row j)))) S.hh lR (by decide) (by decide) iF (News.perm' iN (news' := [(wd, tupO vsW), (I, oI)]) (by intro q hq; simp only [List.mem_cons, List.not_mem_nil, or_false] at hq ⊢; exact hq.symm)) ⟨wd, vsW, W, rfl, rfl, rfl, rfl, n1, hW, ?_⟩ ?_ ?_
    · rcases hWc with ⟨hw, hc⟩ | ⟨hw, hc⟩
      · exact .inl ⟨hw, hc, fun k h1 h2 => by omega⟩
      · exact .inr ⟨hw, fun q => hc q.1⟩
    · intro I' oI' lI' j v m₁ news₁ h tk0 hj hP hJ hI' F1 N1
      obtain ⟨t0, rfl⟩ := hP
      clear hWc hW iF iN lR
      obtain ⟨wd, vsW, W, e1, e2, e3, rfl, nwI, hW, hWc⟩ := hJ
      have hWl : W.length = 6 := by rcases hWc with ⟨rfl, _⟩ | ⟨rfl, _⟩ <;> rfl
      have hWb : ∀ k : Nat, 0 ≤ W.getD k 0 ∧ W.getD k 0 ≤ 4 := by rcases hWc with ⟨rfl, _⟩ | ⟨rfl, _⟩; exact W1_b; exact W2_b
      have F2 : Fr g L h (fun y => if y = Str.ofString "place" then some (.int (1 + (j : Int)) t0) else front [(Str.ofString "widths", .ref wd), (Str.ofString "row", .ref a), (Str.ofString "rows", .ref sr)] m₁ y) := by
        rw [front_eq (List.forall_mem_cons.mpr ⟨e3, List.forall_mem_cons.mpr ⟨e2, List.forall_mem_cons.mpr ⟨e1, List.forall_mem_nil _⟩⟩⟩)]; exact F1
      have N2 : News g L h [(wd, tupO vsW), (I, oI), (I', oI')] := News.perm' N1 (by intro q hq; simp only [List.mem_cons, List.not_mem_nil, or_false] at hq ⊢; rcases hq with e | e | e; exact .inr (.inl e); exact .inr (.inr e); exact .inl e)
      have p1 := hI' _ (.head _)
      have p2 := hI' _ (.tail _ (.head _))
      clear F1 N1
      show wpAny _ _ _ _ _ _
      k_fold
      (repeat' (first | ((with_reducible (((with_reducible show wpAny _ _ (subscriptTail _ _ (Value.ref _) (Value.int _ _)) _ _ _); (rename News _ _ _ _ => nXZZ); (with_unfolding_all (first | refine item_sym (Fr.tup (by assumption) (by assumption)) (by assumption) ?b01 ?bz ?_ | refine item_sym (News.isTup nXZZ (.head _)) (by assumption) ?b01 ?bz ?_ | refine item_sym (News.isTup nXZZ (.tail _ (.head _))) (by assumption) ?b01 ?bz ?_ | refine item_sym (News.isTup nXZZ (.tail _ (.tail _ (.head _)))) (by assumption) ?b01 ?bz ?_)); (case b01 => omega); (case bz => omega); intro tZZ))) <;> (try dsimp only)) | ((with_reducible (((with_reducible show wpAny _ _ (call (Value.ref 429) [Value.int _ _, Value.int _ _]) _ _ _); (rename News _ _ _ _ => nXZZ); (refine useNone (wholeI _ _ ?wb _ _) (by assumption) (by assumption) (by assumption) nXZZ (by decide) ⟨rfl, rfl⟩ ?_ (fun q => q.elim)); (case wb => (rename ∀ k : Nat, 0 ≤ _ ∧ _ ≤ 4 => hWbZZ); exact hWbZZ _); intro vZZ hZZ tkZZ FZZ NZZ rZZ; obtain ⟨bZZ, hvZZ, hbZZ⟩ := rZZ; subst hvZZ))) <;> (try dsimp only)) | walk_at "ks"))
      · (rename Fr _ _ _ _ => fE; rename News _ _ _ _ => nE; rename _ ↔ fits _ _ => hb1; rename (_ : Bool) = true => hb2)
        have hfit := hb1.mp hb2
        rw [show (1 + (j : Int)).toNat = j + 1 by omega] at hfit
        refine TurnI.intro (tk := _) fE nE [(wd, _), (I, _)] (List.forall_mem_cons.mpr ⟨.tail _ (.tail _ (.head _)), List.forall_mem_cons.mpr ⟨.head _, List.forall_mem_cons.mpr ⟨.tail _ (.head _), List.forall_mem_nil _⟩⟩⟩) (List.forall_mem_cons.mpr ⟨p1, List.forall_mem_cons.mpr ⟨p2, List.forall_mem_nil _⟩⟩) ⟨wd, vsW, W, rfl, rfl, rfl, rfl, nwI, hW, ?_⟩
        rcases hWc with ⟨rfl, c1, c2⟩ | ⟨rfl, c1⟩
        · refine .inl ⟨rfl, c1, fun k k1 k2 => ?_⟩
          by_cases hk : k ≤ j
          · exact c2 k k1 hk
          · obtain rfl : k = j + 1 := by omega
            exact hfit
        · exact .inr ⟨rfl, fun q => c1 ⟨q.1, fitsTo_mono (Nat.le_succ _) q.2⟩⟩
      · (rename Fr _ _ _ _ => fE; rename News _ _ _ _ => nE; rename _ ↔ fits _ _ => hb1; rename (_ : Bool) = false => hb2)
        have hfit : ¬ fits (row.getD (j + 1) 0) (W.getD (j + 1) 0).toNat := fun q => by
          rw [← show (1 + (j : Int)).toNat = j + 1 by omega] at q
          have := hb1.mpr q; rw [hb2] at this; cases this
        refine TurnI.intro (tk := _) fE nE [(_, _), (I, _)] (List.forall_mem_cons.mpr ⟨.tail _ (.tail _ (.tail _ (.head _))), List.forall_mem_cons.mpr ⟨.head _, List.forall_mem_cons.mpr ⟨.tail _ (.tail _ (.head _)), List.forall_mem_nil _⟩⟩⟩) (List.forall_mem_cons.mpr ⟨by k_ne, List.forall_mem_cons.mpr ⟨p2, List.forall_mem_nil _⟩⟩) ⟨_, _, W2, rfl, rfl, rfl, rfl, by k_ne, by repeat constructor, .inr ⟨rfl, fun q => ?_⟩⟩
        rcases hWc with ⟨rfl, c1, c2⟩ | ⟨rfl, c1⟩
        · exact hfit (q.2 (j + 1) (by omega) (by omega))
        · exact c1 ⟨q.1, fitsTo_mono (Nat.le_succ _) q.2⟩
    · intro h tk2 m' news' F1 N1 hJ
      clear hWc hW iF iN lR
      obtain ⟨wd, vsW, W, e1, e2, e3, rfl, nwI, hW, hWc⟩ := hJ
      unfold Later
      refine wpAny_execs_nil ?_
      refine TurnI.intro (tk := _) F1 N1 [(wd, _)] (List.forall_mem_cons.mpr ⟨.tail _ (.head _), List.forall_mem_cons.mpr ⟨.head _, List.forall_mem_nil _⟩⟩) (List.forall_mem_cons.mpr ⟨nwI, List.forall_mem_nil _⟩) ⟨wd, vsW, W, e1, e3, rfl, hW, ?_⟩
      rw [take_all hri, ← fitsTo4 (hf4 _ hmem) hr6]
      exact hWc
  · intro h tk2 m' news' F1 N1 hJ
    clear lF lN
    obtain ⟨wd, vsW, W, e1, e2, rfl, hW, hWc⟩ := hJ
    have htk : rows.take vs.toArray.size = rows := by rw [List.size_toArray, hvl, List.take_length]
    rw [htk] at hWc
    unfold Later
    have F2 : Fr g L h (front [(Str.ofString "widths", .ref wd), (Str.ofString "rows", .ref sr)] m') := by
      rw [front_eq (List.forall_mem_cons.mpr ⟨e2, List.forall_mem_cons.mpr ⟨e1, List.forall_mem_nil _⟩⟩)]; exact F1
    clear F1
    obtain ⟨a1, a2, a3, a4, a5⟩ := A
    obtain rfl : a1 = none := S.hh
    show wpAny _ _ (execs ([_, _, _] ++ _) _) _ _ _
    refine A_block (wpAny_mono (Q := fun f s' => f = .next ∧ ∃ h' tk', s' = { s with heap := h', toks := tk' } ∧ SecSt g L h' sr rows) ?_ (fun f s' hf => ?_) (fun _ _ x => x))
    · have hWl : W.length = 6 := by rcases hWc with ⟨rfl, _⟩ | ⟨rfl, _⟩ <;> rfl
      have hWl' := hW.length
      rcases hWc with ⟨rfl, hc⟩ | ⟨rfl, hc⟩
      all_goals (obtain ⟨u0, u1, u2, u3, u4, u5, rfl⟩ := intsSix hW)
      all_goals (replace N1 : News g L h [(wd, { cls := .type "tuple", data := .seq #[_, _, _, _, _, _] })] := N1)
      all_goals show wpAny _ _ _ _ _ _
      all_goals k_fold
      all_goals (repeat' (first | ((with_reducible (((with_reducible show wpAny _ _ (call (Value.builtin "len") [Value.ref _]) _ _ _); refine len_old (by assumption) (by assumption) (by omega) ?_; intro tZZ kZZ))) <;> (try dsimp only)) | ((with_reducible (((with_reducible show wpAny _ _ (call (Value.ref 422) [Value.int _ _, Value.int _ _]) _ _ _); (rename News _ _ _ _ => nXZZ); (refine useNewL (littleI _ _ ?wb _ _) (by assumption) (by assumption) (by assumption) nXZZ (by decide) ⟨rfl, rfl⟩ trivial ?_ (fun q => q.elim)); (case wb => first | decide | ((rename ∀ k : Nat, 0 ≤ _ ∧ _ ≤ 4 => hWbZZ); exact hWbZZ _)); intro rZZ vsZZ capZZ hZZ tkZZ FZZ NZZ oZZ r1ZZ))) <;> (try dsimp only)) | ((with_reducible (((with_reducible show wpAny _ _ (subscriptTail _ _ (Value.ref _) (Value.int _ _)) _ _ _); (rename News _ _ _ _ => nXZZ); (with_unfolding_all (first | refine item_sym (Fr.tup (by assumption) (by assumption)) (by assumption) ?b01 ?bz ?_ | refine item_sym (News.isTup nXZZ (.head _)) (by assumption) ?b01 ?bz ?_ | refine item_sym (News.isTup nXZZ (.tail _ (.head _))) (by assumption) ?b01 ?bz ?_ | refine item_sym (News.isTup nXZZ (.tail _ (.tail _ (.head _)))) (by assumption) ?b01 ?bz ?_)); (case b01 => omega); (case bz => omega); intro tZZ))) <;> (try dsimp only)) | walk_at "ks"))
      · (rename Fr _ _ _ _ => fE; rename News _ _ _ _ => nE; rename IntsAre _ ([65] ++ _) => hI)
        exact ⟨_, _, _, _, _, W2, _, _, fE, rfl, rfl, rfl, News.perm' nE (news' := [(_, _), (_, _)]) (List.forall_mem_cons.mpr ⟨.head _, List.forall_mem_cons.mpr ⟨.tail _ (.tail _ (.tail _ (.head _))), List.forall_mem_nil _⟩⟩), by repeat constructor, hI, .inr ⟨rfl, fun q => by have := q.1; omega, by rw [← hvl]; exact hdF_eq (by omega) (by decide)⟩⟩
      · (rename Fr _ _ _ _ => fE; rename News _ _ _ _ => nE)
        exact ⟨_, _, _, _, _, W1, _, _, fE, rfl, rfl, rfl, News.perm' nE (news' := [(_, _), (_, _)]) (List.forall_mem_cons.mpr ⟨.head _, List.forall_mem_cons.mpr ⟨.tail _ (.head _), List.forall_mem_nil _⟩⟩), by repeat constructor, (by repeat constructor : IntsAre _ [1, 4 + (vs.length : Int) * W1.sum, 0, 0]), .inl ⟨rfl, ⟨by omega, hc⟩, by rw [← hvl]; exact hdS_eq (by omega) (by decide)⟩⟩
      · (rename Fr _ _ _ _ => fE; rename News _ _ _ _ => nE; rename IntsAre _ ([65] ++ _) => hI)
        exact ⟨_, _, _, _, _, W2, _, _, fE, rfl, rfl, rfl, News.perm' nE (news' := [(_, _), (_, _)]) (List.forall_mem_cons.mpr ⟨.head _, List.forall_mem_cons.mpr ⟨.tail _ (.tail _ (.tail _ (.head _))), List.forall_mem_nil _⟩⟩), by repeat constructor, hI, .inr ⟨rfl, fun q => by have := q.1; omega, by rw [← hvl]; exact hdF_eq (by omega) (by decide)⟩⟩
      · (rename Fr _ _ _ _ => fE; rename News _ _ _ _ => nE; rename IntsAre _ ([65] ++ _) => hI)
        exact ⟨_, _, _, _, _, W2, _, _, fE, rfl, rfl, rfl, News.perm' nE (news' := [(_, _), (_, _)]) (List.forall_mem_cons.mpr ⟨.head _, List.forall_mem_cons.mpr ⟨.tail _ (.tail _ (.tail _ (.head _))), List.forall_mem_nil _⟩⟩), by repeat constructor, hI, .inr ⟨rfl, fun q => hc q.2, by rw [← hvl]; exact hdF_eq (by omega) (by decide)⟩⟩
    · obtain ⟨rfl, h', tk', rfl, hSt⟩ := hf
      clear F2 N1 hW hWc
      obtain ⟨mS, wd', o', vsW', vsO', W, H, capO, sF, s1, s2, s3, sN, sW, sO, sC⟩ := hSt
      have hWl : W.length = 6 := by rcases sC with ⟨rfl, _⟩ | ⟨rfl, _⟩ <;> rfl
      have hWb : ∀ k : Nat, 0 ≤ W.getD k 0 ∧ W.getD k 0 ≤ 4 := by rcases sC with ⟨rfl, _⟩ | ⟨rfl, _⟩; exact W1_b; exact W2_b
      generalize hAg : ({ handled := none, depth := a2, frames := a3, guards := a4, units := a5 } : Around) = A' at *
      have sF2 := front_self sF (l := [(Str.ofString "rows", .ref sr), (Str.ofString "widths", .ref wd'), (Str.ofString "out", .ref o')]) (List.forall_mem_cons.mpr ⟨s1, List.forall_mem_cons.mpr ⟨s2, List.forall_mem_cons.mpr ⟨s3, List.forall_mem_nil _⟩⟩⟩)
      clear sF
      unfold Later
      refine A_execs (For_invV g rfl rfl ?_)
      show wpAny _ _ _ _ _ _
      k_fold
      k_steps
      rename Fr _ _ _ _ => lF; rename News _ _ _ _ => lN
      refine V_iter_list (fun i m news => ∃ wd o vsW vsO cap, m (Str.ofString "widths") = some (.ref wd) ∧ m (Str.ofString "out") = some (.ref o) ∧ news = [(o, listO vsO cap), (wd, tupO vsW)] ∧ IntsAre vsW W ∧ IntsAre vsO (H ++ (rows.take i).flatMap (rowB W))) S.hh hlst lF lN ⟨_, _, _, _, _, rfl, rfl, rfl, sW, by simpa using sO⟩ ?_ ?_
      · intro I oI lI i v m₁ news₁ h tk0 hi hP hJ hI F1 N1
        clear lF lN sO sW
        try clear sF2
        obtain ⟨wd, o, vsW, vsO, cap, e1, e2, rfl, hW, hO⟩ := hJ
        rw [List.getElem?_toArray] at hP
        obtain ⟨a, oa, row, rfl, ho, hrow, hri⟩ := hvs.get i v hP
        have hmem : row ∈ rows := List.mem_of_getElem? hri
        have hr6 := (h6 _ hmem).1
        obtain ⟨vsR, hT, hR⟩ := rowInts ho hrow
        have n1 := hI _ (.head _)
        have n2 := hI _ (.tail _ (.head _))
        have F2 : Fr g L h (fun y => if y = Str.ofString "row" then some (.ref a) else front [(Str.ofString "widths", .ref wd), (Str.ofString "out", .ref o)] m₁ y) := by
          rw [front_eq (List.forall_mem_cons.mpr ⟨e1, List.forall_mem_cons.mpr ⟨e2, List.forall_mem_nil _⟩⟩)]; exact F1
        clear F1
        refine A_execs (For_invV g rfl rfl ?_)
        show wpAny _ _ _ _ _ _
        k_fold
        k_steps
        rename Fr _ _ _ _ => iF; rename News _ _ _ _ => iN; rename IsRange _ _ _ _ _ _ _ _ => lR
        refine V_iter_range (n := 6) (fun j m news => ∃ wd o vsW vsO cap, m (Str.ofString "row") = some (.ref a) ∧ m (Str.ofString "widths") = some (.ref wd) ∧ m (Str.ofString "out") = some (.ref o) ∧ news = [(o, listO vsO cap), (wd, tupO vsW), (I, oI)] ∧ @Ne Nat o I ∧ @Ne Nat wd I ∧ IntsAre vsW W ∧
          IntsAre vsO ((H ++ (rows.take i).flatMap (rowB W)) ++ (List.range j).flatMap fun k => leL (row.getD k 0) (W.getD k 0).toNat)) S.hh lR (by decide) (by decide) iF (News.perm' iN (news' := [(o, _), (wd, _), (I, _)]) (List.forall_mem_cons.mpr ⟨.tail _ (.head _), List.forall_mem_cons.mpr ⟨.tail _ (.tail _ (.head _)), List.forall_mem_cons.mpr ⟨.head _, List.forall_mem_nil _⟩⟩⟩)) ⟨wd, o, vsW, vsO, cap, rfl, rfl, rfl, rfl, n1, n2, hW, by simpa using hO⟩ ?_ ?_
        · intro I' oI' lI' j v m₁ news₁ h tk0 hj hP hJ hI' F1 N1
          obtain ⟨t0, rfl⟩ := hP
          clear hO hW iF iN lR
          obtain ⟨wd, o, vsW, vsO, cap, e1, e2, e3, rfl, no, nw, hW, hO⟩ := hJ
          have F2 : Fr g L h (fun y => if y = Str.ofString "place" then some (.int (0 + (j : Int)) t0) else front [(Str.ofString "widths", .ref wd), (Str.ofString "row", .ref a), (Str.ofString "out", .ref o)] m₁ y) := by
            rw [front_eq (List.forall_mem_cons.mpr ⟨e2, List.forall_mem_cons.mpr ⟨e1, List.forall_mem_cons.mpr ⟨e3, List.forall_mem_nil _⟩⟩⟩)]; exact F1
          have p1 := hI' _ (.head _)
          have p2 := hI' _ (.tail _ (.head _))
          have p3 := hI' _ (.tail _ (.tail _ (.head _)))
          clear F1
          obtain ⟨P, hP⟩ : ∃ P, P = (H ++ (rows.take i).flatMap (rowB W)) ++ (List.range j).flatMap fun k => leL (row.getD k 0) (W.getD k 0).toNat := ⟨_, rfl⟩
          have hPl : P.length ≤ 10000 := by
            have q1 := flat_le (f := rowB W) (n := 24) (l := rows.take i) fun r _ => rowB_len hWb r
            have q2 := flat_le (f := fun k => leL (row.getD k 0) (W.getD k 0).toNat) (n := 4) (l := List.range j) fun k _ => by rw [leL_length]; have := hWb k; omega
            have q3 : H.length ≤ 4 := by rcases sC with ⟨_, _, rfl⟩ | ⟨_, _, rfl⟩ <;> simp [hdS, hdF, leL_length]
            rw [List.length_take] at q1
            rw [List.length_range] at q2
            rw [hP, List.length_append, List.length_append]
            omega
          rw [← hP] at hO
          have hWt : ∀ k : Nat, (W.getD k 0).toNat ≤ 4 := fun k => by have := hWb k; omega
          have ej : (0 + (j : Int)).toNat = j := by omega
          show wpAny _ _ _ _ _ _
          k_fold
          (repeat' (first | ((with_reducible (((with_reducible show wpAny _ _ (subscriptTail _ _ (Value.ref _) (Value.int _ _)) _ _ _); (rename News _ _ _ _ => nXZZ); (with_unfolding_all (first | refine item_sym (Fr.tup (by assumption) (by assumption)) (by assumption) ?b01 ?bz ?_ | refine item_sym (News.isTup nXZZ (.head _)) (by assumption) ?b01 ?bz ?_ | refine item_sym (News.isTup nXZZ (.tail _ (.head _))) (by assumption) ?b01 ?bz ?_ | refine item_sym (News.isTup nXZZ (.tail _ (.tail _ (.head _)))) (by assumption) ?b01 ?bz ?_)); (case b01 => omega); (case bz => omega); intro tZZ))) <;> (try dsimp only)) | ((((with_reducible show wpAny _ _ (call (Value.ref 422) [Value.int _ _, Value.int _ _]) _ _ _); (rename News _ _ _ _ => nXZZ); (refine useNewL (littleI _ _ ?wb _ _) (by assumption) (by assumption) (by assumption) nXZZ (by decide) ⟨rfl, rfl⟩ trivial ?_ (fun q => q.elim)); (case wb => first | decide | ((rename ∀ k : Nat, 0 ≤ _ ∧ _ ≤ 4 => hWbZZ); exact hWbZZ _)); intro rZZ vsZZ capZZ hZZ tkZZ FZZ NZZ oZZ r1ZZ)) <;> (try dsimp only)) | ((with_reducible (((with_reducible show wpAny _ _ (binaryOp _ (Value.ref _) (Value.ref _)) _ _ _); (rename News _ _ _ _ => nXZZ); (with_unfolding_all refine kmk_add_ints (by assumption) nXZZ (News.isList nXZZ (.tail _ (.tail _ (.head _)))) (News.isList nXZZ (.head _)) (by assumption) (by assumption) ?_ ?zz); (case zz => rw [leL_length]; (rename ∀ k : Nat, Int.toNat _ ≤ 4 => hWtZZ); exact Nat.le_trans (Nat.add_le_add (by assumption) (hWtZZ _)) (by rw [sizeLine_eq]; decide)); intro DZZ wsZZ hZZ FZZ NZZ l1ZZ hIZZ; (try k_lt l1ZZ)))) <;> (try dsimp only)) | walk_at "ks"))
          (rename Fr _ _ _ _ => fE; rename News _ _ _ _ => nE; rename IntsAre _ (P ++ _) => hI2)
          rw [ej] at hI2
          refine TurnI.intro (tk := _) fE nE [(_, _), (wd, _), (I, _)] (List.forall_mem_cons.mpr ⟨.tail _ (.tail _ (.head _)), List.forall_mem_cons.mpr ⟨.head _, List.forall_mem_cons.mpr ⟨.tail _ (.tail _ (.tail _ (.tail _ (.head _)))), List.forall_mem_cons.mpr ⟨.tail _ (.tail _ (.tail _ (.tail _ (.tail _ (.head _))))), List.forall_mem_nil _⟩⟩⟩⟩) (List.forall_mem_cons.mpr ⟨by k_ne, List.forall_mem_cons.mpr ⟨p2, List.forall_mem_cons.mpr ⟨p3, List.forall_mem_nil _⟩⟩⟩) ⟨wd, _, vsW, _, _, rfl, rfl, rfl, rfl, by k_ne, nw, hW, ?_⟩
          rw [List.range_succ, List.flatMap_append, ← List.append_assoc, ← hP, List.flatMap_cons, List.flatMap_nil, List.append_nil]
          exact hI2
        · intro h tk2 m' news' F1 N1 hJ
          clear hO hW iF iN lR
          obtain ⟨wd, o, vsW, vsO, cap, e1, e2, e3, rfl, no, nw, hW, hO⟩ := hJ
          unfold Later
          refine wpAny_execs_nil ?_
          refine TurnI.intro (tk := _) F1 N1 [(o, _), (wd, _)] (List.forall_mem_cons.mpr ⟨.tail _ (.tail _ (.head _)), List.forall_mem_cons.mpr ⟨.head _, List.forall_mem_cons.mpr ⟨.tail _ (.head _), List.forall_mem_nil _⟩⟩⟩) (List.forall_mem_cons.mpr ⟨no, List.forall_mem_cons.mpr ⟨nw, List.forall_mem_nil _⟩⟩) ⟨wd, o, vsW, vsO, cap, e2, e3, rfl, hW, ?_⟩
          rw [take_snoc hri, List.flatMap_append, ← List.append_assoc, List.flatMap_cons, List.flatMap_nil, List.append_nil]
          exact hO
      · intro h tk2 m' news' F1 N1 hJ
        clear lF lN
        obtain ⟨wd, o, vsW, vsO, cap, e1, e2, rfl, hW, hO⟩ := hJ
        have htk : rows.take vs.toArray.size = rows := by rw [List.size_toArray, hvl, List.take_length]
        rw [htk] at hO
        have F2 : Fr g L h (front [(Str.ofString "out", .ref o)] m') := by
          rw [front_eq (List.forall_mem_cons.mpr ⟨e2, List.forall_mem_nil _⟩)]; exact F1
        clear F1
        unfold Later
        show wpAny _ _ _ _ _ _
        k_fold
        k_steps
        (rename Fr _ _ _ _ => fE; rename News _ _ _ _ => nE)
        refine ok _ _ _ (Fr.kept gk fE) ⟨_, _, _, rfl, freshOf' gk (nE _ (.head _)).2.2 List.not_mem_nil, (nE _ (.head _)).1, ?_⟩
        rcases sC with ⟨rfl, c1, rfl⟩ | ⟨rfl, c1, rfl⟩
        · exact .inl ⟨c1, by rw [smallB_hd, ← flat_congr fun r _ => rowB1]; exact hO⟩
        · exact .inr ⟨c1, by rw [fatB_hd, ← flat_congr fun r hr => rowB2 (h6 r hr).1]; exact hO⟩
end
section
open PySem PySem.W PySem.Calls PyProof.Rows
variable {w : World} {mean : ExcName → Option Value} {mg mb : Str → Option Value}
noncomputable def LayOk (deep token : Int) (rows : List (List Int)) : Prop := HeadOk deep token ∧ ∀ row ∈ rows, fatRowOk row
noncomputable def rowData (row : List Int) : PyData := .tuple (row.map PyData.int)
noncomputable def rowsData (rows : List (List Int)) : PyData := .list (rows.map rowData)
theorem readsInts {h : Heap} {vs : List Value} {ns : List Int} (x : IntsAre vs ns) : ReadsAll h vs (ns.map PyData.int) [] := by
  induction x with
  | nil => exact .nil
  | cons n t _ ih => exact ReadsAll.cons (as := []) (bs := []) (Reads.int n t) ih
theorem readsRow {h : Heap} {a : Addr} {o : Obj} {row : List Int} (ho : h.get? a = some o) (r : IsRow o row) : Reads h (.ref a) (rowData row) [] := by
  obtain ⟨vs, rfl, hi⟩ := r
  exact reads_tuple_at ho rfl rfl (readsInts hi)
theorem readsRowsAt {h : Heap} {vs : List Value} {rows : List (List Int)} (x : RowsAt (fun a o => h.get? a = some o) vs rows) : ReadsAll h vs (rows.map rowData) [] := by
  induction x with
  | nil => exact .nil
  | cons p r _ ih => exact ReadsAll.cons (as := []) (bs := []) (readsRow p r) ih
theorem readsRows {h : Heap} {sr : Addr} {rows : List (List Int)} (x : SecsAt h sr rows) : Reads h (.ref sr) (rowsData rows) [sr] := by
  obtain ⟨vs, cap, h1, h2⟩ := x
  exact reads_list_at h1 rfl rfl (readsRowsAt h2)
theorem eqvInts : ∀ ns : List Int, PyData.eqvAll (ns.map PyData.int) (ns.map PyData.int) = true
  | [] => rfl
  | n :: ns => by simp [PyData.eqvAll, PyData.eqv, eqvInts ns]
theorem useNoneE {n n' : Nat} {A : Around} {base h₀ : Heap} {fr : List Env} {s s₀ : Shared} {L : Addr} {m : Str → Option Value} {env : Env} {news : List (Addr × Obj)} {D₀ : List Addr} {Q E : Value → Shared → Prop} {f : Addr} {vs : List Value} {exc : Prop}
    {R : Value → Prop} (h : Spec w mean mg mb n f vs [] (fun _ => True) (fun _ v _ => R v) exc) (S : Site w mean mg mb n' A base fr s₀ D₀) (B : Below A base fr h₀) (F : Fr h₀ L s.heap m)
    (N : News h₀ L s.heap news) (hn : n + 1 ≤ n') (hk : env.frame = some L ∧ env.scope.kind = .function) (hno : ¬ exc)
    (ok : ∀ v h' tk, Fr h₀ L h' m → News h₀ L h' news → R v → Q v { s with heap := h', toks := tk }) :
    wpAny (MD w) (A.deeper env) (call (.ref f) vs) Q E s :=
  h _ base _ s Q _ (S.body (D := []) B F N (fun _ hd => nomatch hd) hk hn) trivial (fun v h' tk K P => ok v h' tk (Fr.keepBut (D := []) F N (fun _ hd => nomatch hd) K) (News.keepBut (D := []) N K fun q hq => ⟨hq, fun hm => nomatch hm⟩) P) fun q => (hno q).elim
theorem truthy_old {prog : Program} {A : Around} {E : Value → Shared → Prop} {s : Shared} {g : Heap} {L r : Addr} {m : Str → Option Value} {vs : List Value} {n : Nat} {Q : Bool → Shared → Prop} (F : Fr g L s.heap m) (hl : g.IsList r vs.toArray) (hn : vs.length = n) (hz : n ≤ 1000000) (h : ∀ k, Q (decide (0 < n)) { s with toks := k }) :
    wpAny (model prog w) A (truthy (.ref r)) Q E s := by
  have hl' : s.heap.IsList r vs.toArray := by obtain ⟨o, ho, q⟩ := hl; exact ⟨o, F.keep _ _ ho, q⟩
  refine wpAny_truthy_list hl' (by simp; omega) ?_
  have e : (!vs.toArray.isEmpty) = decide (0 < n) := by
    subst hn
    cases vs <;> simp
  rw [e]
  exact h _
theorem fold_rep (a : Value) : ∀ (n : Nat) (acc : Array Value), List.foldl (fun x1 x2 => x1 ++ x2) acc (List.replicate n #[a]) = acc ++ (List.replicate n a).toArray
  | 0, acc => by simp
  | n + 1, acc => by
    rw [List.replicate_succ, List.foldl_cons, fold_rep a n, List.replicate_succ]
    apply Array.toList_inj.mp
    simp
theorem ints_rep (t : Tok) : ∀ n : Nat, IntsAre (List.replicate n (Value.int 0 t)) (List.replicate n 0)
  | 0 => .nil
  | n + 1 => .cons 0 t (ints_rep t n)
theorem mul0 {prog : Program} {A : Around} {E : Value → Shared → Prop} {s : Shared} {h₀ : Heap} {L l : Addr} {m : Str → Option Value} {news : List (Addr × Obj)} {t u : Tok} {k : Int} {cap : Nat} {Q : Value → Shared → Prop} (F : Fr h₀ L s.heap m) (N : News h₀ L s.heap ((l, W.listOf #[.int 0 t] cap) :: news)) (hk : 0 ≤ k ∧ k < 4)
    (h : ∀ D ws h', Fr h₀ L h' m → News h₀ L h' ((D, listO ws 0) :: (l, W.listOf #[.int 0 t] cap) :: news) → (∀ p ∈ (l, W.listOf #[.int 0 t] cap) :: news, @LT.lt Nat _ p.1 D) → IntsAre ws (List.replicate k.toNat 0) → Q (.ref D) { s with heap := h' }) :
    wpAny (model prog w) A (binaryOp .Mult (.ref l) (.int k u)) Q E s := by
  refine mul_list F N (items := #[.int 0 t]) (N _ (.head _)).1 (by omega) (by omega) (by simp; omega) fun h' F' N' => ?_
  have e : List.foldl (fun x1 x2 => x1 ++ x2) #[] (List.replicate (if (#[Value.int 0 t] : Array Value).isEmpty = true then 0 else k.toNat) #[Value.int 0 t]) = (List.replicate k.toNat (Value.int 0 t)).toArray := by
    rw [if_neg (by simp), fold_rep]; simp
  rw [e] at N'
  exact h _ _ h' F' N' (fun p hp => Heap.lt_size (N p hp).1) (ints_rep t _)
theorem In_nil : KBa.In [] := fun _ h => nomatch h
theorem In_cons {n : Int} {ns : List Int} (h : 0 ≤ n ∧ n < 256) (k : KBa.In ns) : KBa.In (n :: ns) := List.forall_mem_cons.mpr ⟨h, k⟩
theorem In_app {a b : List Int} (h : KBa.In a) (k : KBa.In b) : KBa.In (a ++ b) := fun n hn => (List.mem_append.mp hn).elim (h n) (k n)
theorem In_leL (n : Int) (c : Nat) : KBa.In (leL n c) := fun k hk => by
  obtain ⟨j, _, rfl⟩ := List.mem_map.mp hk
  exact ⟨Int.emod_nonneg _ (by decide), Int.emod_lt_of_pos _ (by decide)⟩
theorem In_rep (n : Nat) : KBa.In (List.replicate n 0) := fun k hk => by rw [(List.mem_replicate.mp hk).2]; exact ⟨by decide, by decide⟩
theorem In_flat {α : Type} {f : α → List Int} {l : List α} (h : ∀ a ∈ l, KBa.In (f a)) : KBa.In (l.flatMap f) := fun n hn => by
  obtain ⟨a, ha, hm⟩ := List.mem_flatMap.mp hn
  exact h a ha n hm
theorem In_small (rows : List (List Int)) : KBa.In (smallB rows) := In_app (In_leL _ _) (In_app (In_leL _ _) (In_app (In_leL _ _) (In_flat fun r _ => In_app (In_leL _ _) (In_app (In_leL _ _) (In_app (In_leL _ _) (In_app (In_leL _ _) (In_app (In_leL _ _) (In_leL _ _))))))))
theorem In_fat (rows : List (List Int)) : KBa.In (fatB rows) := In_app (In_leL _ _) (In_app (In_leL _ _) (In_app (In_leL _ _) (In_flat fun r _ => In_flat fun n _ => In_leL n 4)))
theorem canLayInts : ∀ ns : List Int, PyData.canLayAll0 (ns.map PyData.int) = true
  | [] => rfl
  | n :: ns => by simp [PyData.canLayAll0, PyData.canLay0, canLayInts ns]
theorem depthInts : ∀ ns : List Int, PyData.depthAll (ns.map PyData.int) = 0
  | [] => rfl
  | n :: ns => by simp [PyData.depthAll, PyData.depth, depthInts ns]
theorem canLayRows : ∀ rows : List (List Int), PyData.canLayAll0 (rows.map rowData) = true
  | [] => rfl
  | r :: rows => by simp [PyData.canLayAll0, PyData.canLay0, rowData, canLayInts r, canLayRows rows]
theorem depthRows : ∀ rows : List (List Int), PyData.depthAll (rows.map rowData) ≤ 1
  | [] => Nat.zero_le _
  | r :: rows => by
    have := depthRows rows
    simp [PyData.depthAll, PyData.depth, rowData, depthInts r]
    omega
theorem shapedRows (rows : List (List Int)) : PySem.SeqAt.shaped (rowsData rows) = true := by
  have := depthRows rows
  simp only [PySem.SeqAt.shaped, rowsData, PyData.canLay0, PyData.depth, canLayRows, Bool.true_and, decide_eq_true_eq]
  omega
theorem eqvRows : ∀ rows : List (List Int), PyData.eqvAll (rows.map rowData) (rows.map rowData) = true
  | [] => rfl
  | r :: rows => by simp [PyData.eqvAll, PyData.eqv, rowData, eqvInts r, eqvRows rows]
theorem rows_eq_nil {prog : Program} {A : Around} {E : Value → Shared → Prop} {s : Shared} {g : Heap} {L r l : Addr} {m : Str → Option Value} {rows : List (List Int)} {cap : Nat} {Q : Value → Shared → Prop} (F : Fr g L s.heap m) (sec : SecsAt g r rows) (hl : s.heap.get? l = some (W.listOf #[] cap)) (hu : A.units + 64 < cLine)
    (h : Q (.bool (decide (rows.length = 0))) s) : wpAny (model prog w) A (compareOp .Eq (.ref r) (.ref l)) Q E s := by
  refine eq_dataH (readsRows (sec.keeps F.keep)) (reads_list_at (xs := []) hl rfl rfl .nil) (shapedRows rows) (by decide) hu ?_
  have e : PyData.eqv (rowsData rows) (.list []) = decide (rows.length = 0) := by cases rows <;> simp [rowsData, PyData.eqv, PyData.eqvAll]
  rw [e]; exact h
noncomputable def tinyB (cs : List Int) : List Int := [4 * (cs.length : Int) + 2] ++ cs
noncomputable def LayR (cs : List Int) (deep token : Int) (rows : List (List Int)) (v : Value) : Prop := ∃ b t, v = .bytes b t ∧ KBw.bInts b = tinyB cs ∧ tinyOk cs.length deep token rows.length
theorem Site.eqRoom {n : Nat} {A : Around} {base : Heap} {fr : List Env} {s : Shared} {D : List Addr} (S : Site w mean mg mb n A base fr s D) {env : Env} : (A.deeper env).units + 64 < cLine := by
  have h := S.unit
  show A.units + 3 + 64 < cLine
  have c : 9100 < cLine := by decide
  omega
noncomputable def firstOf (n : Nat) (token : Int) : Int := 3 + (if n = 0 then 0 else 8) + (if token = 0 then 0 else 16)
theorem flags_leL (n : Nat) (token : Int) : leL (flagsOf n token) 2 = [firstOf n token, 48] := by
  rw [leL2]
  unfold flagsOf firstOf
  (repeat' split) <;> rfl
theorem firstOf_in (n : Nat) (token : Int) : 0 ≤ firstOf n token ∧ firstOf n token < 256 := by
  unfold firstOf
  (repeat' split) <;> omega
theorem head_list (len : Nat) (deep token : Int) (nr : Nat) : [firstOf nr token, 48] ++ leL deep 2 ++ leL (len : Int) 4 ++ leL token 4 = headB len deep token nr := by
  rw [headB, flags_leL]; simp only [List.append_assoc]
noncomputable def LaySt (g : Heap) (L : Addr) (h : Heap) (l : List (Str × Value)) (nm : Str) (P : Value → Prop) : Prop := ∃ m v, P v ∧ Fr g L h (front ((nm, v) :: l) m) ∧ News g L h []
theorem ints_repf (t : Tok) : ∀ n : Nat, IntsAre (List.replicate n [Value.int 0 t]).flatten (List.replicate n 0)
  | 0 => .nil
  | n + 1 => by rw [List.replicate_succ, List.flatten_cons]; exact .cons 0 t (ints_repf t n)
theorem empty_iff {vs : List Value} {n : Nat} (h : vs.length = n) : vs.isEmpty = true ↔ n = 0 := by subst h; cases vs <;> simp
theorem empty_not {vs : List Value} {n : Nat} (h : vs.length = n) (e : vs.isEmpty = false) : ¬ n = 0 := fun q => by rw [(empty_iff h).mpr q] at e; cases e
theorem pad_eq (n : Nat) : ((-(n : Int)).fmod 4).toNat = padN (12 + n) := by
  rw [Int.fmod_eq_emod_of_nonneg _ (by decide)]
  unfold padN
  omega
theorem smallRow_of {row : List Int} (h6 : row.length = 6) (hs : fitsSmall row) (hf : fatRowOk row) : smallRowOk row := by
  obtain ⟨r0, r1, r2, r3, r4, r5, rfl⟩ := six h6
  obtain ⟨h1, h2⟩ := hf
  simp only [List.forall_mem_cons] at h2
  obtain ⟨f0, f1, f2, f3, f4, f5, _⟩ := h2
  simp only [fitsSmall, List.getD_cons_succ, List.getD_cons_zero] at hs
  simp only [okSort, List.getD_cons_zero] at h1
  unfold fits at f0 f1 f2 f3 f4
  simp only [smallRowOk, okSort, fits, List.getD_cons_succ, List.getD_cons_zero]
  refine ⟨h1, by omega, by omega, by omega, by omega, by omega, f5⟩
theorem fatRow_of {row : List Int} (h6 : row.length = 6) (hs : smallRowOk row) : fatRowOk row := by
  obtain ⟨r0, r1, r2, r3, r4, r5, rfl⟩ := six h6
  simp only [smallRowOk, fits, List.getD_cons_succ, List.getD_cons_zero] at hs
  obtain ⟨h1, f0, f1, f2, f3, f4, f5⟩ := hs
  refine ⟨h1, ?_⟩
  simp only [List.forall_mem_cons, fits]
  exact ⟨by omega, by omega, by omega, by omega, by omega, f5, List.forall_mem_nil _⟩
set_option maxHeartbeats 4000000 in
theorem lawLay (cb : Array UInt8) (tc td tt : Tok) (cs : List Int) (hk : KBw.bInts cb = cs) (hcz : cs.length ≤ 1000) (deep token : Int) (hd1 : -1099511627776 ≤ deep) (hd2 : deep ≤ 1099511627776) (ht1 : -1099511627776 ≤ token) (ht2 : token ≤ 1099511627776) (sr : Addr) (rows : List (List Int)) (h6 : Rows6 rows) (hrl : rows.length ≤ 100) :
    Spec w mean mg mb 16 441 [.bytes cb tc, .int deep td, .int token tt, .ref sr] [] (fun h => SecsAt h sr rows)
    (fun _ v _ => (v = .none ∧ ¬ LayOk deep token rows) ∨ (∃ b t, v = .bytes b t ∧ LayOk deep token rows ∧ WriteOk cs deep token rows (KBw.bInts b))) False := by
  intro A base fr s Q E S hpre ok er
  refine enter (binds := [(Str.ofString "code", .bytes cb tc), (Str.ofString "deep", .int deep td), (Str.ofString "token", .int token tt), (Str.ofString "rows", .ref sr)]) [] S (List.forall_mem_nil _) (by k_is) (by k_is) (BindsTo.of_eq rfl) (locs rfl) er ?_ rfl rfl rfl (by decide)
  intro g L h₁ gk lt B X T F N sz hE
  have sec := hpre.move gk (fun _ q => nomatch q)
  have sec' := sec
  obtain ⟨vs, cap, hsr, hvs⟩ := sec'
  have hvl := hvs.length
  have hlst : g.IsList sr vs.toArray := ⟨_, hsr, rfl, _, rfl⟩
  (try dsimp only)
  show wpAny _ _ (execs ([_] ++ _) _) _ _ _
  refine A_block ?_
  k_fold
  (repeat' (first | ((with_reducible (((with_reducible show wpAny _ _ (call (Value.ref 429) [Value.int _ _, Value.int _ _]) _ _ _); (rename News _ _ _ _ => nXZZ); (refine useNoneE (wholeI _ _ (by decide) _ _) (by assumption) (by assumption) (by assumption) nXZZ (by decide) ⟨rfl, rfl⟩ (fun q => q.elim) ?_); intro vZZ hZZ tkZZ FZZ NZZ rZZ; obtain ⟨bZZ, hvZZ, hbZZ⟩ := rZZ; subst hvZZ))) <;> (try dsimp only)) | walk_at "ks"))
  rotate_left
  · (rename Fr _ _ _ _ => fE; rename _ ↔ fits token _ => hb1; rename (_ : Bool) = false => hb2)
    exact ok _ _ _ (Fr.kept gk fE) (.inl ⟨rfl, fun q => absurd (hb1.mpr q.1.2) (by rw [hb2]; decide)⟩)
  · (rename Fr _ _ _ _ => fE; rename _ ↔ fits deep _ => hb1; rename (_ : Bool) = false => hb2)
    exact ok _ _ _ (Fr.kept gk fE) (.inl ⟨rfl, fun q => absurd (hb1.mpr q.1.1) (by rw [hb2]; decide)⟩)
  have hhd : HeadOk deep token := by
    rename _ ↔ fits deep _ => hb1; rename _ ↔ fits token _ => hb2
    exact ⟨hb1.mp (by assumption), hb2.mp (by assumption)⟩
  unfold Later
  refine A_execs (For_invV g rfl rfl ?_)
  show wpAny _ _ _ _ _ _
  k_fold
  k_steps
  rename Fr _ _ _ _ => lF; rename News _ _ _ _ => lN
  refine V_iter_list (fun i m news => m (Str.ofString "code") = some (.bytes cb tc) ∧ m (Str.ofString "deep") = some (.int deep td) ∧ m (Str.ofString "token") = some (.int token tt) ∧ m (Str.ofString "rows") = some (.ref sr) ∧ news = [] ∧ ∀ row ∈ rows.take i, fatRowOk row) S.hh hlst lF lN ⟨rfl, rfl, rfl, rfl, rfl, by simp⟩ ?_ ?_
  · intro I oI lI i v m₁ news₁ h tk0 hi hP hJ hI F1 N1
    obtain ⟨e1, e2, e3, e4, rfl, hok⟩ := hJ
    rw [List.getElem?_toArray] at hP
    obtain ⟨a, oa, row, rfl, ho, hrow, hri⟩ := hvs.get i v hP
    have hmem : row ∈ rows := List.mem_of_getElem? hri
    have hr6 := (h6 _ hmem).1
    obtain ⟨r0, r1, r2, r3, r4, r5, t0, t1, t2, t3, t4, t5, rfl, hT⟩ := rowTup ho hrow hr6
    have hR : IntsAre [.int r0 t0, .int r1 t1, .int r2 t2, .int r3 t3, .int r4 t4, .int r5 t5] [r0, r1, r2, r3, r4, r5] := by repeat constructor
    have F2 : Fr g L h (fun y => if y = Str.ofString "row" then some (.ref a) else front [(Str.ofString "code", .bytes cb tc), (Str.ofString "deep", .int deep td), (Str.ofString "token", .int token tt), (Str.ofString "rows", .ref sr)] m₁ y) := by
      rw [front_eq (List.forall_mem_cons.mpr ⟨e1, List.forall_mem_cons.mpr ⟨e2, List.forall_mem_cons.mpr ⟨e3, List.forall_mem_cons.mpr ⟨e4, List.forall_mem_nil _⟩⟩⟩⟩)]; exact F1
    clear F1 lF lN
    obtain ⟨a1, a2, a3, a4, a5⟩ := A
    obtain rfl : a1 = none := S.hh
    show wpAny _ _ _ _ _ _
    k_fold
    (repeat' (first | ((with_reducible (((with_reducible show wpAny _ _ (subscriptTail _ _ (Value.ref _) (Value.int _ _)) _ _ _); (rename News _ _ _ _ => nXZZ); (with_unfolding_all (first | refine item_sym (Fr.tup (by assumption) (by assumption)) (by assumption) ?b01 ?bz ?_ | refine item_sym (News.isTup nXZZ (.head _)) (by assumption) ?b01 ?bz ?_ | refine item_sym (News.isTup nXZZ (.tail _ (.head _))) (by assumption) ?b01 ?bz ?_ | refine item_sym (News.isTup nXZZ (.tail _ (.tail _ (.head _)))) (by assumption) ?b01 ?bz ?_)); (case b01 => omega); (case bz => omega); intro tZZ))) <;> (try dsimp only)) | ((with_reducible ((with_reducible show wpAny _ _ (eval (Expr.ListComp _ _ _ _) _) _ _ _); with_unfolding_all (refine ListComp_T (_F₀ := by assumption) (by rfl) (by decide) (by rfl) (by decide) (by rfl) ?_))) <;> (try dsimp only)) | walk_at "ks"))
    · refine SrcT.intro (n := 6) (by rfl) (by assumption) (by assumption) (by assumption) (Nat.le_of_ble_eq_true rfl) (by rfl) ?_
      intro g'
      (repeat' (first | ((with_reducible (((with_reducible show wpAny _ _ (call (Value.ref 429) [Value.int _ _, Value.int _ _]) _ _ _); (rename News _ _ _ _ => nXZZ); (refine useNoneE (wholeI _ _ (by decide) _ _) (by assumption) (by assumption) (by assumption) nXZZ (by decide) ⟨rfl, rfl⟩ (fun q => q.elim) ?_); intro vZZ hZZ tkZZ FZZ NZZ rZZ; obtain ⟨bZZ, hvZZ, hbZZ⟩ := rZZ; subst hvZZ))) <;> (try dsimp only)) | walk_at "ks"))
      all_goals rename _ ↔ fits r0 _ => c0
      all_goals rename _ ↔ fits r1 _ => c1
      all_goals rename _ ↔ fits r2 _ => c2
      all_goals rename _ ↔ fits r3 _ => c3
      all_goals rename _ ↔ fits r4 _ => c4
      all_goals rename _ ↔ fits r5 _ => c5
      all_goals rename List.any _ _ = true => hso
      · (rename Fr _ _ _ _ => fE; rename News _ _ _ _ => nE; rename (_ && _) = true => hall)
        simp only [Bool.and_eq_true] at hall
        obtain ⟨x0, x1, x2, x3, x4, x5⟩ := hall
        refine TurnI.intro (tk := _) fE nE [] (List.forall_mem_cons.mpr ⟨.tail _ (.tail _ (.head _)), List.forall_mem_nil _⟩) (List.forall_mem_nil _) ⟨rfl, rfl, rfl, rfl, rfl, (take_all hri).mpr ⟨hok, okSort_iff.mp hso, ?_⟩⟩
        exact List.forall_mem_cons.mpr ⟨c0.mp x0, List.forall_mem_cons.mpr ⟨c1.mp x1, List.forall_mem_cons.mpr ⟨c2.mp x2, List.forall_mem_cons.mpr ⟨c3.mp x3, List.forall_mem_cons.mpr ⟨c4.mp x4, List.forall_mem_cons.mpr ⟨c5.mp x5, List.forall_mem_nil _⟩⟩⟩⟩⟩⟩
      · (rename Fr _ _ _ _ => fE; rename (_ && _) = false => hall)
        refine ok _ _ _ (Fr.kept gk fE) (.inl ⟨rfl, fun q => ?_⟩)
        have z := (q.2 _ hmem).2
        simp only [List.forall_mem_cons] at z
        obtain ⟨z0, z1, z2, z3, z4, z5, _⟩ := z
        rw [c0.mpr z0, c1.mpr z1, c2.mpr z2, c3.mpr z3, c4.mpr z4, c5.mpr z5] at hall
        cases hall
    · (rename Fr _ _ _ _ => fE; rename List.any _ _ = false => hso)
      refine ok _ _ _ (Fr.kept gk fE) (.inl ⟨rfl, fun q => ?_⟩)
      have z := okSort_iff.mpr (q.2 _ hmem).1
      rw [show ([r0, r1, r2, r3, r4, r5] : List Int).getD 0 0 = [r0, r1, r2, r3, r4, r5].getD (Int.toNat 0) 0 from rfl, hso] at z
      cases z
  · intro h tk2 m' news' F1 N1 hJ
    clear lF lN
    obtain ⟨e1, e2, e3, e4, rfl, hok⟩ := hJ
    have htk : rows.take vs.toArray.size = rows := by rw [List.size_toArray, hvl, List.take_length]
    rw [htk] at hok
    have hlay : LayOk deep token rows := ⟨hhd, hok⟩
    have F2 : Fr g L h (front [(Str.ofString "code", .bytes cb tc), (Str.ofString "deep", .int deep td), (Str.ofString "token", .int token tt), (Str.ofString "rows", .ref sr)] m') := by
      rw [front_eq (List.forall_mem_cons.mpr ⟨e1, List.forall_mem_cons.mpr ⟨e2, List.forall_mem_cons.mpr ⟨e3, List.forall_mem_cons.mpr ⟨e4, List.forall_mem_nil _⟩⟩⟩⟩)]; exact F1
    clear F1
    unfold Later
    obtain ⟨a1, a2, a3, a4, a5⟩ := A
    obtain rfl : a1 = none := S.hh
    show wpAny _ _ (execs ([_] ++ _) _) _ _ _
    refine A_block (wpAny_mono (Q := fun f s' => (f = .next ∧ ¬ tinyOk cs.length deep token rows.length ∧ ∃ h' tk' m', s' = { s with heap := h', toks := tk' } ∧ Fr g L h' (front [(Str.ofString "code", .bytes cb tc), (Str.ofString "deep", .int deep td), (Str.ofString "token", .int token tt), (Str.ofString "rows", .ref sr)] m') ∧ News g L h' []) ∨
      (∃ v h' tk' m', f = .ret v ∧ s' = { s with heap := h', toks := tk' } ∧ Fr g L h' m' ∧ LayR cs deep token rows v)) ?_ (fun f s' hf => ?_) (fun _ _ x => x))
    · show wpAny _ _ _ _ _ _
      k_fold
      k_steps
      · rename News _ _ _ _ => nX
        refine rows_eq_nil (by assumption) (by assumption) (nX _ (.head _)).1 ?ru ?_
        case ru => exact Site.eqRoom (by assumption)
        k_steps
        · (rename Fr _ _ _ _ => fE; rename ((UInt8.toNat _ : Nat) : Int) = _ => hb9)
          exact .inr ⟨_, _, _, _, rfl, rfl, fE, _, _, rfl, KBw.ints_app (ls := cs) (ks := [4 * (cs.length : Int) + 2]) (congrArg (fun z : Int => [z]) hb9) hk, by unfold tinyOk; have := hhd.1.1; omega⟩
        · (rename Fr _ _ _ _ => fE)
          exact .inl ⟨rfl, by unfold tinyOk; omega, _, _, _, rfl, fE, fun _ q => nomatch q⟩
      all_goals ((rename Fr _ _ _ _ => fE); exact .inl ⟨rfl, by unfold tinyOk; omega, _, _, _, rfl, fE, fun _ q => nomatch q⟩)
    · rcases hf with ⟨rfl, hnt, h', tk', m', rfl, F3, N3⟩ | ⟨v, h', tk', m', rfl, rfl, F3, b, t, rfl, hbb, hti⟩
      rotate_left
      · exact ok _ _ _ (Fr.kept gk F3) (.inr ⟨b, t, rfl, hlay, .inl ⟨hti, by rw [hbb, tinyB, leL1]; have := hti.1; rw [show (4 * (cs.length : Int) + 2) = ((cs.length : Int) * 4 + 2) % 256 by omega]⟩⟩)
      unfold Later
      clear F2 N1
      show wpAny _ _ (execs ([_] ++ _) _) _ _ _
      refine A_block (wpAny_mono (Q := fun f s' => f = .next ∧ ∃ h' tk', s' = { s with heap := h', toks := tk' } ∧ LaySt g L h' [(Str.ofString "code", .bytes cb tc), (Str.ofString "deep", .int deep td), (Str.ofString "token", .int token tt), (Str.ofString "rows", .ref sr)] (Str.ofString "first") (fun v => ∃ t, v = .int (firstOf rows.length token) t)) ?_ (fun f s' hf => ?_) (fun _ _ x => x))
      · show wpAny _ _ _ _ _ _
        k_fold
        k_steps
        all_goals ((rename Fr _ _ _ _ => fE; rename vs.isEmpty = _ => hem); refine ⟨_, _, ?_, front_self fE (List.forall_mem_cons.mpr ⟨rfl, List.forall_mem_cons.mpr ⟨rfl, List.forall_mem_cons.mpr ⟨rfl, List.forall_mem_cons.mpr ⟨rfl, List.forall_mem_cons.mpr ⟨rfl, List.forall_mem_nil _⟩⟩⟩⟩⟩), fun _ q => nomatch q⟩)
        · have hr0 := (empty_iff hvl).mp hem
          exact ⟨_, congrArg (fun z => Value.int z _) (by unfold firstOf; rw [if_pos hr0, if_neg (by assumption)])⟩
        · have hr0 := (empty_iff hvl).mp hem
          exact ⟨_, congrArg (fun z => Value.int z _) (by unfold firstOf; rw [if_pos hr0, if_pos (by assumption)])⟩
        · have hr0 := empty_not hvl hem
          exact ⟨_, congrArg (fun z => Value.int z _) (by unfold firstOf; rw [if_neg hr0, if_neg (by assumption)])⟩
        · have hr0 := empty_not hvl hem
          exact ⟨_, congrArg (fun z => Value.int z _) (by unfold firstOf; rw [if_neg hr0, if_pos (by assumption)])⟩
      · obtain ⟨rfl, h', tk', rfl, m, v, ⟨t, rfl⟩, F4, N4⟩ := hf
        clear F3 N3
        unfold Later
        have hfi := firstOf_in rows.length token
        obtain ⟨fv, hfv⟩ : ∃ fv, fv = firstOf rows.length token := ⟨_, rfl⟩
        rw [← hfv] at F4 hfi
        show wpAny _ _ (execs ([_] ++ _) _) _ _ _
        refine A_block (wpAny_mono (Q := fun f s' => f = .next ∧ ∃ h' tk', s' = { s with heap := h', toks := tk' } ∧ LaySt g L h' [(Str.ofString "code", .bytes cb tc), (Str.ofString "deep", .int deep td), (Str.ofString "token", .int token tt), (Str.ofString "rows", .ref sr)] (Str.ofString "octets") (fun v => ∃ b t, v = .bytes b t ∧ KBw.bInts b = headB cs.length deep token rows.length ++ cs)) ?_ (fun f s' hf => ?_) (fun _ _ x => x))
        · show wpAny _ _ _ _ _ _
          k_fold
          (repeat' (first | ((with_reducible (((with_reducible show wpAny _ _ (call (Value.ref 422) [Value.int _ _, Value.int _ _]) _ _ _); (rename News _ _ _ _ => nXZZ); (refine useNewL (littleI _ _ ?wb _ _) (by assumption) (by assumption) (by assumption) nXZZ (by decide) ⟨rfl, rfl⟩ trivial ?_ (fun q => q.elim)); (case wb => first | decide | ((rename ∀ k : Nat, 0 ≤ _ ∧ _ ≤ 4 => hWbZZ); exact hWbZZ _)); intro rZZ vsZZ capZZ hZZ tkZZ FZZ NZZ oZZ r1ZZ))) <;> (try dsimp only)) | walk_at "ks"))
          rename News _ _ _ _ => nX
          refine KBa.make_K (by assumption) nX (by rfl) (News.isList nX (.head _)) (by assumption) ?kbr ?kbn ?_
          case kbr => repeat (first | exact In_nil | exact In_leL _ _ | refine In_app ?_ ?_ | refine In_cons (by first | exact hfi | exact ⟨by decide, by decide⟩) ?_)
          case kbn => exact Nat.le_of_ble_eq_true rfl
          intro h5 t5 k5 F5 N5 hin
          have hbi : KBw.bInts _ = headB cs.length deep token rows.length := (KBa.ints_make hin).trans (by rw [hfv]; exact head_list cs.length deep token rows.length)
          k_steps
          refine KBa.add_K hbi hk (by rw [headB_len]; omega) ?_
          intro t6 k6 hbb
          k_steps
          (rename Fr _ _ _ _ => fE)
          exact ⟨_, _, ⟨_, _, rfl, hbb⟩, front_self fE (List.forall_mem_cons.mpr ⟨rfl, List.forall_mem_cons.mpr ⟨rfl, List.forall_mem_cons.mpr ⟨rfl, List.forall_mem_cons.mpr ⟨rfl, List.forall_mem_cons.mpr ⟨rfl, List.forall_mem_nil _⟩⟩⟩⟩⟩), fun _ q => nomatch q⟩
        · obtain ⟨rfl, h', tk', rfl, m, v, ⟨ob, t, rfl, hob⟩, F5, N5⟩ := hf
          clear F4 N4 hfi hfv
          unfold Later
          show wpAny _ _ _ _ _ _
          k_fold
          k_steps
          · (rename Fr _ _ _ _ => fE; rename vs.isEmpty = _ => hem)
            have hr0 := (empty_iff hvl).mp hem
            exact ok _ _ _ (Fr.kept gk fE) (.inr ⟨_, _, rfl, hlay, .inr ⟨hnt, hhd, .inl ⟨List.eq_nil_of_length_eq_zero hr0, hob⟩⟩⟩)
          · rename vs.isEmpty = _ => hem
            have hr0 := empty_not hvl hem
            rename News _ _ _ _ => nX
            refine KBa.make_K (by assumption) nX (by rfl) (News.isList nX (.head _)) (ints_repf _ _) (In_rep _) (by rw [List.length_replicate, pad_eq]; have := padN_lt (12 + cs.length); omega) ?_
            intro h5 t5 k5 F5 N5 hin
            have hbi : KBw.bInts _ = List.replicate (padN (12 + cs.length)) 0 := (KBa.ints_make hin).trans (by rw [pad_eq])
            k_steps
            refine KBa.add_K hob hbi (by have := padN_lt (12 + cs.length); rw [List.length_append, headB_len, List.length_replicate]; omega) ?_
            intro t6 k6 hbb
            k_steps
            (rename Fr _ _ _ _ => fX; rename News _ _ _ _ => nX)
            refine useNewL (lawSection sr rows h6 hrl fun row hr => (hok row hr).2) S B fX nX (by decide) ⟨rfl, rfl⟩ (sec.keeps fX.keep) ?_ (fun q => q.elim)
            intro r7 vs7 cap7 h7 tk7 F7 N7 o7 R7
            k_steps
            rcases R7 with ⟨hal, hI7⟩ | ⟨hal, hI7⟩
            · skip
              rename News _ _ _ _ => nX
              refine KBa.make_K (by assumption) nX (by rfl) (News.isList nX (.head _)) hI7 (In_small _) (by rw [smallB_len]; have := hal.1; omega) ?_
              intro h8 t8 k8 F8 N8 hin8
              have hbi8 := KBa.ints_make hin8
              k_steps
              refine KBa.add_K hbb hbi8 (by have := padN_lt (12 + cs.length); rw [List.length_append, List.length_append, headB_len, List.length_replicate]; rw [smallB_len]; have := hal.1; omega) ?_
              intro t9 k9 hbb9
              k_steps
              (rename Fr _ _ _ _ => fE)
              have hne : rows ≠ [] := fun q => hr0 (by rw [q]; rfl)
              have hlen12 : (headB cs.length deep token rows.length ++ cs).length = 12 + cs.length := by rw [List.length_append, headB_len]
              exact ok _ _ _ (Fr.kept gk fE) (.inr ⟨_, _, rfl, hlay, .inr ⟨hnt, hhd, .inr (.inl ⟨hne, hal, fun row hr => smallRow_of (h6 row hr).1 (hal.2 row hr) (hok row hr), by rw [hbb9, hlen12]⟩)⟩⟩)
            · skip
              rename News _ _ _ _ => nX
              refine KBa.make_K (by assumption) nX (by rfl) (News.isList nX (.head _)) hI7 (In_fat _) (by have := fatB_len h6; omega) ?_
              intro h8 t8 k8 F8 N8 hin8
              have hbi8 := KBa.ints_make hin8
              k_steps
              refine KBa.add_K hbb hbi8 (by have := padN_lt (12 + cs.length); rw [List.length_append, List.length_append, headB_len, List.length_replicate]; have := fatB_len h6; omega) ?_
              intro t9 k9 hbb9
              k_steps
              (rename Fr _ _ _ _ => fE)
              have hne : rows ≠ [] := fun q => hr0 (by rw [q]; rfl)
              have hlen12 : (headB cs.length deep token rows.length ++ cs).length = 12 + cs.length := by rw [List.length_append, headB_len]
              exact ok _ _ _ (Fr.kept gk fE) (.inr ⟨_, _, rfl, hlay, .inr ⟨hnt, hhd, .inr (.inr ⟨hne, hal, hok, by rw [hbb9, hlen12]⟩)⟩⟩)
end
section
open PySem PySem.W PySem.Calls PyProof.Rows
variable {w : World} {mean : ExcName → Option Value} {mg mb : Str → Option Value}
inductive ListsAt (P : Addr → Obj → Prop) : List Value → List (List Int) → Prop
  | nil : ListsAt P [] []
  | cons {a : Addr} {l : List Value} {cap : Nat} {row : List Int} {vs : List Value} {rows : List (List Int)} : P a (listO l cap) → IntsAre l row → ListsAt P vs rows → ListsAt P (.ref a :: vs) (row :: rows)
theorem ListsAt.mono {P P' : Addr → Obj → Prop} {vs : List Value} {rows : List (List Int)} (h : ListsAt P vs rows) (k : ∀ a o, P a o → P' a o) : ListsAt P' vs rows := by
  induction h with
  | nil => exact .nil
  | cons p r _ ih => exact .cons (k _ _ p) r ih
theorem ListsAt.snoc {P : Addr → Obj → Prop} {vs : List Value} {rows : List (List Int)} {a : Addr} {l : List Value} {cap : Nat} {row : List Int} (h : ListsAt P vs rows) (p : P a (listO l cap)) (r : IntsAre l row) : ListsAt P (vs ++ [.ref a]) (rows ++ [row]) := by
  induction h with
  | nil => exact .cons p r .nil
  | cons p' r' _ ih => exact .cons p' r' ih
theorem ListsAt.length {P : Addr → Obj → Prop} {vs : List Value} {rows : List (List Int)} (h : ListsAt P vs rows) : vs.length = rows.length := by
  induction h with
  | nil => rfl
  | cons _ _ _ ih => simp [ih]
theorem ListsAt.get {P : Addr → Obj → Prop} {vs : List Value} {rows : List (List Int)} (h : ListsAt P vs rows) : ∀ (i : Nat) (v : Value), vs[i]? = some v → ∃ a l cap row, v = .ref a ∧ P a (listO l cap) ∧ IntsAre l row ∧ rows[i]? = some row := by
  induction h with
  | nil => intro i v e; simp at e
  | cons p r _ ih =>
    intro i v e
    cases i with
    | zero => simp at e; exact ⟨_, _, _, _, e.symm, p, r, by simp⟩
    | succ i => simp at e; obtain ⟨a, l, cap, row, e1, e2, e3, e4⟩ := ih i v e; exact ⟨a, l, cap, row, e1, e2, e3, by simpa using e4⟩
theorem lawAtI (l : Addr) (vs : List Value) (ns : List Int) (hi : IntsAre vs ns) (hl : ns.length ≤ 63) (k : Int) (hk : 0 ≤ k ∧ k ≤ 100) (tp : Tok) : Spec w mean mg mb 8 405 [.ref l, .int k tp] []
    (fun h => h.IsList l vs.toArray) (fun _ v _ => ∃ n t, v = .int n t) False := by
  obtain ⟨p, rfl⟩ := Int.eq_ofNat_of_zero_le hk.1
  intro A base fr s Q E S hpre ok er
  refine lawAt l vs ns hi hl p (by omega) tp A base fr s Q E S hpre (fun v h' tk K P => ok v h' tk K ?_) er
  obtain ⟨t, rfl⟩ := P
  exact ⟨_, _, rfl⟩
section
variable {n n' : Nat} {A : Around} {base h₀ : Heap} {fr : List Env} {s s₀ : Shared} {L : Addr} {m : Str → Option Value} {env : Env} {news : List (Addr × Obj)} {D₀ : List Addr} {Q E : Value → Shared → Prop} {f : Addr} {vs : List Value} {exc : Prop} {pre : Heap → Prop}
theorem useE {R : Value → Prop} (h : Spec w mean mg mb n f vs [] pre (fun _ v _ => R v) exc) (S : Site w mean mg mb n' A base fr s₀ D₀) (B : Below A base fr h₀) (F : Fr h₀ L s.heap m)
    (N : News h₀ L s.heap news) (hn : n + 1 ≤ n') (hk : env.frame = some L ∧ env.scope.kind = .function) (hp : pre s.heap) (hno : ¬ exc)
    (ok : ∀ v h' tk, Fr h₀ L h' m → News h₀ L h' news → R v → Q v { s with heap := h', toks := tk }) :
    wpAny (MD w) (A.deeper env) (call (.ref f) vs) Q E s :=
  h _ base _ s Q _ (S.body (D := []) B F N (fun _ hd => nomatch hd) hk hn) hp (fun v h' tk K P => ok v h' tk (Fr.keepBut (D := []) F N (fun _ hd => nomatch hd) K) (News.keepBut (D := []) N K fun q hq => ⟨hq, fun hm => nomatch hm⟩) P) fun q => (hno q).elim
theorem useNewE (h : Spec w mean mg mb n f vs [] pre (fun h v h' => ∃ r vs cap row, v = .ref r ∧ h.get? r = none ∧ h'.get? r = some (listO vs cap) ∧ IntsAre vs row ∧ row.length = 6 ∧ ∀ n ∈ row, 0 ≤ n ∧ n ≤ 4294967295) exc) (S : Site w mean mg mb n' A base fr s₀ D₀) (B : Below A base fr h₀) (F : Fr h₀ L s.heap m)
    (N : News h₀ L s.heap news) (hn : n + 1 ≤ n') (hk : env.frame = some L ∧ env.scope.kind = .function) (hp : pre s.heap) (hno : ¬ exc)
    (ok : ∀ r vs cap row h' tk, Fr h₀ L h' m → News h₀ L h' ((r, listO vs cap) :: news) → (∀ q ∈ news, @Ne Nat q.1 r) → IntsAre vs row → row.length = 6 → (∀ n ∈ row, 0 ≤ n ∧ n ≤ 4294967295) → Q (.ref r) { s with heap := h', toks := tk }) :
    wpAny (MD w) (A.deeper env) (call (.ref f) vs) Q E s := by
  refine h _ base _ s Q _ (S.body (D := []) B F N (fun _ hd => nomatch hd) hk hn) hp (fun v h' tk K P => ?_) fun q => (hno q).elim
  obtain ⟨r, vs, cap, row, rfl, f1, o1, r1, r2, r3⟩ := P
  have z := newAt' F N f1
  exact ok r vs cap row h' tk (Fr.keepBut (D := []) F N (fun _ hd => nomatch hd) K) (List.forall_mem_cons.mpr ⟨⟨o1, z.1, z.2.1⟩, News.keepBut (D := []) N K fun q hq => ⟨hq, fun hm => nomatch hm⟩⟩) z.2.2 r1 r2 r3
end
noncomputable def RowOk6 (row : List Int) : Prop := row.length = 6 ∧ ∀ n ∈ row, -1099511627776 ≤ n ∧ n ≤ 1099511627776
/-- what stands behind one element of the comprehension that makes rows -/
noncomputable def EltN (g : Heap) (L : Addr) (m : Str → Option Value) (s : Shared) (I : Addr) (oI : Obj) (C : Addr) (oC : Obj) (D : Addr) (ys : List Value) (news : List (Addr × Obj)) (Q : Value → Shared → Prop) : Prop :=
  ∀ (r : Addr) (vs : List Value) (cap : Nat) (row : List Int) (h' : Heap) (tk : Nat), Fr g L h' m → News g L h' ((r, listO vs cap) :: (I, oI) :: (C, oC) :: (D, LCg.lst ys) :: news) → (∀ q ∈ (I, oI) :: (C, oC) :: (D, LCg.lst ys) :: news, @Ne Nat q.1 r) → IntsAre vs row → RowOk6 row → Q (.ref r) { s with heap := h', toks := tk }
theorem listsComp {prog : Program} {A : Around} {g : Heap} {L : Addr} {m : Str → Option Value} {env : Env} {elt : Expr} {y : Str} {scope : Scope} {cl : List (Str × Addr)} {s : Shared} {P : Nat → Value → Prop} {Fin : List Value → List (Addr × Obj) → Prop} {rest : List (Addr × Obj)} {total : Nat}
    (step : ∀ (i : Nat) (v : Value) (I : Addr) (oI : Obj) (C : Addr) (oC : Obj) (D : Addr) (ys : List Value) (m₂ : Str → Option Value) (h : Heap) (tk : Nat) (E' Q : Value → Shared → Prop) (RL : List (Addr × Obj)), i < total → P i v →
      m₂ y = some v → LCg.NsObj oC m₂ → Fr g L h m → News g L h ((I, oI) :: (C, oC) :: (D, LCg.lst ys) :: (rest ++ RL)) → EltN g L m s I oI C oC D ys (rest ++ RL) Q →
      wpAny (model prog w) A (eval elt (compEnvC scope cl C env)) Q E' { s with heap := h, toks := tk })
    (fin : ∀ (ys : List Value) (RL : List (Addr × Obj)) (rows : List (List Int)), ListsAt (fun a o => (a, o) ∈ RL) ys rows → (∀ row ∈ rows, RowOk6 row) → rows.length = total → (∀ q ∈ RL, ∀ z ∈ rest, @Ne Nat q.1 z.1) → Fin ys (rest ++ RL)) :
    ∀ (k i : Nat) (ys : List Value) (RL : List (Addr × Obj)) (rows : List (List Int)), i + k = total → ListsAt (fun a o => (a, o) ∈ RL) ys rows → (∀ row ∈ rows, RowOk6 row) → rows.length = i → (∀ q ∈ RL, ∀ z ∈ rest, @Ne Nat q.1 z.1) →
      LCg.CompRest prog w A g L m env elt y scope cl s (fun _ => True) P Fin k i ys (rest ++ RL)
  | 0, i, ys, RL, rows, hk, hR, h6, hl, hoff => fin ys RL rows hR h6 (by omega) hoff
  | k + 1, i, ys, RL, rows, hk, hR, h6, hl, hoff => by
    intro v I oI C oC D m₂ h tk E' hP hC hv F N off ne
    refine step i v I oI C oC D ys m₂ h tk E' _ RL (by omega) hP hv hC F N fun r vs cap row h' tk' F' N' o' hI h6' => ?_
    refine ⟨h', tk', rest ++ ((r, listO vs cap) :: RL), rfl, F', ?_, ?_, trivial, ?_⟩
    · intro p hp
      rcases List.mem_cons.mp hp with rfl | hp
      · exact N' _ (.tail _ (.head _))
      · rcases List.mem_cons.mp hp with rfl | hp
        · exact N' _ (.tail _ (.tail _ (.head _)))
        · rcases List.mem_cons.mp hp with rfl | hp
          · exact N' _ (.tail _ (.tail _ (.tail _ (.head _))))
          · rcases List.mem_append.mp hp with hp | hp
            · exact N' _ (.tail _ (.tail _ (.tail _ (.tail _ (List.mem_append_left _ hp)))))
            · rcases List.mem_cons.mp hp with rfl | hp
              · exact N' _ (.head _)
              · exact N' _ (.tail _ (.tail _ (.tail _ (.tail _ (List.mem_append_right _ hp)))))
    · refine LCg.Off3.of fun p hp => ?_
      rcases List.mem_append.mp hp with hp | hp
      · exact LCg.Off3.mem off p (List.mem_append_left _ hp)
      · rcases List.mem_cons.mp hp with rfl | hp
        · exact ⟨Ne.symm (o' _ (.head _)), Ne.symm (o' _ (.tail _ (.head _))), Ne.symm (o' _ (.tail _ (.tail _ (.head _))))⟩
        · exact LCg.Off3.mem off p (List.mem_append_right _ hp)
    · have z := listsComp step fin k (i + 1) (ys ++ [.ref r]) ((r, listO vs cap) :: RL) (rows ++ [row]) (by omega) ((hR.mono fun _ _ q => .tail _ q).snoc (.head _) hI)
        (fun q hq => (List.mem_append.mp hq).elim (h6 q) fun e => by rw [List.mem_singleton.mp e]; exact h6') (by rw [List.length_append, hl]; rfl)
        (List.forall_mem_cons.mpr ⟨fun z hz e => o' z (.tail _ (.tail _ (.tail _ (List.mem_append_left _ hz)))) e.symm, hoff⟩)
      exact z
theorem later {p : Prop} (h : Later p) : p := h
theorem count_in (n : Int) : ∃ c : Nat, ([0, 1, 0, 2, 3, 19, 20, 21] : List Int).getD (n.fmod 8).toNat 0 = (c : Int) ∧ c ≤ 21 := by
  have h := fmodI n 8 (by decide)
  obtain ⟨k, hk⟩ := Int.eq_ofNat_of_zero_le h.1
  rw [hk] at h ⊢
  have h8 : k < 8 := by omega
  match k, h8 with
  | 0, _ => exact ⟨0, rfl, by decide⟩
  | 1, _ => exact ⟨1, rfl, by decide⟩
  | 2, _ => exact ⟨0, rfl, by decide⟩
  | 3, _ => exact ⟨2, rfl, by decide⟩
  | 4, _ => exact ⟨3, rfl, by decide⟩
  | 5, _ => exact ⟨19, rfl, by decide⟩
  | 6, _ => exact ⟨20, rfl, by decide⟩
  | 7, _ => exact ⟨21, rfl, by decide⟩
noncomputable def ClSt (g : Heap) (L : Addr) (h : Heap) (c : Nat) (rest : List (Addr × Obj)) : Prop :=
  ∃ (m : Str → Option Value) (D : Addr) (ys : List Value) (cap : Nat) (RL : List (Addr × Obj)) (rows : List (List Int)), Fr g L h (front [(Str.ofString "rows", .ref D)] m) ∧ News g L h ((D, listO ys cap) :: (rest ++ RL)) ∧
    ListsAt (fun a o => (a, o) ∈ RL) ys rows ∧ (∀ row ∈ rows, RowOk6 row) ∧ rows.length = c
theorem idx9 (a : Int) : 0 ≤ 6 + a.fmod 9 ∧ 6 + a.fmod 9 ≤ 100 := by have h := fmodI a 9 (by decide); omega
noncomputable def PairIn (K : Frag) (v : Value) : Prop := ∃ b dd nn sl p tp n tn, v = .ref b ∧ List.lookup b K = some ⟨.type "tuple", dd, .seq #[.int p tp, .int n tn] nn, sl⟩ ∧ (0 ≤ p ∧ p < 6) ∧ (-1099511627776 ≤ n ∧ n ≤ 1099511627776)
theorem turns_ok {w : World} : ∃ dd items nn sl, List.lookup 398 (hd.heap_1 w.params) = some ⟨.type "tuple", dd, .seq (List.toArray items) nn, sl⟩ ∧ items.length = 26 ∧ ∀ v ∈ items, PairIn (hd.heap_1 w.params) v := by
  refine ⟨_, _, _, _, by k_is, rfl, ?_⟩
  repeat (first | exact List.forall_mem_nil _ | refine List.forall_mem_cons.mpr ⟨⟨_, _, _, _, _, _, _, _, rfl, by k_is, by decide, by decide⟩, ?_⟩)
theorem item_turn {prog : Program} {A : Around} {E : Value → Shared → Prop} {s : Shared} {K : Frag} {value slice : Expr} {t : Addr} {k : Int} {u : Tok} {Q : Value → Shared → Prop} (X : K.In s.heap)
    (ht : ∃ dd items nn sl, List.lookup t K = some ⟨.type "tuple", dd, .seq (List.toArray items) nn, sl⟩ ∧ items.length = 26 ∧ ∀ v ∈ items, PairIn K v) (hk : 0 ≤ k ∧ k < 26)
    (h : ∀ b p tp n tn, IsTup s.heap b #[.int p tp, .int n tn] → 0 ≤ p → p < 6 → -1099511627776 ≤ n ∧ n ≤ 1099511627776 → Q (.ref b) s)
    (hs : subscripted slice false (.ref t) (.int k u) = operate [.ref t, .int k u] (getItem (.ref t) (.int k u)) := by with_unfolding_all rfl) :
    wpAny (model prog w) A (subscriptTail value slice (.ref t) (.int k u)) Q E s := by
  obtain ⟨dd, items, nn, sl, hl, h26, hall⟩ := ht
  have hk2 : k.toNat < items.length := by omega
  obtain ⟨b, dd2, nn2, sl2, p, tp, n, tn, e, hl2, hp, hn⟩ := hall _ (List.getElem_mem hk2)
  have hT : IsTup s.heap t items.toArray := ⟨_, X _ _ hl, rfl, _, rfl⟩
  refine item_tupleT (j := k.toNat) hT (by omega) (by omega) ?_ (List.getElem?_eq_getElem hk2) ?_ hs
  · simp only [seqIndex?]
    have c1 : ¬ k < 0 := by omega
    simp [c1, hk.1]
    omega
  · rw [e]
    exact h b p tp n tn ⟨_, X _ _ hl2, rfl, _, rfl⟩ hp.1 hp.2 hn
theorem intsSet {vs : List Value} {ns : List Int} (h : IntsAre vs ns) : ∀ (k : Nat) (v : Int) (t : Tok), IntsAre (vs.set k (.int v t)) (ns.set k v) := by
  induction h with
  | nil => intro k v t; exact .nil
  | cons n u _ ih =>
    intro k v t
    cases k with
    | zero => exact .cons _ _ (by assumption)
    | succ k => exact .cons _ _ (ih k v t)
noncomputable def setAt (r : Addr) (o : Obj) (RL : List (Addr × Obj)) : List (Addr × Obj) := RL.map fun q => if @Eq Nat q.1 r then (r, o) else q
theorem setAt_mem {r : Addr} {o : Obj} {RL : List (Addr × Obj)} {q : Addr × Obj} (h : q ∈ setAt r o RL) : q = (r, o) ∨ (q ∈ RL ∧ @Ne Nat q.1 r) := by
  obtain ⟨p, hp, e⟩ := List.mem_map.mp h
  by_cases c : @Eq Nat p.1 r
  · rw [if_pos c] at e; exact .inl e.symm
  · rw [if_neg c] at e; subst e; exact .inr ⟨hp, c⟩
theorem setAt_off {r : Addr} {o : Obj} {RL : List (Addr × Obj)} {q : Addr × Obj} (h : q ∈ RL) (c : @Ne Nat q.1 r) : q ∈ setAt r o RL :=
  List.mem_map.mpr ⟨q, h, if_neg c⟩
theorem setAt_hit {r : Addr} {o o₀ : Obj} {RL : List (Addr × Obj)} (h : (r, o₀) ∈ RL) : (r, o) ∈ setAt r o RL :=
  List.mem_map.mpr ⟨_, h, if_pos rfl⟩
theorem listsSet {h₀ h : Heap} {L : Addr} {pre RL : List (Addr × Obj)} (N : News h₀ L h (pre ++ RL)) {r : Addr} {l : List Value} {cap : Nat} (hr : (r, listO l cap) ∈ RL) (k : Nat) (v : Int) (t : Tok) (hv : -1099511627776 ≤ v ∧ v ≤ 1099511627776)
    {ys : List Value} {rows : List (List Int)} (hL : ListsAt (fun a o => (a, o) ∈ RL) ys rows) : (∀ row ∈ rows, RowOk6 row) →
    ∃ rows', ListsAt (fun a o => (a, o) ∈ setAt r (listO (l.set k (.int v t)) cap) RL) ys rows' ∧ (∀ row ∈ rows', RowOk6 row) ∧ rows'.length = rows.length := by
  induction hL with
  | nil => intro _; exact ⟨[], .nil, (fun _ q => nomatch q), rfl⟩
  | @cons a l1 cap1 row vs rows p ri tl ih =>
    intro h6
    obtain ⟨rows', i1, i2, i3⟩ := ih fun q hq => h6 q (.tail _ hq)
    by_cases c : @Eq Nat a r
    · obtain rfl : a = r := c
      have e : listO l1 cap1 = listO l cap := Option.some.inj ((N _ (List.mem_append_right _ p)).1.symm.trans (N _ (List.mem_append_right _ hr)).1)
      injection e with _ _ e _
      injection e with e _
      obtain rfl : l1 = l := by simpa using e
      have z := h6 row (.head _)
      refine ⟨row.set k v :: rows', .cons (setAt_hit hr) (intsSet ri k v t) i1, List.forall_mem_cons.mpr ⟨⟨by rw [List.length_set]; exact z.1, fun n hn => ?_⟩, i2⟩, by simp [i3]⟩
      rcases List.mem_or_eq_of_mem_set hn with hn | rfl
      · exact z.2 n hn
      · exact hv
    · exact ⟨row :: rows', .cons (setAt_off p c) ri i1, List.forall_mem_cons.mpr ⟨h6 row (.head _), i2⟩, by simp [i3]⟩
theorem newsSet {h₀ h h' : Heap} {L : Addr} {pre RL : List (Addr × Obj)} (N : News h₀ L h (pre ++ RL)) {r : Addr} {o : Obj} (hp : ∀ q ∈ pre, @Ne Nat q.1 r) (hs : Heap.SameBut r h h') (ho : h'.get? r = some o) (hr : ∃ o₀, (r, o₀) ∈ RL) : News h₀ L h' (pre ++ setAt r o RL) := by
  intro q hq
  rcases List.mem_append.mp hq with hq | hq
  · have z := N q (List.mem_append_left _ hq)
    exact ⟨(hs.2 _ (hp q hq)).trans z.1, z.2⟩
  · rcases setAt_mem hq with rfl | ⟨hq, c⟩
    · obtain ⟨o₀, hr⟩ := hr
      exact ⟨ho, (N _ (List.mem_append_right _ hr)).2⟩
    · have z := N q (List.mem_append_right _ hq)
      exact ⟨(hs.2 _ c).trans z.1, z.2⟩
theorem off1_all {D : Addr} : ∀ {l : List (Addr × Obj)}, LCg.Off1 D l → ∀ q ∈ l, @Ne Nat q.1 D
  | [], _, _, h => nomatch h
  | _ :: _, x, q, h => by
    rcases List.mem_cons.mp h with rfl | h
    · exact x.1
    · exact off1_all x.2 q h
noncomputable def EltT (g : Heap) (L : Addr) (m : Str → Option Value) (s : Shared) (I : Addr) (oI : Obj) (C : Addr) (oC : Obj) (D : Addr) (ys : List Value) (NL : List (Addr × Obj)) (row : List Int) (Q : Value → Shared → Prop) : Prop :=
  ∀ (t : Addr) (o : Obj) (h' : Heap) (tk : Nat), Fr g L h' m → News g L h' ((t, o) :: (I, oI) :: (C, oC) :: (D, LCg.lst ys) :: NL) → @Ne Nat I t → @Ne Nat C t → @Ne Nat D t → IsRow o row → Q (.ref t) { s with heap := h', toks := tk }
theorem tuplesComp {prog : Program} {A : Around} {g : Heap} {L : Addr} {m : Str → Option Value} {env : Env} {elt : Expr} {y : Str} {scope : Scope} {cl : List (Str × Addr)} {s : Shared} {Fin : List Value → List (Addr × Obj) → Prop} {base : List (Addr × Obj)} {ax : Addr} {vs : List Value} {cap : Nat} {rows : List (List Int)}
    (hB : ListsAt (fun a o => (a, o) ∈ base) vs rows) (hsrc : (ax, listO vs cap) ∈ base) (h6 : ∀ row ∈ rows, RowOk6 row)
    (step : ∀ (I : Addr) (oI : Obj) (C : Addr) (oC : Obj) (D : Addr) (ys : List Value) (m₂ : Str → Option Value) (h : Heap) (tk : Nat) (E' Q : Value → Shared → Prop) (NL : List (Addr × Obj)) (r : Addr) (l : List Value) (cp : Nat) (row : List Int),
      m₂ y = some (.ref r) → LCg.NsObj oC m₂ → Fr g L h m → News g L h ((r, listO l cp) :: (I, oI) :: (C, oC) :: (D, LCg.lst ys) :: NL) → IntsAre l row → RowOk6 row → EltT g L m s I oI C oC D ys NL row Q →
      wpAny (model prog w) A (eval elt (compEnvC scope cl C env)) Q E' { s with heap := h, toks := tk })
    (fin : ∀ (ys : List Value) (TL : List (Addr × Obj)), RowsAt (fun a o => (a, o) ∈ TL) ys rows → Fin ys (TL ++ base)) :
    ∀ (k i : Nat) (ys : List Value) (TL : List (Addr × Obj)), i + k = rows.length → RowsAt (fun a o => (a, o) ∈ TL) ys (rows.take i) →
      LCg.CompRest prog w A g L m env elt y scope cl s (LCg.SrcAt g ax vs.toArray) (fun i v => vs.toArray[i]? = some v) Fin k i ys (TL ++ base)
  | 0, i, ys, TL, hk, hR => fin ys TL (by rw [List.take_of_length_le (by omega)] at hR; exact hR)
  | k + 1, i, ys, TL, hk, hR => by
    intro v I oI C oC D m₂ h tk E' hP hC hv F N off ne
    have hlt : i < rows.length := by omega
    obtain ⟨r, l, cp, row, rfl, q1, q2, q3⟩ := hB.get i v (by simpa using hP)
    refine step I oI C oC D ys m₂ h tk E' _ (TL ++ base) r l cp row hv hC F (List.forall_mem_cons.mpr ⟨N _ (.tail _ (.tail _ (.tail _ (List.mem_append_right _ q1)))), N⟩) q2 (h6 _ (List.mem_of_getElem? q3)) ?_
    intro t o h' tk' F' N' n1 n2 n3 hr
    refine ⟨h', tk', (t, o) :: TL ++ base, rfl, F', ?_, ⟨⟨Ne.symm n1, Ne.symm n2, Ne.symm n3⟩, off⟩, .inr ⟨_, .tail _ (List.mem_append_right _ hsrc), rfl, _, rfl⟩, ?_⟩
    · intro p hp
      rcases List.mem_cons.mp hp with rfl | hp
      · exact N' _ (.tail _ (.head _))
      · rcases List.mem_cons.mp hp with rfl | hp
        · exact N' _ (.tail _ (.tail _ (.head _)))
        · rcases List.mem_cons.mp hp with rfl | hp
          · exact N' _ (.tail _ (.tail _ (.tail _ (.head _))))
          · rcases List.mem_cons.mp hp with rfl | hp
            · exact N' _ (.head _)
            · exact N' _ (.tail _ (.tail _ (.tail _ (.tail _ hp))))
    · have z := tuplesComp hB hsrc h6 step fin k (i + 1) (ys ++ [.ref t]) ((t, o) :: TL) (by omega) (by
        rw [List.take_add_one, q3]
        exact (hR.mono fun _ _ q => .tail _ q).snoc (.head _) hr)
      exact z
local macro_rules | `(tactic| walk_at "CompSrc") => `(tactic| refine later ?_)
set_option maxHeartbeats 400000 in
theorem lawClauses (l : Addr) (vs : List Value) (ns : List Int) (hi : IntsAre vs ns) (hl : ns.length ≤ 63) : Spec w mean mg mb 12 417 [.ref l] [] (fun h => h.IsList l vs.toArray)
    (fun h v h' => ∃ rows, Rows6 rows ∧ rows.length ≤ 21 ∧ RowsNew h v h' rows) False := by
  intro A base fr s Q E S hpre ok er
  refine enterC (binds := [(Str.ofString "script", .ref l)]) [] S (List.forall_mem_nil _) (by k_is) (by k_is) (BindsTo.of_eq rfl) rfl (by decide +kernel) er ?_ rfl rfl rfl
  intro g L h₁ tk0 cells gk lt B X T F N Y sz hE
  k_cells Y
  (try simp only [List.cons_append, List.nil_append, List.append_nil] at N)
  rename Obj => oc
  have hls : g.IsList l vs.toArray := by obtain ⟨o, ho, q⟩ := hpre; exact ⟨o, gk _ _ List.not_mem_nil ho, q⟩
  (try dsimp only)
  show wpAny _ _ (execs ([_] ++ _) _) _ _ _
  refine A_block ?_
  k_fold
  (repeat' (first | ((with_reducible (((with_reducible show wpAny _ _ (call (Value.ref 405) [Value.ref _, Value.int _ _]) _ _ _); (rename News _ _ _ _ => nXZZ); (refine useE (lawAtI _ _ _ (by assumption) (by assumption) _ ?hk _) (by assumption) (by assumption) (by assumption) nXZZ (by decide) ⟨rfl, rfl⟩ (Fr.lst (by assumption) (by assumption)) (fun q => q.elim) ?_); (case hk => first | exact ⟨by decide, by decide⟩ | exact idx9 _); intro vZZ hZZ tkZZ FZZ NZZ rZZ; obtain ⟨nZZ, tZZ, hvZZ⟩ := rZZ; subst hvZZ))) <;> (try dsimp only)) | ((with_reducible (((with_reducible show wpAny _ _ (subscriptTail _ _ (Value.ref _) (Value.int _ _)) _ _ _); refine later ?_))) <;> (try dsimp only)) | walk_at "ks"))
  unfold Later
  (rename Fr _ _ _ _ => fE)
  refine item_any (lo := 0) (hi := 21) ⟨_, fE.keep _ _ (X _ _ (by k_is)), rfl, _, rfl⟩ (by repeat constructor) (fmodI _ _ (by decide)) (by rfl) (by decide) (by decide) ?_
  intro nc tc hnc
  obtain ⟨c, hc⟩ := Int.eq_ofNat_of_zero_le hnc.1
  have hc21 : c ≤ 21 := by omega
  subst hc
  clear hnc
  k_steps
  unfold Later
  (rename Fr _ _ _ _ => fE; rename News _ _ _ _ => nE)
  obtain ⟨a1, a2, a3, a4, a5⟩ := A
  obtain rfl : a1 = none := S.hh
  show wpAny _ _ (execs ([_] ++ _) _) _ _ _
  refine A_block ?_
  k_fold
  k_steps
  unfold Later
  rename Fr _ _ _ _ => lF; rename News _ _ _ _ => lN; rename IsRange _ _ _ _ _ _ _ _ => lR
  refine LCg.CompSrc.range (n := c) (by rfl) lF lN lR (small_one (by decide) (by decide) (by omega) (by omega)) (range_sizeW c) (by rw [sizeLine_eq]; omega) fun g' => ?_
  refine listsComp (total := c) (rest := [(L + 1, oc)]) ?_ ?_ c 0 [] [] [] (by omega) .nil (fun _ q => nomatch q) rfl (fun _ q => nomatch q)
  · intro i v I oI C oC D ys m₂ h tk E' Q' RL hi9 hP hv hC F1 N1 cK
    obtain ⟨t9, rfl⟩ := hP
    replace N1 : News g L h ((I, oI) :: (C, oC) :: (D, LCg.lst ys) :: (L + 1, oc) :: RL) := N1
    clear lF lN
    (repeat' (first | ((with_reducible (((with_reducible show wpAny _ _ (call (Value.ref 405) [Value.ref _, Value.int _ _]) _ _ _); (rename News _ _ _ _ => nXZZ); (refine useE (lawAtI _ _ _ (by assumption) (by assumption) _ ?hk _) (by assumption) (by assumption) (by assumption) nXZZ (by decide) ⟨rfl, rfl⟩ (Fr.lst (by assumption) (by assumption)) (fun q => q.elim) ?_); (case hk => first | exact ⟨by decide, by decide⟩ | exact idx9 _); intro vZZ hZZ tkZZ FZZ NZZ rZZ; obtain ⟨nZZ, tZZ, hvZZ⟩ := rZZ; subst hvZZ))) <;> (try dsimp only)) | walk_at "ks"))
    (rename Fr _ _ _ _ => fX; rename News _ _ _ _ => nX)
    refine useNewE (clause _ _) S B fX nX (by decide) ⟨rfl, rfl⟩ trivial (fun q => q.elim) ?_
    intro r vsr cap row h' tk' F' N' o' hI h6 hb
    exact cK r vsr cap row h' tk' F' N' o' hI ⟨h6, fun n hn => by have := hb n hn; omega⟩
  · intro ys RL rows hR h6 hlen hoff
    k_steps
    (rename LCg.Off1 _ _ => oD)
    unfold Later
    (rename Fr _ _ _ _ => gF; rename News _ _ _ _ => gN)
    show wpAny _ _ (execs ([_] ++ _) _) _ _ _
    refine A_block (wpAny_mono (Q := fun f s' => f = .next ∧ ∃ h' tk', s' = { s with heap := h', toks := tk' } ∧ ClSt g L h' c [(L + 1, oc)]) ?_ (fun f s' hf => ?_) (fun _ _ x => x))
    · show wpAny _ _ _ _ _ _
      k_fold
      (repeat' (first | ((with_reducible (((with_reducible show wpAny _ _ (call (Value.ref 405) [Value.ref _, Value.int _ _]) _ _ _); (rename News _ _ _ _ => nXZZ); (refine useE (lawAtI _ _ _ (by assumption) (by assumption) _ ?hk _) (by assumption) (by assumption) (by assumption) nXZZ (by decide) ⟨rfl, rfl⟩ (Fr.lst (by assumption) (by assumption)) (fun q => q.elim) ?_); (case hk => first | exact ⟨by decide, by decide⟩ | exact idx9 _); intro vZZ hZZ tkZZ FZZ NZZ rZZ; obtain ⟨nZZ, tZZ, hvZZ⟩ := rZZ; subst hvZZ))) <;> (try dsimp only)) | ((with_reducible (((with_reducible show wpAny _ _ (subscriptTail _ _ (Value.ref _) (Value.int _ _)) _ _ _); refine later ?_))) <;> (try dsimp only)) | walk_at "ks"))
      rotate_left
      · (rename Fr _ _ _ _ => fE; rename News _ _ _ _ => nE)
        exact ⟨_, _, ys, _, RL, rows, front_self fE (List.forall_mem_cons.mpr ⟨rfl, List.forall_mem_nil _⟩), nE, hR, h6, hlen⟩
      · unfold Later
        (rename Fr _ _ _ _ => fX)
        refine item_turn (X.keeps fX.keep) turns_ok (fmodI _ _ (by decide)) ?_

        intro bt p tp nv tn hT hp0 hp6 hnv
        (repeat' (first | ((with_reducible (((with_reducible show wpAny _ _ (subscriptTail _ _ (Value.ref _) (Value.int _ _)) _ _ _); refine later ?_))) <;> (try dsimp only)) | walk_at "ks"))
        unfold Later
        (rename Fr _ _ _ _ => fY; rename News _ _ _ _ => nY)
        have hy : ys.length = c := hR.length.trans hlen
        have hz := fmodI (Int.fdiv nZZ 26) c (by omega)
        obtain ⟨q, hq⟩ := Int.eq_ofNat_of_zero_le hz.1
        have hq2 : q < ys.length := by omega
        obtain ⟨r, lr, cap, row, e1, e2, e3, e4⟩ := hR.get q _ (List.getElem?_eq_getElem hq2)
        refine item_listL (x := .ref r) (News.isList nY (.head _)) hz.1 (by omega) (by rw [hq, Int.toNat_natCast, List.getElem?_eq_getElem hq2, e1]) ?_
        (repeat' (first | ((with_reducible ((with_reducible show wpAny _ _ (setItem (Value.ref _) (Value.int _ _) _) _ _ _); refine later ?_)) <;> (try dsimp only)) | walk_at "ks"))
        unfold Later
        (rename Fr _ _ _ _ => fZ; rename News _ _ _ _ => nZ)
        have hr := nZ (r, listO lr cap) (.tail _ (.tail _ e2))
        have h6r := h6 row (List.mem_of_getElem? e4)
        have hlr : lr.length = 6 := e3.length.trans h6r.1
        refine ki_setAt hr.1 hp0 (by omega) (by rw [List.size_toArray]; omega) ?_
        obtain ⟨rows', i1, i2, i3⟩ := listsSet (pre := [(_, LCg.lst ys), (L + 1, oc)]) nZ e2 p.toNat nv tn hnv hR h6
        have ho := PySem.IsL.update hr.1 (·.setIfInBounds p.toNat (.int nv tn))
        rw [if_pos (by simp)] at ho
        have ho2 : _ = some (listO (lr.set p.toNat (.int nv tn)) cap) := ho.trans (by simp)
        have nV := newsSet (pre := [(_, LCg.lst ys), (L + 1, oc)]) nZ (r := r) (List.forall_mem_cons.mpr ⟨fun e => (List.forall_mem_cons.mp (off1_all oD)).2 _ e2 e.symm, List.forall_mem_cons.mpr ⟨fun e => hoff _ e2 _ (.head _) e.symm, fun _ q => nomatch q⟩⟩) (Heap.SameBut.update ..) ho2 ⟨_, e2⟩
        have fV := fZ.change (Heap.SameBut.update (f := Obj.mapSeq fun x => x.setIfInBounds p.toNat (Value.int nv tn)) ..) hr.2.1 hr.2.2
        clear fZ nZ
        k_steps
        exact ⟨_, _, ys, _, setAt _ _ RL, rows', front_self fV (List.forall_mem_cons.mpr ⟨rfl, List.forall_mem_nil _⟩), nV, i1, i2, i3.trans hlen⟩
    · obtain ⟨rfl, h2, tk2, rfl, m2, D2, ys2, cap2, RL2, rows2, fE, nE, hR2, h62, hlen2⟩ := hf
      clear gF gN
      have hy : ys2.length = c := hR2.length.trans hlen2
      dsimp only
      show wpAny _ _ (execs ([_] ++ []) _) _ _ _
      refine A_block ?_
      k_fold
      k_steps
      unfold Later
      (rename Fr _ _ _ _ => fX; rename News _ _ _ _ => nX)
      refine LCg.CompSrc.ledger (by rfl) fX nX (.head _) (by rw [sizeLine_eq, List.size_toArray]; omega) fun g' => ?_
      rw [List.size_toArray, hR2.length]
      refine tuplesComp (base := (D2, listO ys2 cap2) :: (L + 1, oc) :: RL2) (hR2.mono fun _ _ q => .tail _ (.tail _ q)) (.head _) h62 ?_ ?_ rows2.length 0 [] [] (by omega) .nil
      · intro I oI C oC D ys m₂ h tk E' Q' NL r l cp row hv hC F1 N1 hl h6 cK
        clear fX nX
        k_steps
        refine kde_tupleOf F1 N1 (News.isList N1 (.head _)) ?_ rfl ?_
        · have := hl.length; have := h6.1; rw [List.size_toArray]; omega
        intro t h' F' N' hlt
        rw [List.forall_mem_cons] at hlt
        rw [List.forall_mem_cons] at hlt
        rw [List.forall_mem_cons] at hlt
        rw [List.forall_mem_cons] at hlt
        exact cK t _ h' _ F' (N'.perm fun q hq => (List.mem_cons.mp hq).elim (fun e => e ▸ .head _) fun hq => .tail _ (.tail _ hq)) (Nat.ne_of_lt hlt.2.1) (Nat.ne_of_lt hlt.2.2.1) (Nat.ne_of_lt hlt.2.2.2.1) ⟨l, by simp, hl⟩
      · intro ys TL hT
        k_steps
        (rename Fr _ _ _ _ => fE; rename News _ _ _ _ => nE; rename LCg.Off1 _ _ => oD)
        refine ok _ _ _ (Fr.kept gk fE) ⟨rows2, h62, by omega, _, ys, _, TL, rfl, freshOf' gk (nE _ (.head _)).2.2 List.not_mem_nil, (nE _ (.head _)).1, fun q hq => ?_, hT⟩
        have z := nE q (.tail _ (List.mem_append_left _ hq))
        exact ⟨freshOf' gk z.2.2 List.not_mem_nil, z.1, off1_all oD q (List.mem_append_left _ hq)⟩
end
end
end
section
open PySem PySem.W PySem.Calls PyProof.Rows
section
variable {w : World} {mean : ExcName → Option Value} {mg mb : Str → Option Value} {n n' : Nat} {A : Around} {base : Heap} {s s₀ : Shared} {L a : Addr} {m : Str → Option Value} {name : Str} {scope : Scope} {cd : Value} {news : List (Addr × Obj)}
theorem catch_stays (F : Fr base L s.heap m) (hL : base.get? L = none) : base.StaysIn (hideAll s.heap [L]) := fun b o e => hideAll_get _ (F.keep b o e) fun q => by rw [List.mem_singleton.mp q, hL] at e; cases e
theorem fr_none (F : Fr base L s.heap m) : base.get? L = none := by
  cases q : base.get? L with
  | none => rfl
  | some o => exact absurd (Heap.lt_size q) (Nat.not_lt.mpr F.above)
/-- the place of a call whose exception is caught here: all that stands is base, but the frame -/
theorem catchSite (S : Site w mean mg mb n' A base [] s₀ []) (B : Below A base [] base) (F : Fr base L s.heap m) (hk : scope.kind = .function) (hn : n + 1 ≤ n') :
    Site w mean mg mb n (A.deeper (envOf name scope L a cd)) (hideAll s.heap [L]) [envOf name scope L a cd] s [] := by
  have S1 : Site w mean mg mb n (A.deeper (envOf name scope L a cd)) base [envOf name scope L a cd] s [] := S.body (news := []) (D := []) B F (by intro _ q; cases q) (by intro _ q; cases q) ⟨rfl, hk⟩ hn
  have st := catch_stays F (fr_none F)
  refine ⟨⟨S1.B.stack, fun b o e => of_hideAll _ e, ?_⟩, S.K.keeps st, S.T.keeps st, S1.hh, S1.room, S1.unit, (by intro _ q; cases q), (by intro _ q; cases q)⟩
  obtain ⟨q1, ⟨L', o, hf, hn', ho, hnf⟩, hr⟩ := S1.B.frames
  obtain rfl : L = L' := Option.some.inj hf
  exact ⟨q1, ⟨L, o, hf, hideAll_none _ (.head _), ho, hnf⟩, trivial⟩
theorem caught {Q : Flow → Shared → Prop} {E : Value → Shared → Prop} {e : Addr} {h' : Heap} {tk : Nat} {np pos : Pos} {b₀ : Stmt} {suite : List Stmt} (S : Site w mean mg mb n' A base [] s₀ []) (B : Below A base [] base) (F : Fr base L s.heap m) (N : News base L s.heap news)
    (hk : scope.kind = .function) (hx : (envOf name scope L a cd).kindOf (Str.ofString "BadImage") = some .globalImplicit)
    (X : Exc (hideAll s.heap [L]) [envOf name scope L a cd] e h') (U : s.heap.UpToSlots h')
    (hE : PassesOwnAt (MD w) ((A.deeper (envOf name scope L a cd)).mark (some (.ref e))) (A.deeper (envOf name scope L a cd)) (envOf name scope L a cd) E)
    (k : ∀ h'' tk', Fr base L h'' m → News base L h'' news → wpAny (MD w) ((A.deeper (envOf name scope L a cd)).mark (some (.ref e))) (execs (b₀ :: suite) (envOf name scope L a cd)) Q E { s with heap := h'', toks := tk' }) :
    wpAny (MD w) (A.deeper (envOf name scope L a cd)) (noteFrame (.ref e) (envOf name scope L a cd)) (fun _ s₂ => wpAny (MD w) (A.deeper (envOf name scope L a cd)) (setFlight (.ref e) none) (fun _ s₃ =>
      wpAny (MD w) (A.deeper (envOf name scope L a cd)) (handleBy (.ref e) (envOf name scope L a cd) [.ExceptHandler (some (.Name (Str.ofString "BadImage") np)) none (b₀ :: suite) pos]) Q E s₃) E s₂) E { s with heap := h', toks := tk } := by
  obtain ⟨a0, X⟩ := X
  have hL := fr_none F
  have st := catch_stays F hL
  refine wpAny_looks_onW (L := L) (by rw [Around.deeper]; exact congrArg (Option.map _) B.stack) rfl X fun h1 hH hsm1 => ?_
  refine wpAny_landsW hH fun h2 hF hsm2 => ?_
  have back : ∀ {h3 : Heap}, (hideAll s.heap [L]).StaysIn h3 → s.heap.UpToSlots h3 → Fr base L h3 m := fun k1 k2 => ⟨k2.ns F.ns, fun b o e => k1 b o (st b o e), F.above⟩
  have F2 := back hF.1 ((U.trans hsm1).trans hsm2)
  have KT : KtsTest PySem.Challenge.rw_sa0229_01.row.prog w (hd.heap_1 w.params) VW LS mg mb name scope L a cd (.ref 51) (.Name (Str.ofString "BadImage") np) true :=
    test_name (c := .ref 51) (Or.inl (by k_is)) (by kts_exm) hk hx (by decide)
  refine wpAny_handleBy_cons (codeAny_handlers_test (KT _ _ _ _ base e m F2 S.K (topRead_of S.T) ?_ fun h5 kp => ?_)) (by intro q; cases q)
  · obtain ⟨ob, hob, hc⟩ := hF.there
    rw [← hc]
    exact (Looks.ld hob).andThen .now
  · have hF5 : Heap.FlyingW (hideAll s.heap [L]) [envOf name scope L a cd] e (.ref 51) a0 h5 := flying_keeps hF kp
    refine codeAny_handlers_suite (lands_againW hF5 fun h6 hF6 hsm6 => ?_)
    have F6 := back hF6.1 ((((U.trans hsm1).trans hsm2).trans (Heap.UpToSlots.of_keeps kp)).trans hsm6)
    exact wpAny_passesOwnAt hE (k h6 _ F6 fun q hq => ⟨hF6.1 _ _ (hideAll_get _ (N q hq).1 fun z => (N q hq).2.1 (List.mem_singleton.mp z)), (N q hq).2⟩)
end
end
section
open PySem PySem.W PySem.Calls PyProof.Rows
theorem eqv_self (rows : List (List Int)) : PyData.eqv (rowsData rows) (rowsData rows) = true := by simp [rowsData, PyData.eqv, eqvRows]
theorem rows_same {A : Around} {s : Shared} {r r2 : Addr} {rows : List (List Int)} (h1 : SecsAt s.heap r rows) (h2 : SecsAt s.heap r2 rows) (hu : A.units + 64 < cLine) : PySem.SeqAt.EqAt A s (.ref r) (.ref r2) true := by
  have d := depthRows rows
  have c : (rowsData rows).canLay0 = true := by simp [rowsData, PyData.canLay0, canLayRows]
  have dd : (rowsData rows).depth ≤ 2 := by simp only [rowsData, PyData.depth]; omega
  have q := PySem.SeqAt.eqAt_reads (rowsData rows) (rowsData rows) A s (.ref r) (.ref r2) _ _ (readsRows h1) (readsRows h2) c c (by omega)
  rwa [eqv_self] at q
theorem tup5_ne {prog : Program} {A : Around} {E : Value → Shared → Prop} {s : Shared} {Q : Value → Shared → Prop} {tA tB r r2 : Addr} {b : Array UInt8} {d t e : Int} {rows : List (List Int)} {k1 k2 k3 k4 j1 j2 j3 j4 : Tok} {w : World}
    (hA : s.heap.get? tA = some { cls := .type "tuple", data := .seq #[.bytes b k1, .int d k2, .int t k3, .ref r, .int e k4] })
    (hB : s.heap.get? tB = some { cls := .type "tuple", data := .seq #[.bytes b j1, .int d j2, .int t j3, .ref r2, .int e j4] })
    (h1 : SecsAt s.heap r rows) (h2 : SecsAt s.heap r2 rows) (hu : A.units + 65 < cLine) (h : Q (.bool false) s) : wpAny (model prog w) A (compareOp .NotEq (.ref tA) (.ref tB)) Q E s := by
  have key : PySem.SeqAt.RcNeAt A s (.ref tA) (.ref tB) (!((List.range (min 5 5)).all (fun _ => true) && (5 : Nat) == 5)) := by
    refine PySem.SeqAt.RcNeAt.tuples (e := fun _ => true) (items := #[.bytes b k1, .int d k2, .int t k3, .ref r, .int e k4]) (items2 := #[.bytes b j1, .int d j2, .int t j3, .ref r2, .int e j4]) ⟨_, hA, rfl, _, rfl⟩ ⟨_, hB, rfl, _, rfl⟩ (by omega) (fun j z1 z2 => ?_)
    have z : j = 0 ∨ j = 1 ∨ j = 2 ∨ j = 3 ∨ j = 4 := by simp at z1; omega
    rcases z with rfl | rfl | rfl | rfl | rfl
    · exact fun prog w E Q hq => eqBool_bytes (by simpa using hq)
    · have q := PySem.SeqAt.EqAt.int_int (A := A.in1) (s := s) d k2 d j2
      rwa [beq_self_eq_true] at q
    · have q := PySem.SeqAt.EqAt.int_int (A := A.in1) (s := s) t k3 t j3
      rwa [beq_self_eq_true] at q
    · exact rows_same h1 h2 (by show A.units + 1 + 64 < cLine; omega)
    · have q := PySem.SeqAt.EqAt.int_int (A := A.in1) (s := s) e k4 e j4
      rwa [beq_self_eq_true] at q
  exact key prog w E Q h
end
section
open PySem PySem.W PySem.Calls PyProof.Rows
theorem plainFun {cs : List Int} {deep token : Int} {rows : List (List Int)} {o1 o2 : List Int} (h1 : WriteOk cs deep token rows o1) (h2 : WriteOk cs deep token rows o2) : o1 = o2 := by
  rcases h1 with ⟨a, rfl⟩ | ⟨a, _, h1⟩ <;> rcases h2 with ⟨b, rfl⟩ | ⟨b, _, h2⟩
  · rfl
  · exact absurd a b
  · exact absurd b a
  · rcases h1 with ⟨a, rfl⟩ | ⟨a, a2, _, rfl⟩ | ⟨a, a2, _, rfl⟩ <;> rcases h2 with ⟨b, rfl⟩ | ⟨b, b2, _, rfl⟩ | ⟨b, b2, _, rfl⟩ <;> first | rfl | exact absurd a b | exact absurd b a | exact absurd a2 b2 | exact absurd b2 a2
theorem plainLay {cs : List Int} {deep token : Int} {rows : List (List Int)} {o : List Int} (h6 : Rows6 rows) (h : WriteOk cs deep token rows o) : LayOk deep token rows := by
  rcases h with ⟨⟨_, h2, h3, h4⟩, _⟩ | ⟨_, hh, h⟩
  · obtain rfl := List.eq_nil_of_length_eq_zero h4
    refine ⟨⟨⟨h3.1, Int.lt_of_le_of_lt h3.2 (by decide)⟩, ?_⟩, fun _ q => nomatch q⟩
    rw [h2]; exact ⟨by decide, by decide⟩
  · refine ⟨hh, ?_⟩
    rcases h with ⟨rfl, _⟩ | ⟨_, _, h, _⟩ | ⟨_, _, h, _⟩
    · exact fun _ q => nomatch q
    · exact fun row hr => fatRow_of (h6 row hr).1 (h row hr)
    · exact h
theorem bInts_inj {a b : Array UInt8} (h : KBw.bInts a = KBw.bInts b) : a = b := by
  unfold KBw.bInts at h
  have hi : Function.Injective (fun x : UInt8 => ((x.toNat : Nat) : Int)) := fun x y e => UInt8.toNat_inj.mp (Int.ofNat.inj e)
  exact Array.toList_inj.mp (List.map_inj_right (fun x y e => hi e) |>.mp h)
theorem plainPos {cs : List Int} {deep token : Int} {rows : List (List Int)} {out : List Int} (h : WriteOk cs deep token rows out) : 0 < out.length := by
  rcases h with ⟨_, rfl⟩ | ⟨_, _, ⟨_, rfl⟩ | ⟨_, _, _, rfl⟩ | ⟨_, _, _, rfl⟩⟩ <;> simp only [List.length_append, leL_length, headB_len] <;> omega
theorem plainLen {cs : List Int} {deep token : Int} {rows : List (List Int)} {out : List Int} (hr : rows.length ≤ 21) (hn : cs.length ≤ 258) (h6 : Rows6 rows) (h : WriteOk cs deep token rows out) : out.length ≤ 1000 := by
  have f := fatB_len h6
  have p := padN_lt (headB cs.length deep token rows.length ++ cs).length
  rcases h with ⟨_, rfl⟩ | ⟨_, _, ⟨_, rfl⟩ | ⟨_, _, _, rfl⟩ | ⟨_, _, _, rfl⟩⟩ <;> simp only [List.length_append, leL_length, headB_len, List.length_replicate, smallB_len] at * <;> omega
theorem getR (P X : List Int) (i : Nat) : (P ++ X).getD (P.length + i) 0 = X.getD i 0 := by
  simp [List.getD_eq_getElem?_getD, List.getElem?_append_right]
theorem getL {a : List Int} (b : List Int) {i : Nat} (h : i < a.length) : (a ++ b).getD i 0 = a.getD i 0 := by
  simp [List.getD_eq_getElem?_getD, List.getElem?_append_left h]
theorem getZ {a : List Int} {i : Nat} (h : a.length ≤ i) : a.getD i 0 = 0 := by
  simp [List.getD_eq_getElem?_getD, List.getElem?_eq_none h]
theorem le2R (P X : List Int) (i : Nat) : le2 (P ++ X) (P.length + i) = le2 X i := by
  unfold le2; rw [Nat.add_assoc, getR, getR]
theorem le4R (P X : List Int) (i : Nat) : le4 (P ++ X) (P.length + i) = le4 X i := by
  unfold le4; simp only [Nat.add_assoc, getR]
theorem skip1 (a : Int) (c : Nat) (Y : List Int) (i : Nat) : (leL a c ++ Y).getD (c + i) 0 = Y.getD i 0 := by
  have := getR (leL a c) Y i; rwa [leL_length] at this
theorem skip2 (a : Int) (c : Nat) (Y : List Int) (i : Nat) : le2 (leL a c ++ Y) (c + i) = le2 Y i := by
  have := le2R (leL a c) Y i; rwa [leL_length] at this
theorem skip4 (a : Int) (c : Nat) (Y : List Int) (i : Nat) : le4 (leL a c ++ Y) (c + i) = le4 Y i := by
  have := le4R (leL a c) Y i; rwa [leL_length] at this
theorem le2_back {a : Int} (h1 : 0 ≤ a) (h2 : a < 65536) : a % 256 + 256 * (a / 256 % 256) = a := by omega
theorem le4_back {a : Int} (h1 : 0 ≤ a) (h2 : a < 4294967296) : a % 256 + 256 * (a / 256 % 256) + 65536 * (a / 65536 % 256) + 16777216 * (a / 16777216 % 256) = a := by omega
theorem at1 {a : Int} (h : fits a 1) (Y : List Int) : (leL a 1 ++ Y).getD 0 0 = a := by
  rw [leL1]; exact Int.emod_eq_of_lt h.1 h.2
theorem at2 {a : Int} (h : fits a 2) (Y : List Int) : le2 (leL a 2 ++ Y) 0 = a := by
  rw [leL2]; exact le2_back h.1 h.2
theorem at4 {a : Int} (h : fits a 4) (Y : List Int) : le4 (leL a 4 ++ Y) 0 = a := by
  rw [leL4]; exact le4_back h.1 h.2
theorem headFacts {len nr : Nat} {deep token : Int} (hd : HeadOk deep token) (hl : len ≤ 258) (P Y : List Int) {p : Nat} (hp : P.length = p) :
    le1 (P ++ (headB len deep token nr ++ Y)) p = firstOf nr token ∧ le1 (P ++ (headB len deep token nr ++ Y)) (p + 1) = 48 ∧ le2 (P ++ (headB len deep token nr ++ Y)) (p + 1 + 1) = deep ∧
      le4 (P ++ (headB len deep token nr ++ Y)) (p + 1 + 1 + 2) = (len : Int) ∧ le4 (P ++ (headB len deep token nr ++ Y)) (p + 1 + 1 + 2 + 4) = token := by
  subst hp
  have e : headB len deep token nr ++ Y = leL (flagsOf nr token) 2 ++ (leL deep 2 ++ (leL (len : Int) 4 ++ (leL token 4 ++ Y))) := by unfold headB; simp only [List.append_assoc]
  rw [e]
  have hl4 : fits (len : Int) 4 := ⟨Int.natCast_nonneg _, Int.lt_of_le_of_lt (Int.ofNat_le.mpr hl) (by decide)⟩
  refine ⟨?_, ?_, ?_, ?_, ?_⟩
  · rw [flags_leL]; exact getR P _ 0
  · rw [flags_leL]; exact getR P _ 1
  · exact (le2R P _ (2 + 0)).trans ((skip2 _ 2 _ 0).trans (at2 hd.1 _))
  · exact (le4R P _ (2 + (2 + 0))).trans ((skip4 _ 2 _ _).trans ((skip4 _ 2 _ 0).trans (at4 hl4 _)))
  · exact (le4R P _ (2 + (2 + (4 + 0)))).trans ((skip4 _ 2 _ _).trans ((skip4 _ 2 _ _).trans ((skip4 _ 4 _ 0).trans (at4 hd.2 _))))
theorem first_mod (n : Nat) (token : Int) : firstOf n token % 4 = 3 := by
  unfold firstOf
  (repeat' split) <;> rfl
theorem first_or (n : Nat) (token : Int) : firstOf n token = 3 ∨ firstOf n token = 11 ∨ firstOf n token = 19 ∨ firstOf n token = 27 := by
  unfold firstOf
  (repeat' split) <;> decide
theorem first_bit (n : Nat) (token : Int) : firstOf n token / 8 % 2 = if n = 0 then 0 else 1 := by
  unfold firstOf
  (repeat' split) <;> rfl
/-- the place of the section -/
theorem secAt_eq {ks : List Int} {p n : Nat} (h : le4 ks (p + 1 + 1 + 2) = (n : Int)) : bodyAt ks p = p + 12 + n ∧ secAt ks p = p + (12 + n + padN (12 + n)) := by
  have e : bodyAt ks p = p + 12 + n := by unfold bodyAt; rw [h]; omega
  refine ⟨e, ?_⟩
  unfold secAt
  rw [e, show (4 : Int) = ((4 : Nat) : Int) from rfl, fm]
  unfold padN
  omega
theorem smallRow_read {row : List Int} (h6 : row.length = 6) (ho : smallRowOk row) (P Y : List Int) : okRowS (P ++ (smallRowB row ++ Y)) P.length ∧ rowS (P ++ (smallRowB row ++ Y)) P.length = row := by
  obtain ⟨a, b, c, d, e, f, rfl⟩ := six h6
  obtain ⟨o0, o1, o2, o3, o4, o5, o6⟩ := ho
  have e1 : smallRowB [a, b, c, d, e, f] ++ Y = leL a 2 ++ (leL b 2 ++ (leL c 1 ++ (leL d 2 ++ (leL e 1 ++ (leL f 4 ++ Y))))) := by
    unfold smallRowB; simp only [List.append_assoc]; rfl
  have hL : P.length + 12 ≤ (P ++ (smallRowB [a, b, c, d, e, f] ++ Y)).length := by rw [List.length_append, List.length_append, smallRowB_len]; exact Nat.add_le_add_left (Nat.le_add_right _ _) _
  rw [e1] at hL ⊢
  have w0 := (le2R P (leL a 2 ++ (leL b 2 ++ (leL c 1 ++ (leL d 2 ++ (leL e 1 ++ (leL f 4 ++ Y)))))) 0).trans (at2 (a := a) o1 _)
  have w1 := (le2R P (leL a 2 ++ (leL b 2 ++ (leL c 1 ++ (leL d 2 ++ (leL e 1 ++ (leL f 4 ++ Y)))))) (2 + 0)).trans ((skip2 _ 2 _ 0).trans (at2 (a := b) o2 _))
  have w2 := (getR P (leL a 2 ++ (leL b 2 ++ (leL c 1 ++ (leL d 2 ++ (leL e 1 ++ (leL f 4 ++ Y)))))) (2 + (2 + 0))).trans ((skip1 _ 2 _ _).trans ((skip1 _ 2 _ 0).trans (at1 (a := c) o3 _)))
  have w3 := (le2R P (leL a 2 ++ (leL b 2 ++ (leL c 1 ++ (leL d 2 ++ (leL e 1 ++ (leL f 4 ++ Y)))))) (2 + (2 + (1 + 0)))).trans ((skip2 _ 2 _ _).trans ((skip2 _ 2 _ _).trans ((skip2 _ 1 _ 0).trans (at2 (a := d) o4 _))))
  have w4 := (getR P (leL a 2 ++ (leL b 2 ++ (leL c 1 ++ (leL d 2 ++ (leL e 1 ++ (leL f 4 ++ Y)))))) (2 + (2 + (1 + (2 + 0))))).trans ((skip1 _ 2 _ _).trans ((skip1 _ 2 _ _).trans ((skip1 _ 1 _ _).trans ((skip1 _ 2 _ 0).trans (at1 (a := e) o5 _)))))
  have w5 := (le4R P (leL a 2 ++ (leL b 2 ++ (leL c 1 ++ (leL d 2 ++ (leL e 1 ++ (leL f 4 ++ Y)))))) (2 + (2 + (1 + (2 + (1 + 0)))))).trans ((skip4 _ 2 _ _).trans ((skip4 _ 2 _ _).trans ((skip4 _ 1 _ _).trans ((skip4 _ 2 _ _).trans ((skip4 _ 1 _ 0).trans (at4 (a := f) o6 _))))))
  refine ⟨⟨hL, ?_⟩, ?_⟩
  · exact (show okSort (le2 _ P.length) from w0.symm ▸ o0)
  · unfold rowS
    exact congr (congrArg List.cons w0) (congr (congrArg List.cons w1) (congr (congrArg List.cons w2) (congr (congrArg List.cons w3) (congr (congrArg List.cons w4) (congrArg (fun z => [z]) w5)))))
theorem fatRowB_len {row : List Int} (h : row.length = 6) : (fatRowB row).length = 24 := by
  obtain ⟨a, b, c, d, e, f, rfl⟩ := six h
  simp [fatRowB, leL_length]
theorem fatRow_read {row : List Int} (h6 : row.length = 6) (ho : fatRowOk row) (P Y : List Int) : okRowF (P ++ (fatRowB row ++ Y)) P.length ∧ rowF (P ++ (fatRowB row ++ Y)) P.length = row := by
  have hl := fatRowB_len h6
  obtain ⟨a, b, c, d, e, f, rfl⟩ := six h6
  obtain ⟨o0, oo⟩ := ho
  have o1 := oo a (.head _)
  have o2 := oo b (.tail _ (.head _))
  have o3 := oo c (.tail _ (.tail _ (.head _)))
  have o4 := oo d (.tail _ (.tail _ (.tail _ (.head _))))
  have o5 := oo e (.tail _ (.tail _ (.tail _ (.tail _ (.head _)))))
  have o6 := oo f (.tail _ (.tail _ (.tail _ (.tail _ (.tail _ (.head _))))))
  have e1 : fatRowB [a, b, c, d, e, f] ++ Y = leL a 4 ++ (leL b 4 ++ (leL c 4 ++ (leL d 4 ++ (leL e 4 ++ (leL f 4 ++ Y))))) := by
    simp only [fatRowB, List.flatMap_cons, List.flatMap_nil, List.append_assoc, List.nil_append]
  have hL : P.length + 24 ≤ (P ++ (fatRowB [a, b, c, d, e, f] ++ Y)).length := by rw [List.length_append, List.length_append, hl]; exact Nat.add_le_add_left (Nat.le_add_right _ _) _
  rw [e1] at hL ⊢
  have w0 := (le4R P (leL a 4 ++ (leL b 4 ++ (leL c 4 ++ (leL d 4 ++ (leL e 4 ++ (leL f 4 ++ Y)))))) 0).trans (at4 (a := a) o1 _)
  have w1 := (le4R P (leL a 4 ++ (leL b 4 ++ (leL c 4 ++ (leL d 4 ++ (leL e 4 ++ (leL f 4 ++ Y)))))) (4 + 0)).trans ((skip4 _ 4 _ 0).trans (at4 (a := b) o2 _))
  have w2 := (le4R P (leL a 4 ++ (leL b 4 ++ (leL c 4 ++ (leL d 4 ++ (leL e 4 ++ (leL f 4 ++ Y)))))) (4 + (4 + 0))).trans ((skip4 _ 4 _ _).trans ((skip4 _ 4 _ 0).trans (at4 (a := c) o3 _)))
  have w3 := (le4R P (leL a 4 ++ (leL b 4 ++ (leL c 4 ++ (leL d 4 ++ (leL e 4 ++ (leL f 4 ++ Y)))))) (4 + (4 + (4 + 0)))).trans ((skip4 _ 4 _ _).trans ((skip4 _ 4 _ _).trans ((skip4 _ 4 _ 0).trans (at4 (a := d) o4 _))))
  have w4 := (le4R P (leL a 4 ++ (leL b 4 ++ (leL c 4 ++ (leL d 4 ++ (leL e 4 ++ (leL f 4 ++ Y)))))) (4 + (4 + (4 + (4 + 0))))).trans ((skip4 _ 4 _ _).trans ((skip4 _ 4 _ _).trans ((skip4 _ 4 _ _).trans ((skip4 _ 4 _ 0).trans (at4 (a := e) o5 _)))))
  have w5 := (le4R P (leL a 4 ++ (leL b 4 ++ (leL c 4 ++ (leL d 4 ++ (leL e 4 ++ (leL f 4 ++ Y)))))) (4 + (4 + (4 + (4 + (4 + 0)))))).trans ((skip4 _ 4 _ _).trans ((skip4 _ 4 _ _).trans ((skip4 _ 4 _ _).trans ((skip4 _ 4 _ _).trans ((skip4 _ 4 _ 0).trans (at4 (a := f) o6 _))))))
  refine ⟨⟨hL, ?_⟩, ?_⟩
  · exact (show okSort (le4 _ P.length) from w0.symm ▸ o0)
  · unfold rowF
    exact congr (congrArg List.cons w0) (congr (congrArg List.cons w1) (congr (congrArg List.cons w2) (congr (congrArg List.cons w3) (congr (congrArg List.cons w4) (congrArg (fun z => [z]) w5)))))
theorem rows_read {f : List Int → List Int} {w : Nat} {ok : List Int → Nat → Prop} {get : List Int → Nat → List Int} {good : List Int → Prop} (hf : ∀ r, good r → (f r).length = w)
    (h1 : ∀ r, good r → ∀ P Y, ok (P ++ (f r ++ Y)) P.length ∧ get (P ++ (f r ++ Y)) P.length = r) : ∀ (rows : List (List Int)) (_ : ∀ r ∈ rows, good r) (P Y : List Int),
    (∀ i < rows.length, ok (P ++ (rows.flatMap f ++ Y)) (P.length + w * i)) ∧ ((List.range rows.length).map fun i => get (P ++ (rows.flatMap f ++ Y)) (P.length + w * i)) = rows
  | [], _, P, Y => ⟨fun _ h => (Nat.not_lt_zero _ h).elim, rfl⟩
  | r :: rows, hg, P, Y => by
    have g1 := hg r (.head _)
    have ih := rows_read hf h1 rows (fun r' h => hg r' (.tail _ h)) (P ++ f r) Y
    have h2 := h1 r g1 P (rows.flatMap f ++ Y)
    have e : P ++ ((r :: rows).flatMap f ++ Y) = P ++ (f r ++ (rows.flatMap f ++ Y)) := by simp [List.flatMap_cons]
    have e2 : (P ++ f r) ++ (rows.flatMap f ++ Y) = P ++ (f r ++ (rows.flatMap f ++ Y)) := by simp
    have e3 : ∀ i, (P ++ f r).length + w * i = P.length + w * (i + 1) := fun i => by rw [List.length_append, hf r g1, Nat.mul_add]; omega
    rw [e]
    rw [e2] at ih
    refine ⟨fun i hi => ?_, ?_⟩
    · cases i with
      | zero => simpa using h2.1
      | succ i => have := ih.1 i (by simpa using hi); rwa [e3] at this
    · rw [List.length_cons, List.range_succ_eq_map, List.map_cons, List.map_map]
      congr 1
      · simpa using h2.2
      · refine Eq.trans (List.map_congr_left (g := fun i => get (P ++ (f r ++ (rows.flatMap f ++ Y))) ((P ++ f r).length + w * i)) fun i _ => ?_) ih.2
        show get _ (P.length + w * (i + 1)) = _
        rw [← e3]
theorem rows_read_small (rows : List (List Int)) (h : ∀ r ∈ rows, r.length = 6 ∧ smallRowOk r) (P Y : List Int) :
    (∀ i < rows.length, okRowS (P ++ (rows.flatMap smallRowB ++ Y)) (P.length + 12 * i)) ∧ ((List.range rows.length).map fun i => rowS (P ++ (rows.flatMap smallRowB ++ Y)) (P.length + 12 * i)) = rows :=
  rows_read (good := fun r => r.length = 6 ∧ smallRowOk r) (fun r _ => smallRowB_len r) (fun _ g P Y => smallRow_read g.1 g.2 P Y) rows h P Y
theorem rows_read_fat (rows : List (List Int)) (h : ∀ r ∈ rows, r.length = 6 ∧ fatRowOk r) (P Y : List Int) :
    (∀ i < rows.length, okRowF (P ++ (rows.flatMap fatRowB ++ Y)) (P.length + 24 * i)) ∧ ((List.range rows.length).map fun i => rowF (P ++ (rows.flatMap fatRowB ++ Y)) (P.length + 24 * i)) = rows :=
  rows_read (good := fun r => r.length = 6 ∧ fatRowOk r) (fun r g => fatRowB_len g.1) (fun _ g P Y => fatRow_read g.1 g.2 P Y) rows h P Y
/-- the head of a section -/
theorem secHead (w n : Nat) (hw : w * n + 4 < 65536) (x : Int) (hx : 0 ≤ x ∧ x < 256) (P Y : List Int) {q : Nat} (hq : P.length = q) :
    le1 (P ++ (leL x 1 ++ (leL (((w : Int) * (n : Int) + 4) % 256) 1 ++ (leL (((w : Int) * (n : Int) + 4) / 256) 2 ++ Y)))) q = x ∧
      le1 (P ++ (leL x 1 ++ (leL (((w : Int) * (n : Int) + 4) % 256) 1 ++ (leL (((w : Int) * (n : Int) + 4) / 256) 2 ++ Y)))) (q + 1) = ((w : Int) * (n : Int) + 4) % 256 ∧
      le2 (P ++ (leL x 1 ++ (leL (((w : Int) * (n : Int) + 4) % 256) 1 ++ (leL (((w : Int) * (n : Int) + 4) / 256) 2 ++ Y)))) (q + 1 + 1) = ((w : Int) * (n : Int) + 4) / 256 := by
  subst hq
  have hz : ((w * n + 4 : Nat) : Int) = (w : Int) * (n : Int) + 4 := by push_cast; rfl
  rw [← hz]
  have hm : ((w * n + 4 : Nat) : Int) < 65536 := Int.ofNat_lt.mpr hw
  have hm0 := Int.natCast_nonneg (w * n + 4)
  clear hz hw
  generalize ((w * n + 4 : Nat) : Int) = m at *
  have f1 : fits (m % 256) 1 := ⟨Int.emod_nonneg _ (by decide), Int.emod_lt_of_pos _ (by decide)⟩
  have f2 : fits (m / 256) 2 := ⟨Int.ediv_nonneg hm0 (by decide), Int.ediv_lt_of_lt_mul (by decide) (Int.lt_trans hm (by decide))⟩
  refine ⟨?_, ?_, ?_⟩
  · exact (getR P _ 0).trans (at1 (a := x) hx _)
  · exact (getR P _ (1 + 0)).trans ((skip1 _ 1 _ 0).trans (at1 f1 _))
  · exact (le2R P _ (1 + (1 + 0))).trans ((skip2 _ 1 _ _).trans ((skip2 _ 1 _ 0).trans (at2 f2 _)))
/-- the section's octets -/
inductive SecB (rows : List (List Int)) : List Int → Prop
  | small : rows.length ≤ 20 → (∀ r ∈ rows, r.length = 6 ∧ smallRowOk r) → SecB rows (smallB rows)
  | fat : rows.length ≤ 21 → (∀ r ∈ rows, r.length = 6 ∧ fatRowOk r) → SecB rows (fatB rows)
theorem secB_facts {rows : List (List Int)} {S : List Int} (h : SecB rows S) : ∃ (x : Int) (w : Nat) (F : List Int), ((x = 1 ∧ w = 12) ∨ (x = 65 ∧ w = 24)) ∧ rows.length ≤ 21 ∧ w * rows.length + 4 < 65536 ∧ F.length = w * rows.length ∧
    S = leL x 1 ++ (leL (((w : Int) * (rows.length : Int) + 4) % 256) 1 ++ (leL (((w : Int) * (rows.length : Int) + 4) / 256) 2 ++ F)) ∧ (x = 1 → w * rows.length + 4 < 256) := by
  cases h with
  | small h1 h2 =>
    refine ⟨1, 12, rows.flatMap smallRowB, .inl ⟨rfl, rfl⟩, by omega, by omega, flat_len smallRowB_len rows, ?_, fun _ => by omega⟩
    unfold smallB
    rw [show (((12 : Nat) : Int) * (rows.length : Int) + 4) % 256 = 12 * (rows.length : Int) + 4 by omega, show (((12 : Nat) : Int) * (rows.length : Int) + 4) / 256 = 0 by omega]
  | fat h1 h2 =>
    refine ⟨65, 24, rows.flatMap fatRowB, .inr ⟨rfl, rfl⟩, by omega, by omega, ?_, ?_, fun q => by omega⟩
    · rw [List.length_flatMap]
      have : rows.map (fun r => (fatRowB r).length) = rows.map (fun _ => 24) := List.map_congr_left fun r hr => fatRowB_len (h2 r hr).1
      rw [this, List.map_const', List.sum_replicate_nat]; omega
    · rfl
theorem secB_len {rows : List (List Int)} {S : List Int} (h : SecB rows S) : 4 ≤ S.length ∧ S.length ≤ 508 := by
  obtain ⟨x, w, F, h1, h2, h3, h4, rfl, h5⟩ := secB_facts h
  simp only [List.length_append, leL_length, h4]
  rcases h1 with ⟨rfl, rfl⟩ | ⟨rfl, rfl⟩ <;> omega
theorem secB_small {rows : List (List Int)} {S : List Int} (h : SecB rows S) (P B : List Int) {q : Nat} (hq : P.length = q) : (P ++ (S ++ B)).getD q 0 < 128 := by
  obtain ⟨x, w, F, h1, h2, h3, h4, rfl, h5⟩ := secB_facts h
  have := (secHead w rows.length h3 x (by omega) P (F ++ B) hq).1
  simp only [List.append_assoc]
  unfold le1 at this
  rw [this]; omega
/-- a section is read back -/
theorem secBack {rows : List (List Int)} {S : List Int} (h : SecB rows S) (P B : List Int) {q : Nat} (hq : P.length = q) (rows' : List (List Int)) (e : Nat) :
    SecOk (P ++ (S ++ B)) q rows' e ↔ rows' = rows ∧ e = q + S.length := by
  obtain ⟨x, w, F, h1, h2, h3, h4, h5, h6⟩ := secB_facts h
  have hl : S.length = 4 + w * rows.length := by rw [h5]; simp only [List.length_append, leL_length, h4]; omega
  obtain ⟨a1, a2, a3⟩ := secHead w rows.length h3 x (by omega) P (F ++ B) hq
  have e1 : P ++ (S ++ B) = P ++ (leL x 1 ++ (leL (((w : Int) * (rows.length : Int) + 4) % 256) 1 ++ (leL (((w : Int) * (rows.length : Int) + 4) / 256) 2 ++ (F ++ B)))) := by rw [h5]; simp only [List.append_assoc]
  rw [← e1] at a1 a2 a3
  have hL : (P ++ (S ++ B)).length = q + (4 + w * rows.length) + B.length := by simp only [List.length_append, hl]; omega
  have key : (x = 1 → (∀ i < rows.length, okRowS (P ++ (S ++ B)) (q + 1 + 1 + 2 + 12 * i)) ∧ ((List.range rows.length).map fun i => rowS (P ++ (S ++ B)) (q + 1 + 1 + 2 + 12 * i)) = rows) ∧
      (x = 65 → (∀ i < rows.length, okRowF (P ++ (S ++ B)) (q + 1 + 1 + 2 + 24 * i)) ∧ ((List.range rows.length).map fun i => rowF (P ++ (S ++ B)) (q + 1 + 1 + 2 + 24 * i)) = rows) := by
    cases h with
    | small g1 g2 =>
      refine ⟨fun _ => ?_, fun hx => ?_⟩
      · have := rows_read_small rows g2 (P ++ (leL 1 1 ++ (leL (12 * (rows.length : Int) + 4) 1 ++ leL 0 2))) B
        have e2 : (P ++ (leL 1 1 ++ (leL (12 * (rows.length : Int) + 4) 1 ++ leL 0 2))) ++ (rows.flatMap smallRowB ++ B) = P ++ (smallB rows ++ B) := by unfold smallB; simp only [List.append_assoc]
        have e3 : (P ++ (leL 1 1 ++ (leL (12 * (rows.length : Int) + 4) 1 ++ leL 0 2))).length = q + 1 + 1 + 2 := by simp only [List.length_append, leL_length]; omega
        rwa [e2, e3] at this
      · exfalso
        have : (P ++ (smallB rows ++ B)).getD q 0 = 1 := by
          have z : ∀ X : List Int, (P ++ X).getD q 0 = X.getD 0 0 := fun X => by rw [← hq]; exact getR P X 0
          rw [z]; unfold smallB; rw [leL1]; rfl
        unfold le1 at a1
        omega
    | fat g1 g2 =>
      refine ⟨fun hx => ?_, fun _ => ?_⟩
      · exfalso
        have : (P ++ (fatB rows ++ B)).getD q 0 = 65 := by
          have z : ∀ X : List Int, (P ++ X).getD q 0 = X.getD 0 0 := fun X => by rw [← hq]; exact getR P X 0
          rw [z]; unfold fatB; rw [leL1]; rfl
        unfold le1 at a1
        omega
      · have := rows_read_fat rows g2 (P ++ (leL 65 1 ++ (leL ((24 * (rows.length : Int) + 4) % 256) 1 ++ leL ((24 * (rows.length : Int) + 4) / 256) 2))) B
        have e2 : (P ++ (leL 65 1 ++ (leL ((24 * (rows.length : Int) + 4) % 256) 1 ++ leL ((24 * (rows.length : Int) + 4) / 256) 2))) ++ (rows.flatMap fatRowB ++ B) = P ++ (fatB rows ++ B) := by unfold fatB; simp only [List.append_assoc]
        have e3 : (P ++ (leL 65 1 ++ (leL ((24 * (rows.length : Int) + 4) % 256) 1 ++ leL ((24 * (rows.length : Int) + 4) / 256) 2))).length = q + 1 + 1 + 2 := by simp only [List.length_append, leL_length]; omega
        rwa [e2, e3] at this
  clear e1 h5
  constructor
  · rintro ⟨c, c1, c2, ⟨d1, d2, d3, d4, d5⟩ | ⟨d1, d2, d3, d4, d5⟩⟩
    · rcases h1 with ⟨rfl, rfl⟩ | ⟨rfl, rfl⟩
      · have hc : c = 12 * rows.length := by have := h6 rfl; omega
        have hc2 : c / 12 = rows.length := by omega
        rw [hc2, (key.1 rfl).2] at d5
        exact ⟨d5, by omega⟩
      · omega
    · rcases h1 with ⟨rfl, rfl⟩ | ⟨rfl, rfl⟩
      · omega
      · have hc : c = 24 * rows.length := by omega
        have hc2 : c / 24 = rows.length := by omega
        rw [hc2, (key.2 rfl).2] at d5
        exact ⟨d5, by omega⟩
  · rintro ⟨rfl, rfl⟩
    refine ⟨w * rows'.length, by omega, by omega, ?_⟩
    rcases h1 with ⟨rfl, rfl⟩ | ⟨rfl, rfl⟩
    · have hc2 : 12 * rows'.length / 12 = rows'.length := by omega
      have := h6 rfl
      refine .inl ⟨a1, by omega, by omega, ?_, ?_⟩
      · rw [hc2]; exact (key.1 rfl).1
      · rw [hc2]; exact (key.1 rfl).2.symm
    · have hc2 : 24 * rows'.length / 24 = rows'.length := by omega
      refine .inr ⟨a1, by omega, by omega, ?_, ?_⟩
      · rw [hc2]; exact (key.2 rfl).1
      · rw [hc2]; exact (key.2 rfl).2.symm
/-- a section cut short is none -/
theorem secCut {rows : List (List Int)} {S : List Int} (h : SecB rows S) (P : List Int) {q m : Nat} (hq : P.length = q) (hm : m < S.length) (rows' : List (List Int)) (e : Nat) : ¬ SecOk (P ++ S.take m) q rows' e := by
  obtain ⟨x, w, F, h1, h2, h3, h4, h5, h6⟩ := secB_facts h
  have hl : S.length = 4 + w * rows.length := by rw [h5]; simp only [List.length_append, leL_length, h4]; omega
  rintro ⟨c, c1, c2, hc⟩
  have hL : (P ++ S.take m).length = q + m := by simp only [List.length_append, List.length_take, hq]; omega
  have m4 : 4 ≤ m := by omega
  have e0 : S.take m = leL x 1 ++ (leL (((w : Int) * (rows.length : Int) + 4) % 256) 1 ++ (leL (((w : Int) * (rows.length : Int) + 4) / 256) 2 ++ F.take (m - 4))) := by
    obtain ⟨j, rfl⟩ := Nat.exists_eq_add_of_le m4
    rw [h5, leL1, leL1, leL2, Nat.add_comm 4 j]
    simp [List.take_succ_cons]
  obtain ⟨a1, a2, a3⟩ := secHead w rows.length h3 x (by omega) P (F.take (m - 4)) hq
  rw [← e0] at a1 a2 a3
  rcases hc with ⟨d1, d2, d3, -⟩ | ⟨d1, d2, d3, -⟩
  · rcases h1 with ⟨rfl, rfl⟩ | ⟨rfl, rfl⟩
    · have := h6 rfl; omega
    · omega
  · rcases h1 with ⟨rfl, rfl⟩ | ⟨rfl, rfl⟩ <;> omega
theorem writeShape {cs : List Int} {deep token : Int} {rows : List (List Int)} {out : List Int} (h6 : Rows6 rows) (hr : rows.length ≤ 21) (h : WriteOk cs deep token rows out) :
    (tinyOk cs.length deep token rows.length ∧ out = (4 * (cs.length : Int) + 2) :: cs) ∨
    (HeadOk deep token ∧ ((rows = [] ∧ out = headB cs.length deep token rows.length ++ cs) ∨
      (rows ≠ [] ∧ ∃ Pre S Y, SecB rows S ∧ Pre = headB cs.length deep token rows.length ++ (cs ++ Y) ∧ Pre.length = 12 + cs.length + padN (12 + cs.length) ∧ out = Pre ++ S))) := by
  have e : (headB cs.length deep token rows.length ++ cs).length = 12 + cs.length := by rw [List.length_append, headB_len]
  have k : (headB cs.length deep token rows.length ++ (cs ++ List.replicate (padN (12 + cs.length)) 0)).length = 12 + cs.length + padN (12 + cs.length) := by
    rw [← List.append_assoc, List.length_append, e, List.length_replicate]
  rcases h with ⟨a, rfl⟩ | ⟨_, hd, ⟨rfl, rfl⟩ | ⟨a, b, c, rfl⟩ | ⟨a, b, c, rfl⟩⟩
  · refine .inl ⟨a, ?_⟩
    obtain ⟨q, _⟩ := a
    rw [leL1, show ((cs.length : Int) * 4 + 2) % 256 = 4 * (cs.length : Int) + 2 by clear e k; omega]; rfl
  · exact .inr ⟨hd, .inl ⟨rfl, rfl⟩⟩
  · exact .inr ⟨hd, .inr ⟨a, _, _, _, .small b.1 fun r m => ⟨(h6 r m).1, c r m⟩, rfl, k, by rw [e]; simp only [List.append_assoc]⟩⟩
  · exact .inr ⟨hd, .inr ⟨a, _, _, _, .fat hr fun r m => ⟨(h6 r m).1, c r m⟩, rfl, k, by rw [e]; simp only [List.append_assoc]⟩⟩
theorem bodyTiny {ks : List Int} {p : Nat} {c : Int} (h : le1 ks p = c) (h2 : c % 4 = 2) (cs : List Int) (d t : Int) (rows : List (List Int)) (e : Nat) :
    BodyOk ks p cs d t rows e ↔ (p + 1 + (c / 4).toNat ≤ ks.length ∧ cs = (ks.drop (p + 1)).take (c / 4).toNat ∧ d = 8 ∧ t = 0 ∧ rows = [] ∧ e = p + 1 + (c / 4).toNat) := by
  subst h
  constructor
  · rintro (⟨_, a⟩ | ⟨q, _⟩)
    · exact a
    · exfalso; omega
  · exact fun a => .inl ⟨h2, a⟩
theorem bodyFat {ks : List Int} {p n : Nat} {c d0 t0 : Int} (a1 : le1 ks p = c) (f : c % 4 = 3) (g : c = 3 ∨ c = 11 ∨ c = 19 ∨ c = 27) (a2 : le1 ks (p + 1) = 48) (a3 : le2 ks (p + 1 + 1) = d0) (a4 : le4 ks (p + 1 + 1 + 2) = (n : Int)) (a5 : le4 ks (p + 1 + 1 + 2 + 4) = t0)
    (cs : List Int) (d t : Int) (rows : List (List Int)) (e : Nat) :
    BodyOk ks p cs d t rows e ↔ (p + 12 + n ≤ ks.length ∧ d = d0 ∧ t = t0 ∧ cs = (ks.drop (p + 12)).take n ∧ ((c / 8 % 2 = 0 ∧ rows = [] ∧ e = p + 12 + n) ∨ (c / 8 % 2 = 1 ∧ SecOk ks (secAt ks p) rows e))) := by
  obtain ⟨b1, -⟩ := secAt_eq a4
  subst a1 a3 a5
  unfold BodyOk
  rw [b1, a4, Int.toNat_natCast]
  constructor
  · rintro (⟨q, _⟩ | ⟨_, _, x1, x2, x3, x4, x5⟩)
    · exfalso; omega
    · exact ⟨x1, x2, x3, x4, x5⟩
  · rintro ⟨x1, x2, x3, x4, x5⟩
    exact .inr ⟨g, a2, x1, x2, x3, x4, x5⟩
/-- a body is read back -/
theorem plainBack {cs : List Int} {deep token : Int} {rows : List (List Int)} {out : List Int} (h6 : Rows6 rows) (hr : rows.length ≤ 21) (hn : cs.length ≤ 258) (h : WriteOk cs deep token rows out) (P B : List Int) {p : Nat} (hp : P.length = p) :
    (le1 (P ++ out ++ B) p / 8 % 2 = 1 → le1 (P ++ out ++ B) p % 4 ≠ 2 → (P ++ out ++ B).getD (secAt (P ++ out ++ B) p) 0 < 128) ∧
    ∀ cs' d' t' rows' e, BodyOk (P ++ out ++ B) p cs' d' t' rows' e ↔ (cs' = cs ∧ d' = (if out.getD 0 0 % 4 = 2 then 8 else deep) ∧ t' = token ∧ rows' = rows ∧ e = p + out.length) := by
  rw [List.append_assoc]
  have g0 : ∀ X : List Int, (P ++ X).getD p 0 = X.getD 0 0 := fun X => by rw [← hp]; exact getR P X 0
  rcases writeShape h6 hr h with ⟨⟨t1, t2, t3, t4⟩, rfl⟩ | ⟨hd, hc⟩
  · obtain rfl := List.eq_nil_of_length_eq_zero t4
    have e1 : le1 (P ++ ((4 * (cs.length : Int) + 2) :: cs ++ B)) p = 4 * (cs.length : Int) + 2 := by unfold le1; rw [g0]; rfl
    have e2 : ((P ++ ((4 * (cs.length : Int) + 2) :: cs ++ B)).drop (p + 1)).take cs.length = cs := by
      rw [← hp, ← List.drop_drop, List.drop_left]
      show ((cs ++ B).take cs.length) = cs
      exact List.take_left
    have e3 : ((4 * (cs.length : Int) + 2) / 4).toNat = cs.length := by omega
    have e4 : (P ++ ((4 * (cs.length : Int) + 2) :: cs ++ B)).length = p + 1 + cs.length + B.length := by simp only [List.length_append, List.length_cons, hp]; omega
    refine ⟨fun _ q => absurd (by rw [e1]; omega) q, fun cs' d' t' rows' e => ?_⟩
    rw [show List.getD ((4 * (cs.length : Int) + 2) :: cs) 0 0 = 4 * (cs.length : Int) + 2 from rfl, if_pos (by omega)]
    refine (bodyTiny e1 (by omega) cs' d' t' rows' e).trans ?_
    rw [e3, e4, e2, t2, List.length_cons]
    constructor
    · rintro ⟨_, a, b, c, d, e⟩
      exact ⟨a, b, c, d, by omega⟩
    · rintro ⟨a, b, c, d, e⟩
      exact ⟨by omega, a, b, c, d, by omega⟩
  · have e0 : ∃ Y, out = headB cs.length deep token rows.length ++ (cs ++ Y) := by
      rcases hc with ⟨rfl, rfl⟩ | ⟨_, Pre, S, Y, _, rfl, _, rfl⟩
      · exact ⟨[], by rw [List.append_nil]⟩
      · exact ⟨Y ++ S, by simp only [List.append_assoc]⟩
    obtain ⟨Y, hY⟩ := e0
    have eX : P ++ (out ++ B) = P ++ (headB cs.length deep token rows.length ++ (cs ++ (Y ++ B))) := by rw [hY]; simp only [List.append_assoc]
    obtain ⟨a1, a2, a3, a4, a5⟩ := headFacts (nr := rows.length) hd hn P (cs ++ (Y ++ B)) hp
    rw [← eX] at a1 a2 a3 a4 a5
    obtain ⟨b1, b2⟩ := secAt_eq a4
    have ec : ((P ++ (out ++ B)).drop (p + 12)).take cs.length = cs := by
      rw [eX, ← hp, ← List.drop_drop, List.drop_left, ← headB_len cs.length deep token rows.length, List.drop_left]
      exact List.take_left
    have eL : (P ++ (out ++ B)).length = p + 12 + cs.length + Y.length + B.length := by
      rw [eX]; simp only [List.length_append, headB_len, hp]; omega
    have f1 := first_mod rows.length token
    have f2 := first_or rows.length token
    have f3 := first_bit rows.length token
    have o0 : out.getD 0 0 = firstOf rows.length token := by
      rw [← a1]; unfold le1; rw [g0, hY]
      rw [List.append_assoc, getL _ (by rw [headB_len]; omega), getL _ (by rw [headB_len]; omega)]
    rw [o0, if_neg (by omega)]
    rcases hc with ⟨rfl, hout⟩ | ⟨hne, Pre, S, Y', hS, hPre, hPl, hout⟩
    · have hYn : Y.length = 0 := by
        have := congrArg List.length hY
        rw [hout] at this
        simp only [List.length_append] at this
        omega
      rw [show ([] : List (List Int)).length = 0 from rfl] at f3 a1
      rw [if_pos rfl] at f3
      refine ⟨fun q => absurd q (by rw [a1]; omega), fun cs' d' t' rows' e => ?_⟩
      have oL : out.length = 12 + cs.length := by rw [hout, List.length_append, headB_len]
      rw [show ([] : List (List Int)).length = 0 from rfl] at f1 f2
      refine (bodyFat a1 f1 f2 a2 a3 a4 a5 cs' d' t' rows' e).trans ?_
      rw [ec]
      constructor
      · rintro ⟨_, a, b, c, ⟨_, d, e⟩ | ⟨q, _⟩⟩
        · exact ⟨c, a, b, d, by omega⟩
        · rw [f3] at q; cases q
      · rintro ⟨a, b, c, d, e⟩
        exact ⟨by omega, b, c, a, .inl ⟨f3, d, by omega⟩⟩
    · have hr0 : rows.length ≠ 0 := fun q => hne (List.eq_nil_of_length_eq_zero q)
      rw [if_neg hr0] at f3
      have eS : P ++ (out ++ B) = (P ++ Pre) ++ (S ++ B) := by rw [hout]; simp only [List.append_assoc]
      have lS : (P ++ Pre).length = secAt (P ++ (out ++ B)) p := by rw [b2, List.length_append, hp, hPl]
      have oL : p + out.length = secAt (P ++ (out ++ B)) p + S.length := by rw [b2, hout, List.length_append, hPl, Nat.add_assoc p]
      have sk := secBack hS _ B lS
      have sm := secB_small hS _ B lS
      rw [← eS] at sk sm
      refine ⟨fun _ _ => sm, fun cs' d' t' rows' e => ?_⟩
      refine (bodyFat a1 f1 f2 a2 a3 a4 a5 cs' d' t' rows' e).trans ?_
      rw [ec, sk]
      constructor
      · rintro ⟨_, a, b, c, ⟨q, _⟩ | ⟨_, d, e⟩⟩
        · rw [f3] at q; cases q
        · exact ⟨c, a, b, d, by omega⟩
      · rintro ⟨a, b, c, d, e⟩
        exact ⟨by omega, b, c, a, .inr ⟨f3, d, by omega⟩⟩
/-- no cut of a body is one -/
theorem plainCut {cs : List Int} {deep token : Int} {rows : List (List Int)} {out : List Int} (h6 : Rows6 rows) (hr : rows.length ≤ 21) (hn : cs.length ≤ 258) (h : WriteOk cs deep token rows out) (P : List Int) {p part : Nat} (hp : P.length = p) (hc : part < out.length) :
    (le1 (P ++ out.take part) p / 8 % 2 = 1 → le1 (P ++ out.take part) p % 4 ≠ 2 → (P ++ out.take part).getD (secAt (P ++ out.take part) p) 0 < 128) ∧
    ∀ cs' d' t' rows' e, ¬ BodyOk (P ++ out.take part) p cs' d' t' rows' e := by
  have g0 : ∀ X : List Int, (P ++ X).getD p 0 = X.getD 0 0 := fun X => by rw [← hp]; exact getR P X 0
  have hL : (P ++ out.take part).length = p + part := by simp only [List.length_append, List.length_take, hp]; omega
  by_cases hp0 : part = 0
  · subst hp0
    have e1 : le1 (P ++ out.take 0) p = 0 := by unfold le1; rw [g0]; rfl
    refine ⟨fun q => absurd q (by rw [e1]; decide), fun cs' d' t' rows' e => ?_⟩
    unfold BodyOk
    rw [e1]
    rintro (⟨q, _⟩ | ⟨q, _⟩) <;> omega
  obtain ⟨k, rfl⟩ : ∃ k, part = k + 1 := ⟨part - 1, by omega⟩
  have first : le1 (P ++ out.take (k + 1)) p = out.getD 0 0 := by
    unfold le1; rw [g0]
    cases out with
    | nil => exact absurd hc (Nat.not_lt_zero _)
    | cons a l => rfl
  rcases writeShape h6 hr h with ⟨⟨t1, t2, t3, t4⟩, rfl⟩ | ⟨hd, hs⟩
  · have e1 : le1 (P ++ ((4 * (cs.length : Int) + 2) :: cs).take (k + 1)) p = 4 * (cs.length : Int) + 2 := first
    refine ⟨fun _ q => absurd (by rw [e1]; omega) q, fun cs' d' t' rows' e => ?_⟩
    unfold BodyOk
    rw [e1, hL]
    rw [List.length_cons] at hc
    rintro (⟨_, q, _⟩ | ⟨q, _⟩) <;> omega
  · have f1 := first_mod rows.length token
    have f2 := first_or rows.length token
    have f3 := first_bit rows.length token
    have o0 : out.getD 0 0 = firstOf rows.length token := by
      have := (headFacts (nr := rows.length) hd hn [] (out.drop 12) (p := 0) rfl).1
      rw [← this]
      rw [List.nil_append]
      unfold le1
      rw [getL _ (by rw [headB_len]; decide)]
      rcases hs with ⟨_, rfl⟩ | ⟨_, Pre, S, Y, _, rfl, _, rfl⟩
      · rw [getL _ (by rw [headB_len]; decide)]
      · rw [List.append_assoc, getL _ (by rw [headB_len]; decide)]
    rw [o0] at first
    by_cases h12 : k + 1 < 12
    · have big : p + 12 ≤ bodyAt (P ++ out.take (k + 1)) p := by unfold bodyAt; omega
      refine ⟨fun _ _ => ?_, fun cs' d' t' rows' e => ?_⟩
      · rw [getZ (by unfold secAt; omega)]; decide
      · unfold BodyOk
        rw [first]
        rintro (⟨q, _⟩ | ⟨_, _, q, _⟩) <;> omega
    have tk : ∀ Z : List Int, (headB cs.length deep token rows.length ++ Z).take (k + 1) = headB cs.length deep token rows.length ++ Z.take (k + 1 - 12) := fun Z => by
      rw [List.take_append, headB_len, List.take_of_length_le (by rw [headB_len]; omega)]
    have e0 : ∃ Z, out.take (k + 1) = headB cs.length deep token rows.length ++ Z := by
      rcases hs with ⟨_, rfl⟩ | ⟨_, Pre, S, Y, _, rfl, _, rfl⟩
      · exact ⟨_, tk _⟩
      · rw [List.append_assoc]; exact ⟨_, tk _⟩
    obtain ⟨Z, hZ⟩ := e0
    obtain ⟨a1, a2, a3, a4, a5⟩ := headFacts (nr := rows.length) hd hn P Z hp
    rw [← hZ] at a1 a2 a3 a4 a5
    obtain ⟨b1, b2⟩ := secAt_eq a4
    rcases hs with ⟨rfl, hout⟩ | ⟨hne, Pre, S, Y, hS, hPre, hPl, hout⟩
    · have oL : out.length = 12 + cs.length := by rw [hout, List.length_append, headB_len]
      rw [show ([] : List (List Int)).length = 0 from rfl] at f1 f2 f3 first
      rw [if_pos rfl] at f3
      refine ⟨fun q => absurd q (by rw [first]; omega), fun cs' d' t' rows' e hb => ?_⟩
      have q := ((bodyFat first f1 f2 a2 a3 a4 a5 cs' d' t' rows' e).mp hb).1
      omega
    · have hr0 : rows.length ≠ 0 := fun q => hne (List.eq_nil_of_length_eq_zero q)
      rw [if_neg hr0] at f3
      have oL : out.length = 12 + cs.length + padN (12 + cs.length) + S.length := by rw [hout, List.length_append, hPl]
      by_cases hk : k + 1 < 12 + cs.length + padN (12 + cs.length)
      · refine ⟨fun _ _ => ?_, fun cs' d' t' rows' e => ?_⟩
        · rw [getZ (by rw [hL, b2]; omega)]; decide
        · intro hb
          obtain ⟨-, -, -, -, hq⟩ := (bodyFat first f1 f2 a2 a3 a4 a5 cs' d' t' rows' e).mp hb
          rcases hq with ⟨q, _⟩ | ⟨_, c, c1, _⟩
          · rw [f3] at q; cases q
          · rw [hL, b2] at c1; omega
      · have eT : out.take (k + 1) = Pre ++ S.take (k + 1 - (12 + cs.length + padN (12 + cs.length))) := by
          rw [hout, List.take_append, hPl, List.take_of_length_le (by rw [hPl]; omega)]
        have eS : P ++ out.take (k + 1) = (P ++ Pre) ++ S.take (k + 1 - (12 + cs.length + padN (12 + cs.length))) := by
          rw [eT, List.append_assoc P]
        have lS : (P ++ Pre).length = secAt (P ++ out.take (k + 1)) p := by rw [b2, List.length_append, hPl, hp]
        have cut := secCut hS _ lS (m := k + 1 - (12 + cs.length + padN (12 + cs.length))) (by omega)
        rw [← eS] at cut
        refine ⟨fun _ _ => ?_, fun cs' d' t' rows' e => ?_⟩
        · by_cases hm0 : k + 1 = 12 + cs.length + padN (12 + cs.length)
          · rw [getZ (by rw [hL, b2]; omega)]; decide
          · have sm := secB_small hS (P ++ Pre) [] lS
            rw [eS]
            rw [← eS]
            have e5 : ∀ (A : List Int) (q j : Nat), A.length = q → j ≠ 0 → (A ++ S.take j).getD q 0 = (A ++ (S ++ [])).getD q 0 := fun A q j ha hj => by
              rw [← ha]
              have u := getR A (S.take j) 0
              have v := getR A (S ++ []) 0
              rw [Nat.add_zero] at u v
              rw [u, v, List.append_nil]
              cases S with
              | nil => rw [List.take_nil]
              | cons a l => obtain ⟨j', rfl⟩ := Nat.exists_eq_succ_of_ne_zero hj; rfl
            have := e5 _ _ (k + 1 - (12 + cs.length + padN (12 + cs.length))) lS (by omega)
            rw [← eS] at this
            rw [this]; exact sm
        · intro hb
          obtain ⟨-, -, -, -, hq⟩ := (bodyFat first f1 f2 a2 a3 a4 a5 cs' d' t' rows' e).mp hb
          rcases hq with ⟨q, _⟩ | ⟨_, q⟩
          · rw [f3] at q; cases q
          · exact cut _ _ q
end
section
local macro_rules | `(tactic| walk_at "eval Call") => `(tactic| with_unfolding_all refine Call_ ?_)
section
open PySem PySem.W PySem.Calls PyProof.Rows
theorem noNews {h₀ h : Heap} {L : Addr} {m : Str → Option Value} (_ : Fr h₀ L h m) : News h₀ L h [] := fun _ q => nomatch q
section
variable {w : World} {mean : ExcName → Option Value} {mg mb : Str → Option Value} {A : Around} {s : Shared} {Q E : Value → Shared → Prop}
  {o : Obj} {name : Str} {params : Arguments} {body : List Stmt} {scope : Scope} {pm cd doc : Value} {f : Addr} {vs : List Value} {binds : List (Str × Value)}
theorem enterL (T : Top VW LS mean mg mb s.heap) (hroom : A.depth < 901) (ho : s.heap.get? f = some o) (hdd : o.data = .func (docDef name params body scope pm cd doc)) (hcd : s.heap.CodeRec cd name)
    (hbind : BindsTo s (docDef name params body scope pm cd doc) ⟨vs, []⟩ binds) (hloc : ∀ y ∈ binds, scope.names.lookup y.1 = some .local)
    (h : ∀ L h₁, Fr s.heap L h₁ (fun y => binds.reverse.lookup y) → News s.heap L h₁ [] →
      wpC (model PySem.Challenge.rw_sa0229_01.row.prog w) (A.deeper (envOf name scope L f cd)) (execs body (envOf name scope L f cd)) (fun fl s' => Q (match fl with | .ret v => v | _ => .none) s')
        (fun e s' => wpAny (model PySem.Challenge.rw_sa0229_01.row.prog w) (A.deeper (envOf name scope L f cd)) (leaving (envOf name scope L f cd) e) (fun _ s'' => E e s'') (fun e' s'' => E e' s'') s')
        { s with heap := h₁, toks := s.toks + binds.length })
    (hco : scope.isCoroutine = false) (hgen : scope.isGenerator = false) (hk : scope.kind = .function) (hcell : ∀ x ∈ scope.names, x.2 ≠ .cell) :
    wpC (model PySem.Challenge.rw_sa0229_01.row.prog w) A (call (.ref f) vs) Q E s := by
  refine wpC_call (codeC_call_def (fd := docDef name params body scope pm cd doc) (body := body) (binds := binds) (Nat.lt_of_lt_of_le hroom (by decide)) ho hdd T.nolimit hcd rfl hbind hcell hloc (fun h₁ hns hk₁ => ?_) hco hgen hk)
  exact h s.heap.objs.size h₁ ⟨hns, hk₁, Nat.le_refl _⟩ (fun _ q => nomatch q)
end
theorem mulN {prog : Program} {w : World} {A : Around} {E : Value → Shared → Prop} {s : Shared} {l : List UInt8} {n : Int} {t u : Tok} {Q : Value → Shared → Prop} (hn : l.length = 3) (hn2 : n = 86) (h : ∀ kb t' k, (KBw.bInts kb).length = 258 → Q (.bytes kb t') { s with toks := k }) :
    wpAny (model prog w) A (binaryOp .Mult (.bytes l.toArray t) (.int n u)) Q E s := by
  have hne : l ≠ [] := fun q => by rw [q] at hn; cases hn
  have hl : ((List.replicate n.toNat l).flatten).length = 258 := by rw [List.length_flatten, List.map_replicate, List.sum_replicate_nat, hn, hn2]; rfl
  refine bytes_mul_any hne (by omega) (by omega) (by omega) (fun t' k => ?_)
  refine h _ t' k ?_
  rw [KBw.ints_length, List.size_toArray, hl]
theorem mul86 {prog : Program} {w : World} {A : Around} {E : Value → Shared → Prop} {s : Shared} {ns : List Int} {t u : Tok} {Q : Value → Shared → Prop} (hn : ns.length = 3) (h : ∀ kb t' k, (KBw.bInts kb).length = 258 → Q (.bytes kb t') { s with toks := k }) :
    wpAny (model prog w) A (binaryOp .Mult (.bytes (byteArr ns) t) (.int 86 u)) Q E s := by
  unfold byteArr
  exact mulN (by rw [List.length_map, hn]) rfl h
section
variable {w : World} {mean : ExcName → Option Value} {mg mb : Str → Option Value} {n n' : Nat} {A : Around} {base h₀ : Heap} {fr : List Env} {s s₀ : Shared} {L : Addr} {m : Str → Option Value} {env : Env} {news : List (Addr × Obj)} {D₀ : List Addr} {Q E : Value → Shared → Prop} {f : Addr} {vs : List Value} {exc : Prop} {pre : Heap → Prop}
theorem useRowsE {R : List (List Int) → Prop} (h : Spec w mean mg mb n f vs [] pre (fun h v h' => ∃ rows, R rows ∧ RowsNew h v h' rows) exc) (S : Site w mean mg mb n' A base fr s₀ D₀) (B : Below A base fr h₀) (F : Fr h₀ L s.heap m)
    (N : News h₀ L s.heap news) (hn : n + 1 ≤ n') (hk : env.frame = some L ∧ env.scope.kind = .function) (hp : pre s.heap) (hno : ¬ exc)
    (ok : ∀ rows r vs cap ts h' tk, Fr h₀ L h' m → News h₀ L h' ((r, listO vs cap) :: ts) → RowsAt (fun a o => (a, o) ∈ ts) vs rows → R rows → Q (.ref r) { s with heap := h', toks := tk }) :
    wpAny (MD w) (A.deeper env) (call (.ref f) vs) Q E s := by
  refine h _ base _ s Q _ (S.body (D := []) B F N (by intro _ q; cases q) hk hn) hp (fun v h' tk K P => ?_) fun q => (hno q).elim
  obtain ⟨rows, hr, r, vs, cap, ts, rfl, f1, o1, ht, hR⟩ := P
  refine ok rows r vs cap ts h' tk (Fr.keepBut (D := []) F N (by intro _ q; cases q) K) (List.forall_mem_cons.mpr ⟨⟨o1, (newAt' F N f1).1, (newAt' F N f1).2.1⟩, fun q hq => ?_⟩) hR hr
  have z := newAt' F N (ht q hq).1
  exact ⟨(ht q hq).2.1, z.1, z.2.1⟩
theorem useSecsE {R : Value → Prop} {sr : Addr} {lvs : List Value} {cap : Nat} {ts : List (Addr × Obj)} {rows : List (List Int)} (h : Spec w mean mg mb n f vs [] (fun h => SecsAt h sr rows) (fun _ v _ => R v) exc) (S : Site w mean mg mb n' A base fr s₀ D₀) (B : Below A base fr h₀) (F : Fr h₀ L s.heap m)
    (N : News h₀ L s.heap ((sr, listO lvs cap) :: ts)) (hR : RowsAt (fun a o => (a, o) ∈ ts) lvs rows) (hn : n + 1 ≤ n') (hk : env.frame = some L ∧ env.scope.kind = .function) (hno : ¬ exc)
    (ok : ∀ v h' tk, Fr h₀ L h' m → News h₀ L h' ((sr, listO lvs cap) :: ts) → R v → Q v { s with heap := h', toks := tk }) :
    wpAny (MD w) (A.deeper env) (call (.ref f) vs) Q E s :=
  h _ base _ s Q _ (S.body (D := []) B F N (by intro _ q; cases q) hk hn) ⟨lvs, cap, (N _ (.head _)).1, hR.mono fun a o q => (N (a, o) (.tail _ q)).1⟩
    (fun v h' tk K P => ok v h' tk (Fr.keepBut (D := []) F N (by intro _ q; cases q) K) (News.keepBut (D := []) N K fun q hq => ⟨hq, fun hm => nomatch hm⟩) P) fun q => (hno q).elim
end
theorem clausesE (w : World) {mean : ExcName → Option Value} {mg mb : Str → Option Value} (l : Addr) (vs : List Value) (ns : List Int) (hi : IntsAre vs ns) (hl : ns.length ≤ 63) : Spec w mean mg mb 12 417 [.ref l] [] (fun h => h.IsList l vs.toArray)
    (fun h v h' => ∃ rows, (Rows6 rows ∧ rows.length ≤ 21) ∧ RowsNew h v h' rows) False := by
  intro A base fr s Q E S hpre ok er
  refine lawClauses l vs ns hi hl A base fr s Q E S hpre (fun v h' tk K P => ok v h' tk K ?_) er
  obtain ⟨rows, p1, p2, p3⟩ := P
  exact ⟨rows, ⟨p1, p2⟩, p3⟩
theorem ints_repk {v : Value} {n : Int} (hv : ∃ t, v = .int n t) : ∀ k : Nat, IntsAre (List.replicate k v) (List.replicate k n)
  | 0 => .nil
  | k + 1 => by
    obtain ⟨t, rfl⟩ := hv
    exact .cons n t (ints_repk ⟨t, rfl⟩ k)
theorem In_repk {n : Int} (h : 0 ≤ n ∧ n < 256) (k : Nat) : KBa.In (List.replicate k n) := fun x hx => by rw [List.eq_of_mem_replicate hx]; exact h
noncomputable def DepSt (g : Heap) (L : Addr) (h : Heap) (lA : Addr) (cb : Array UInt8) (token : Int) (sr : Addr) (b : Array UInt8) (ld : Nat) (dep : Int) (news : List (Addr × Obj)) : Prop :=
  ∃ m bb be nb t1 t2 t3 t4 t5 t6 t7, Fr g L h (front [(Str.ofString "script", .ref lA), (Str.ofString "code", .bytes cb t1), (Str.ofString "token", .int token t2), (Str.ofString "rows", .ref sr), (Str.ofString "got", .bytes b t3), (Str.ofString "lead", .int (ld : Int) t4), (Str.ofString "before", .bytes bb t5), (Str.ofString "depth", .int dep t6), (Str.ofString "behind", .bytes be t7)] m) ∧
    News g L h news ∧ KBw.bInts bb = List.replicate ld 9 ∧ nb < 4 ∧ KBw.bInts be = List.replicate nb 255
theorem nameA {p : Addr → Prop} {a : Addr} (h : p a) : ∃ lA, lA = a ∧ p lA := ⟨a, rfl, h⟩
theorem flat_rep (x : Int) : ∀ k : Nat, (List.replicate k [x]).flatten = List.replicate k x
  | 0 => rfl
  | k + 1 => by rw [List.replicate_succ, List.flatten_cons, flat_rep x k]; rfl
theorem In_flatrep {x : Int} (h : 0 ≤ x ∧ x < 256) (k : Nat) : KBa.In (List.replicate k [x]).flatten := by rw [flat_rep]; exact In_repk h k
theorem rep_len4 (x n : Int) : (List.replicate (Int.fmod n 4).toNat [x]).flatten.length ≤ 16777216 := by
  rw [flat_rep, List.length_replicate]; have := fmodI n 4 (by decide); omega
theorem fm4_lt (n : Int) : (Int.fmod n 4).toNat < 4 := by have := fmodI n 4 (by decide); omega
theorem dep_pos {out : List Int} (h : (out.getD (Int.toNat 0) 0).fmod 4 = 2) : out.getD 0 0 % 4 = 2 := by rw [← h]; exact (fm _ 4).symm
theorem dep_neg {out : List Int} (h : ¬ (out.getD (Int.toNat 0) 0).fmod 4 = 2) : ¬ out.getD 0 0 % 4 = 2 := fun q => h (by rw [← q]; exact fm _ 4)
section
variable {w : World} {mean : ExcName → Option Value} {mg mb : Str → Option Value} {n n' : Nat} {A : Around} {base h₀ : Heap} {fr : List Env} {s s₀ : Shared} {L : Addr} {m : Str → Option Value} {env : Env} {news : List (Addr × Obj)} {D₀ : List Addr} {Q E : Value → Shared → Prop} {f : Addr} {vs : List Value} {exc : Prop}
theorem useBody {R : List Int → Int → Int → List (List Int) → Nat → Prop} (h : Spec w mean mg mb n f vs [] (fun _ => True) (fun h v h' => ∃ cs deep token rows e, R cs deep token rows e ∧ BodyNew h v h' cs deep token rows e) exc) (S : Site w mean mg mb n' A base fr s₀ D₀) (B : Below A base fr h₀) (F : Fr h₀ L s.heap m)
    (N : News h₀ L s.heap news) (hn : n + 1 ≤ n') (hk : env.frame = some L ∧ env.scope.kind = .function) (hno : ¬ exc)
    (ok : ∀ cs deep token rows e t r cb vs cap ts k1 k2 k3 k4 h' tk, R cs deep token rows e → KBw.bInts cb = cs → Fr h₀ L h' m → News h₀ L h' ((t, { cls := .type "tuple", data := .seq #[.bytes cb k1, .int deep k2, .int token k3, .ref r, .int (e : Int) k4] }) :: (r, listO vs cap) :: (ts ++ news)) →
      RowsAt (fun a o => (a, o) ∈ ts) vs rows → Q (.ref t) { s with heap := h', toks := tk }) :
    wpAny (MD w) (A.deeper env) (call (.ref f) vs) Q E s := by
  refine h _ base _ s Q _ (S.body (D := []) B F N (by intro _ q; cases q) hk hn) trivial (fun v h' tk K P => ?_) fun q => (hno q).elim
  obtain ⟨cs, deep, token, rows, e, hr, t, r, cb, vs, cap, ts, k1, k2, k3, k4, rfl, hc, f1, f2, o1, o2, ht, hR⟩ := P
  have N2 : News h₀ L h' news := News.keepBut (D := []) N K fun q hq => ⟨hq, fun hm => nomatch hm⟩
  refine ok cs deep token rows e t r cb vs cap ts k1 k2 k3 k4 h' tk hr hc (Fr.keepBut (D := []) F N (by intro _ q; cases q) K)
    (List.forall_mem_cons.mpr ⟨⟨o1, (newAt' F N f1).1, (newAt' F N f1).2.1⟩, List.forall_mem_cons.mpr ⟨⟨o2, (newAt' F N f2).1, (newAt' F N f2).2.1⟩, fun q hq => ?_⟩⟩) hR
  rcases List.mem_append.mp hq with hq | hq
  · have z := newAt' F N (ht q hq).1
    exact ⟨(ht q hq).2, z.1, z.2.1⟩
  · exact N2 q hq
end
set_option maxHeartbeats 4000000 in
theorem lawHolds : PySem.Challenge.rw_sa0229_01.Holds := by
  refine hd ?_
  k_fill
  intro w s₀ s₁ mg mb G Y fa o pm cd doc dV kV ho hd hcd hD hmg hg args vals as hpre hlay hrd hwl hlo
  have KX := kIn_of Y
  have X := (Ground.X G).1
  have V := (Ground.X G).2
  refine Ground.open G ?_
  intro T B D TE TW
  try (refine guard_noD D (by decide +kernel) ?_; clear D)
  wrow_args hpre hlay hrd hwl hlo
  rename IntsAre _ _ => hi
  rename Heap.IsList _ _ _ => hls
  have hlA0 := nameA (p := fun a => s₁.heap.IsList a (List.toArray _)) hls
  obtain ⟨lA, hlA, _⟩ := hlA0
  subst hlA
  have he := Dflts.none hD rfl
  subst he
  have he := Dflts.noKw hD
  subst he
  have hdd := fd_plain hd
  clear hd hD G Y
  rename ¬ ((63 : Nat) : Int) < _ => h63
  have hl63 := Int.ofNat_le.mp (Int.not_lt.mp h63)
  have S : Site w (ExcName.means s₀.heap) mg mb 25 callerA s₁.heap [] s₁ [] := ⟨below_caller s₁.heap, KX, T, rfl, by decide +kernel, by decide +kernel, (fun _ q => nomatch q), (fun _ q => nomatch q)⟩
  refine wpC_mono (Q := fun v s' => v = .bool true ∧ ∃ h' tk, KeepBut [] s₁.heap h' ∧ s' = { s₁ with heap := h', toks := tk }) (E := fun _ _ => False) ?_ (fun v s' q => ?_) (fun _ _ q => q.elim)
  rotate_left
  · obtain ⟨rfl, h', tk, KB, rfl⟩ := q
    refine ⟨.inl ⟨.bool true, .bool true, [], rfl, raisesW_false (by wrow_none_raised), ReadsW.bool _, postW_of (by wrow_shape) (by wtm_val) (by str_meet; first | done | w_fin), unshared_nil⟩, .of_keep (fun b o e => KB b o List.not_mem_nil e), rfl, .of_eq hg⟩
  dsimp only at hdd
  dsimp only
  refine enterL T (by decide +kernel) ho hdd hcd (BindsTo.of_eq rfl) (locs rfl) ?_ rfl rfl rfl (by decide)
  intro L h₁ F N
  clear ho hdd hcd X V TE TW B hmg
  rename (hd.heap_1 w.params).In _ => X
  have B : Below callerA s₁.heap [] s₁.heap := below_caller _
  show wpC _ _ (execs ([_, _, _, _, _] ++ _) _) _ _ _
  refine C_block ?_
  k_fold
  (repeat' (first | ((with_reducible (((with_reducible show wpAny _ _ (call (Value.ref 405) [Value.ref _, Value.int _ _]) _ _ _); (rename News _ _ _ _ => nXZZ); (refine useE (lawAtI _ _ _ (by assumption) (by assumption) _ ⟨by decide, by decide⟩ _) (by assumption) (by assumption) (by assumption) nXZZ (by decide) ⟨rfl, rfl⟩ (Fr.lst (by assumption) (by assumption)) (fun q => q.elim) ?_); intro vZZ hZZ tkZZ FZZ NZZ rZZ; obtain ⟨nZZ, tZZ, hvZZ⟩ := rZZ; subst hvZZ))) <;> (try dsimp only)) | ((with_reducible (((with_reducible show wpAny _ _ (subscriptTail _ _ (Value.ref _) (Value.int _ _)) _ _ _); refine later ?_))) <;> (try dsimp only)) | walk_at "ks"))
  unfold Later
  (try dsimp only)
  (rename Fr _ _ _ _ => fE)
  refine item_any (lo := 0) (hi := 256) ⟨_, fE.keep _ _ (X _ _ (by k_is)), rfl, _, rfl⟩ (by repeat constructor) (fmodI _ _ (by decide)) (by rfl) (by decide) (by decide) ?_
  intro nc tc hnc
  (repeat' (first | ((with_reducible ((with_reducible show wpAny _ _ (call (Value.type _) _) _ _ _); refine later ?_)) <;> (try dsimp only)) | walk_at "ks"))
  unfold Later
  (try dsimp only)
  (rename Fr _ _ _ _ => fE; rename News _ _ _ _ => nE)
  refine KBa.make_K fE nE (by rfl) (News.isList nE (.head _)) (by repeat constructor) (In_cons (fmodI _ _ (by decide)) (In_cons (by decide) (In_cons (fmodI _ _ (by decide)) In_nil))) (Nat.le_of_ble_eq_true rfl) ?_
  intro h5 t5 k5 F5 N5 hin
  (try dsimp only)
  clear fE nE
  (repeat' (first | ((with_reducible ((with_reducible show wpAny _ _ (binaryOp _ (Value.bytes _ _) (Value.int _ _)) _ _ _); refine later ?_)) <;> (try dsimp only)) | walk_at "ks"))
  unfold Later
  (try dsimp only)
  refine mul86 (by rfl) ?_
  intro kb t6 k6 hkz
  (try dsimp only)
  have hks0 : ∃ ks, KBw.bInts kb = ks := ⟨_, rfl⟩
  obtain ⟨ks, hks⟩ := hks0
  rw [hks] at hkz
  (repeat' (first | ((with_reducible (((with_reducible show wpAny _ _ (call (Value.ref 405) [Value.ref _, Value.int _ _]) _ _ _); (rename News _ _ _ _ => nXZZ); (refine useE (lawAtI _ _ _ (by assumption) (by assumption) _ ⟨by decide, by decide⟩ _) (by assumption) (by assumption) (by assumption) nXZZ (by decide) ⟨rfl, rfl⟩ (Fr.lst (by assumption) (by assumption)) (fun q => q.elim) ?_); intro vZZ hZZ tkZZ FZZ NZZ rZZ; obtain ⟨nZZ, tZZ, hvZZ⟩ := rZZ; subst hvZZ))) <;> (try dsimp only)) | ((with_reducible (((with_reducible show wpAny _ _ (subscriptTail _ _ (Value.ref _) (Value.int _ _)) _ _ _); refine later ?_))) <;> (try dsimp only)) | walk_at "ks"))
  unfold Later
  (try dsimp only)
  (rename Fr _ _ _ _ => fE)
  rename KBw.bInts (KBy.picked kb none (some nc)) = _ => hcs
  have hcb0 : ∃ cb, cb = KBy.picked kb none (some nc) := ⟨_, rfl⟩
  obtain ⟨cb, hcb⟩ := hcb0
  have hcs20 : ∃ cs, cs = List.take (clipAt ks.length nc) ks := ⟨_, rfl⟩
  obtain ⟨cs, hcs2⟩ := hcs20
  (try dsimp only at fE)
  rw [← hcb] at hcs fE
  rw [← hcs2] at hcs
  have hcz : cs.length ≤ 258 := by rw [hcs2, List.length_take]; omega
  clear hcs2 hks hkz hcb
  refine item_any (lo := -1) (hi := 65536) ⟨_, fE.keep _ _ (X _ _ (by k_is)), rfl, _, rfl⟩ (by repeat constructor) (fmodI _ _ (by decide)) (by rfl) (by decide) (by decide) ?_
  intro deep td hdeep
  (repeat' (first | ((with_reducible (((with_reducible show wpAny _ _ (call (Value.ref 405) [Value.ref _, Value.int _ _]) _ _ _); (rename News _ _ _ _ => nXZZ); (refine useE (lawAtI _ _ _ (by assumption) (by assumption) _ ⟨by decide, by decide⟩ _) (by assumption) (by assumption) (by assumption) nXZZ (by decide) ⟨rfl, rfl⟩ (Fr.lst (by assumption) (by assumption)) (fun q => q.elim) ?_); intro vZZ hZZ tkZZ FZZ NZZ rZZ; obtain ⟨nZZ, tZZ, hvZZ⟩ := rZZ; subst hvZZ))) <;> (try dsimp only)) | ((with_reducible (((with_reducible show wpAny _ _ (subscriptTail _ _ (Value.ref _) (Value.int _ _)) _ _ _); refine later ?_))) <;> (try dsimp only)) | walk_at "ks"))
  unfold Later
  (try dsimp only)

  (rename Fr _ _ _ _ => fE)
  refine item_any (lo := -1) (hi := 4294967296) ⟨_, fE.keep _ _ (X _ _ (by k_is)), rfl, _, rfl⟩ (by repeat constructor) (fmodI _ _ (by decide)) (by rfl) (by decide) (by decide) ?_
  intro token tt htok
  k_steps
  (rename Fr _ _ _ _ => fE)
  have F1 := front_self (l := [(Str.ofString "script", .ref lA), (Str.ofString "code", .bytes cb _), (Str.ofString "deep", .int deep td), (Str.ofString "token", .int token tt)]) fE (List.forall_mem_cons.mpr ⟨rfl, List.forall_mem_cons.mpr ⟨rfl, List.forall_mem_cons.mpr ⟨rfl, List.forall_mem_cons.mpr ⟨rfl, List.forall_mem_nil _⟩⟩⟩⟩)
  clear fE
  (rename News _ _ _ _ => nE0)
  clear nE0
  have nE : News s₁.heap L _ [] := noNews F1
  show wpC _ _ (execs ([_, _] ++ _) _) _ _ _
  refine C_block ?_
  k_fold
  (repeat' (first | ((with_reducible (((with_reducible show wpAny _ _ (call (Value.ref 417) _) _ _ _); refine later ?_))) <;> (try dsimp only)) | walk_at "ks"))
  unfold Later
  (try dsimp only)
  (rename Fr _ _ _ _ => fX; rename News _ _ _ _ => nX)
  refine useRowsE (clausesE w _ _ _ hi hl63) S B fX nX (by decide) ⟨rfl, rfl⟩ (Fr.lst fX hls) (fun q => q.elim) ?_
  intro rows sr lvs cap ts h9 tk9 F9 N9 hRows hR6
  (try dsimp only)
  obtain ⟨h6, hrl⟩ := hR6
  clear fX nX
  (repeat' (first | ((with_reducible (((with_reducible show wpAny _ _ (call (Value.ref 441) _) _ _ _); refine later ?_))) <;> (try dsimp only)) | walk_at "ks"))
  unfold Later
  (try dsimp only)
  (rename Fr _ _ _ _ => fX; rename News _ _ _ _ => nX)
  refine useSecsE (lawLay cb _ _ _ cs hcs (by omega) deep token (by omega) (by omega) (by omega) (by omega) sr rows h6 (by omega)) S B fX nX hRows (by decide) ⟨rfl, rfl⟩ (fun q => q.elim) ?_
  intro v h10 tk10 F10 N10 hv
  (try dsimp only)
  clear fX nX
  k_steps
  (rename Fr _ _ _ _ => fE)
  have F2 := front_self (l := [(Str.ofString "script", .ref lA), (Str.ofString "code", .bytes cb _), (Str.ofString "deep", .int deep td), (Str.ofString "token", .int token tt), (Str.ofString "rows", .ref sr), (Str.ofString "want", v)]) fE (List.forall_mem_cons.mpr ⟨rfl, List.forall_mem_cons.mpr ⟨rfl, List.forall_mem_cons.mpr ⟨rfl, List.forall_mem_cons.mpr ⟨rfl, List.forall_mem_cons.mpr ⟨rfl, List.forall_mem_cons.mpr ⟨rfl, List.forall_mem_nil _⟩⟩⟩⟩⟩⟩)
  clear fE
  refine C_execs (C_Try ?_)
  refine C_execs (C_Assign (C_callName ?_))
  k_fold
  k_steps
  refine C_callK (K := hd.heap_1 w.params) (by k_is) ?_
  k_fold
  k_steps
  (rename Fr _ _ _ _ => fX; rename News _ _ _ _ => nX)
  show wpC _ _ (call (Value.ref 327) [_, _, _, _]) _ _ _
  refine writeBody cb cs hcs (by omega) _ _ _ deep token (by omega) (by omega) (by omega) (by omega) sr rows h6 (by omega) _ _ _ _ _ _ (catchSite S B fX (by exact rfl) (by decide)) ⟨lvs, cap, (nX _ (.head _)).1, hRows.mono fun a o q => (nX (a, o) (.tail _ q)).1⟩ (fun v2 h' tk' KB P => ?_) (fun hno e h' tk' X9 U9 => ?_)
  · obtain ⟨b, tv, out, rfl, hbo, hWr⟩ := P
    have F3 := Fr.keepBut (D := []) fX nX (by intro _ q; cases q) KB
    have N3 : News _ L h' _ := News.keepBut (D := []) nX KB fun q hq => ⟨hq, fun hm => nomatch hm⟩
    clear fX nX KB
    k_steps
    refine C_nil ?_
    show wpC _ _ _ _ _ _
    refine C_nil ?_
    show wpC _ _ _ _ _ _
    (rename Fr _ _ _ _ => fE; rename News _ _ _ _ => nE)
    rcases hv with ⟨rfl, hno⟩ | ⟨b2, t2, rfl, hlay, hW2⟩
    · exact absurd (plainLay h6 hWr) hno
    have e2 := plainFun hWr hW2
    rw [← hbo] at e2
    have e3 := bInts_inj e2
    obtain rfl := e3
    clear e2 hW2
    refine wpC_of ?_
    show wpAny _ _ (execs ([_, _, _] ++ _) _) _ _ _
    refine A_block ?_
    k_fold
    (repeat' (first | ((with_reducible (((with_reducible show wpAny _ _ (call (Value.ref 405) [Value.ref _, Value.int _ _]) _ _ _); (rename News _ _ _ _ => nXZZ); (refine useE (lawAtI _ _ _ (by assumption) (by assumption) _ ⟨by decide, by decide⟩ _) (by assumption) (by assumption) (by assumption) nXZZ (by decide) ⟨rfl, rfl⟩ (Fr.lst (by assumption) (by assumption)) (fun q => q.elim) ?_); intro vZZ hZZ tkZZ FZZ NZZ rZZ; obtain ⟨nZZ, tZZ, hvZZ⟩ := rZZ; subst hvZZ))) <;> (try dsimp only)) | walk_at "ks"))
    all_goals try (exfalso; rename (b.toList != b.toList) = true => hbb; simp at hbb; done)
    unfold Later
    (try dsimp only)
    (rename Fr _ _ _ _ => fE; rename News _ _ _ _ => nE)

    have hld0 : ∃ ld : Nat, nZZ.fmod 6 = (ld : Int) := ⟨(nZZ.fmod 6).toNat, (Int.toNat_of_nonneg (fmodI _ _ (by decide)).1).symm⟩
    obtain ⟨ld, hld⟩ := hld0
    have hob : 0 < out.length := plainPos hWr
    have hob2 : out.length ≤ 1000 := plainLen hrl hcz h6 hWr
    have hld6 : ld < 6 := by have := (fmodI nZZ 6 (by decide)).2; omega
    (try dsimp only at fE)
    rw [hld] at fE
    have F3 := front_self (l := [(Str.ofString "script", .ref lA), (Str.ofString "code", .bytes cb _), (Str.ofString "deep", .int deep td), (Str.ofString "token", .int token tt), (Str.ofString "rows", .ref sr), (Str.ofString "got", .bytes b tv), (Str.ofString "lead", .int (ld : Int) _)]) fE (List.forall_mem_cons.mpr ⟨rfl, List.forall_mem_cons.mpr ⟨rfl, List.forall_mem_cons.mpr ⟨rfl, List.forall_mem_cons.mpr ⟨rfl, List.forall_mem_cons.mpr ⟨rfl, List.forall_mem_cons.mpr ⟨rfl, List.forall_mem_cons.mpr ⟨rfl, List.forall_mem_nil _⟩⟩⟩⟩⟩⟩⟩)
    clear fE
    show wpAny _ _ (execs ([_, _, _] ++ _) _) _ _ _
    refine A_block (wpAny_mono (Q := fun f s' => f = .next ∧ ∃ h' tk', s' = { s₁ with heap := h', toks := tk' } ∧ DepSt s₁.heap L h' lA cb token sr b ld (if out.getD 0 0 % 4 = 2 then 8 else deep) ((sr, listO lvs cap) :: ts)) ?_ (fun f s' hf => ?_) (fun _ _ x => x))
    · show wpAny _ _ _ _ _ _
      k_fold
      (repeat' (first | ((with_reducible ((with_reducible show wpAny _ _ (call (Value.type _) _) _ _ _); refine later ?_)) <;> (try dsimp only)) | walk_at "ks"))
      unfold Later
      (try dsimp only)
      (rename Fr _ _ _ _ => fE; rename News _ _ _ _ => nE; rename IntsAre (List.flatten _) _ => iE)
      refine KBa.make_K fE nE (by rfl) (News.isList nE (.head _)) iE (In_flatrep (by decide) _) (by rw [flat_rep, List.length_replicate]; omega) ?_
      intro h5 t5 k5 F5 N5 hin
      (try dsimp only)
      have hbb0 : KBw.bInts _ = List.replicate ld 9 := (KBa.ints_make hin).trans ((flat_rep 9 _).trans (by rw [Int.toNat_natCast]))
      clear fE nE iE hin
      (try dsimp only)
      generalize byteArr _ = bb at hbb0
      (repeat' (first | ((with_reducible (((with_reducible show wpAny _ _ (call (Value.ref 405) [Value.ref _, Value.int _ _]) _ _ _); (rename News _ _ _ _ => nXZZ); (refine useE (lawAtI _ _ _ (by assumption) (by assumption) _ ⟨by decide, by decide⟩ _) (by assumption) (by assumption) (by assumption) nXZZ (by decide) ⟨rfl, rfl⟩ (Fr.lst (by assumption) (by assumption)) (fun q => q.elim) ?_); intro vZZ hZZ tkZZ FZZ NZZ rZZ; obtain ⟨nZZ, tZZ, hvZZ⟩ := rZZ; subst hvZZ))) <;> (try dsimp only)) | ((with_reducible ((with_reducible show wpAny _ _ (call (Value.type _) _) _ _ _); refine later ?_)) <;> (try dsimp only)) | walk_at "ks"))
      all_goals (unfold Later; (rename Fr _ _ _ _ => fE; rename News _ _ _ _ => nE; rename IntsAre (List.flatten (List.replicate (Int.toNat (Int.fmod _ 4)) _)) _ => iE))
      all_goals refine KBa.make_K fE nE (by rfl) (News.isList nE (.head _)) iE (In_flatrep (by decide) _) (rep_len4 _ _) ?_
      all_goals (intro h6 t6 k6 F6 N6 hin; have hbe0 := (KBa.ints_make hin).trans (flat_rep 255 _); clear fE nE iE hin; (try dsimp only); generalize byteArr _ = be at hbe0; k_steps)
      all_goals (rename Fr _ _ _ _ => fE; rename News _ _ _ _ => nE; rename KBw.bInts be = _ => hbe0)
      · rw [if_pos (dep_pos (by assumption))]
        exact ⟨_, bb, be, _, _, _, _, _, _, _, _, front_self fE (List.forall_mem_cons.mpr ⟨rfl, List.forall_mem_cons.mpr ⟨rfl, List.forall_mem_cons.mpr ⟨rfl, List.forall_mem_cons.mpr ⟨rfl, List.forall_mem_cons.mpr ⟨rfl, List.forall_mem_cons.mpr ⟨rfl, List.forall_mem_cons.mpr ⟨rfl, List.forall_mem_cons.mpr ⟨rfl, List.forall_mem_cons.mpr ⟨rfl, List.forall_mem_nil _⟩⟩⟩⟩⟩⟩⟩⟩⟩), News.perm nE (fun q hq => .tail _ (.tail _ (.tail _ (.tail _ hq)))), hbb0, fm4_lt _, hbe0⟩
      · rw [if_neg (dep_neg (by assumption))]
        exact ⟨_, bb, be, _, _, _, _, _, _, _, _, front_self fE (List.forall_mem_cons.mpr ⟨rfl, List.forall_mem_cons.mpr ⟨rfl, List.forall_mem_cons.mpr ⟨rfl, List.forall_mem_cons.mpr ⟨rfl, List.forall_mem_cons.mpr ⟨rfl, List.forall_mem_cons.mpr ⟨rfl, List.forall_mem_cons.mpr ⟨rfl, List.forall_mem_cons.mpr ⟨rfl, List.forall_mem_cons.mpr ⟨rfl, List.forall_mem_nil _⟩⟩⟩⟩⟩⟩⟩⟩⟩), News.perm nE (fun q hq => .tail _ (.tail _ (.tail _ (.tail _ hq)))), hbb0, fm4_lt _, hbe0⟩
    · obtain ⟨rfl, h11, tk11, rfl, m, bb, be, nb, t1, t2, t3, t4, t5, t6, t7, F4, N4, hbb, hnb, hbe⟩ := hf
      show Later _
      unfold Later
      (try dsimp only)
      clear F3
      have hdep0 : ∃ dep, dep = (if out.getD 0 0 % 4 = 2 then 8 else deep) := ⟨_, rfl⟩
      obtain ⟨dep, hdep⟩ := hdep0
      rw [← hdep] at F4
      have hbl : (List.replicate ld (9 : Int)).length = ld := List.length_replicate
      have hel : (List.replicate nb (255 : Int)).length = nb := List.length_replicate
      have pb0 := plainBack h6 hrl hcz hWr (List.replicate ld 9) (List.replicate nb 255) hbl
      obtain ⟨pb1, pb2⟩ := pb0
      rw [← hdep] at pb2
      show wpAny _ _ (execs ([_, _] ++ _) _) _ _ _
      refine A_block ?_
      k_fold
      (repeat' (first | ((with_reducible (((with_reducible show wpAny _ _ (call (Value.ref 367) _) _ _ _); refine later ?_))) <;> (try dsimp only)) | walk_at "ks"))
      unfold Later
      (try dsimp only)
      rename KBw.bInts (bb ++ b) = _ => hA1
      rename KBw.bInts (bb ++ b ++ be) = _ => hA2
      (rename Fr _ _ _ _ => fX; rename News _ _ _ _ => nX)
      refine useBody (readBody (bb ++ b ++ be) ld _ _ (List.replicate ld 9 ++ out ++ List.replicate nb 255) hA2 (by simp only [List.length_append]; omega) (by simp only [List.length_append]; omega) pb1) S B fX nX (by decide) ⟨rfl, rfl⟩ (fun q => q _ _ _ _ _ ((pb2 _ _ _ _ _).mpr ⟨rfl, rfl, rfl, rfl, rfl⟩)) ?_
      intro cs2 deep2 token2 rows2 e2 tA rA cb2 vs2 cap2 ts2 k1 k2 k3 k4 h12 tk12 hBo hcb2 F12 N12 hR2
      clear fX nX
      have hb0 := (pb2 _ _ _ _ _).mp hBo
      obtain ⟨rfl, rfl, rfl, rfl, rfl⟩ := hb0
      clear hBo pb1 pb2 hA1 hA2 hbl hel
      have hofit : out.length ≤ 1099511627776 := by omega
      (repeat' (first | ((with_reducible (((with_reducible show wpAny _ _ (call (Value.builtin "len") [Value.bytes _ _]) _ _ _); refine KBw.len_K (by assumption) (by assumption) ?_))) <;> (try dsimp only)) | ((with_reducible ((with_reducible show wpAny _ _ (compareOp _ (Value.ref _) (Value.ref _)) _ _ _); refine later ?_)) <;> (try dsimp only)) | walk_at "ks"))
      unfold Later
      (try dsimp only)
      (rename Fr _ _ _ _ => fE; rename News _ _ _ _ => nE)
      have hcb3 := bInts_inj (hcb2.trans hcs.symm)
      obtain rfl := hcb3
      have hroom : ∀ env : Env, (callerA.deeper env).units + 65 < cLine := fun env => by
        have c : 9100 < cLine := by decide
        have h := S.unit
        show callerA.units + 3 + 65 < cLine
        omega
      refine tup5_ne (nE _ (.tail _ (.head _))).1 (nE _ (.head _)).1 (rows := rows2) ⟨vs2, cap2, (nE _ (.tail _ (.tail _ (.head _)))).1, hR2.mono fun a o q => (nE (a, o) (.tail _ (.tail _ (.tail _ (List.mem_append_left _ q))))).1⟩
        ⟨lvs, cap, (nE _ (.tail _ (.tail _ (.tail _ (List.mem_append_right _ (.head _)))))).1, hRows.mono fun a o q => (nE (a, o) (.tail _ (.tail _ (.tail _ (List.mem_append_right _ (.tail _ q)))))).1⟩ (hroom _) ?_
      (repeat' (first | ((with_reducible (((with_reducible show wpAny _ _ (call (Value.ref 405) [Value.ref _, Value.int _ _]) _ _ _); (rename News _ _ _ _ => nXZZ); (refine useE (lawAtI _ _ _ (by assumption) (by assumption) _ ⟨by decide, by decide⟩ _) (by assumption) (by assumption) (by assumption) nXZZ (by decide) ⟨rfl, rfl⟩ (Fr.lst (by assumption) (by assumption)) (fun q => q.elim) ?_); intro vZZ hZZ tkZZ FZZ NZZ rZZ; obtain ⟨nZZ, tZZ, hvZZ⟩ := rZZ; subst hvZZ))) <;> (try dsimp only)) | ((with_reducible (((with_reducible show wpAny _ _ (call (Value.builtin "len") [Value.bytes _ _]) _ _ _); refine KBw.len_K (by assumption) (by assumption) ?_))) <;> (try dsimp only)) | walk_at "ks"))
      unfold Later
      (try dsimp only)
      (rename Fr _ _ _ _ => fE; rename News _ _ _ _ => nE)

      have hpt0 : ∃ pt : Nat, (nZZ.fdiv 24).fmod (out.length : Int) = (pt : Int) := ⟨((nZZ.fdiv 24).fmod (out.length : Int)).toNat, (Int.toNat_of_nonneg (fmodI _ _ (by omega)).1).symm⟩
      obtain ⟨pt, hpt⟩ := hpt0
      have hptl : pt < out.length := by have := (fmodI (nZZ.fdiv 24) (out.length : Int) (by omega)).2; omega
      (try dsimp only at fE)
      rw [hpt] at fE
      have F5 := front_self (l := [(Str.ofString "got", .bytes b _), (Str.ofString "lead", .int (ld : Int) _), (Str.ofString "before", .bytes bb _), (Str.ofString "part", .int (pt : Int) _)]) fE (List.forall_mem_cons.mpr ⟨rfl, List.forall_mem_cons.mpr ⟨rfl, List.forall_mem_cons.mpr ⟨rfl, List.forall_mem_cons.mpr ⟨rfl, List.forall_mem_nil _⟩⟩⟩⟩)
      have N5 : News s₁.heap L _ [] := noNews fE
      clear fE nE
      have pc0 := plainCut h6 hrl hcz hWr (List.replicate ld 9) List.length_replicate hptl
      obtain ⟨pc1, pc2⟩ := pc0
      refine A_execs (wpAny_Try_except ?_)
      k_fold
      k_steps
      rename KBw.bInts (KBy.picked b none (some (pt : Int))) = _ => hpk
      rw [Nat.min_eq_left (Nat.le_of_lt hptl)] at hpk
      refine KBa.add_K hbb hpk (by rw [List.length_replicate, List.length_take]; omega) ?_
      intro ta ka hA3
      (repeat' (first | ((with_reducible (((with_reducible show wpAny _ _ (call (Value.ref 367) _) _ _ _); refine later ?_))) <;> (try dsimp only)) | walk_at "ks"))
      unfold Later
      (try dsimp only)
      (rename Fr _ _ _ _ => fX; rename News _ _ _ _ => nX)
      refine readBody (bb ++ KBy.picked b none (some (pt : Int))) ld _ _ (List.replicate ld 9 ++ List.take pt out) hA3 (by simp only [List.length_append, List.length_take, List.length_replicate]; omega) (by simp only [List.length_append, List.length_replicate]; omega) pc1 _ _ _ _ _ _ (catchSite S B fX (by exact rfl) (by decide)) trivial (fun v2 h' tk' KB P => ?_) (fun hno e h' tk' X9 U9 => ?_)
      · obtain ⟨cs', d', t', rows', e', hb, _⟩ := P
        exact absurd hb (pc2 _ _ _ _ _)
      · refine caught S B fX nX rfl (by rfl) X9 U9 (by passes_own) (fun h3 tk3 F3 N3 => ?_)
        k_fold
        k_steps
        exact fun b o _ e => F3.keep b o e
  · refine caught S B fX nX rfl (by rfl) X9 U9 (by passes_own) (fun h3 tk3 F3 N3 => ?_)
    clear fX nX X9 U9
    k_fold
    k_steps
    show wpC _ _ _ _ _ _
    rcases hv with ⟨rfl, hno2⟩ | ⟨b2, t2, rfl, hlay, hW2⟩
    rotate_left
    · exact absurd hW2 (hno _)
    refine wpC_of ?_
    k_fold
    k_steps
    (rename Fr _ _ _ _ => fE)
    exact fun b o _ e => fE.keep b o e
end
end
end Mine
theorem PySem.Challenge.cw_sa0229_01_holds : PySem.Challenge.rw_sa0229_01.Holds :=
  Mine.lawHolds
