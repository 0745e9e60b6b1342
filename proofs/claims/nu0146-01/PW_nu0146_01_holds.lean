import PyProof.Rows.All
import Wide.All
import OpenK.AllK
import Wide.FinOn
import PySem.Challenge.RW_nu0146_01
open PySem PySem.W PySem.Calls PyProof.Rows
set_option Elab.async false
set_option maxRecDepth 100000
set_option maxHeartbeats 8000000
namespace Mine
section
theorem enter {K : Frag} {p : Program} {loose : List Str} {mean : ExcName → Option Value} {mg mb : Str → Option Value} {prog : Program} {w : World} {A : Around} {s : Shared} {h₀ : Heap} {R : Result → Shared → Prop}
    {name qual : Str} {params : Arguments} {body : List Stmt} {scope : Scope} {dV kV doc pm cdv ct oc : Value} {an od : Option Addr} {osl : Array (Option Value)} {f : Addr} {args : Args} {binds : List (Str × Value)}
    (mods : List (Addr × Obj)) (hroom : A.depth < recursionLimit) (X : K.In h₀) (T : Top p loose mean mg mb h₀) (st : h₀.StaysIn s.heap)
    (hmods : ∀ q ∈ mods, s.heap.get? q.1 = some q.2 ∧ h₀.get? q.1 = none)
    (ho : K.lookup f = some ⟨oc, od, .func (fnOf name qual params body scope dV kV doc pm an cdv ct), osl⟩) (hcd : codeIn K cdv qual = true)
    (hbind : BindsTo s (fnOf name qual params body scope dV kV doc pm an cdv ct) args binds) (hloc : ∀ y ∈ binds, scope.names.lookup y.1 = some .local)
    (h : ∀ g L h₁, (∀ b o, g.get? b = some o → s.heap.get? b = some o) → (∀ b o, s.heap.get? b = some o → b ∉ mods.map (·.1) → g.get? b = some o) → h₀.StaysIn g →
      Fr g L h₁ (fun y => binds.reverse.lookup y) → News g L h₁ mods → K.In g → Top p loose mean mg mb g →
      wpAny (model prog w) (A.deeper (envOf qual scope L f cdv)) (execs body (envOf qual scope L f cdv))
        (fun fl s' => R (.ok (.ret (match fl with | .ret v => v | _ => .none))) s')
        (fun e s' => wpAny (model prog w) (A.deeper (envOf qual scope L f cdv)) (leaving (envOf qual scope L f cdv) e) (fun _ s'' => R (.error e) s'') (fun e' s'' => R (.error e') s'') s')
        { s with heap := h₁, toks := s.toks + binds.length })
    (hco : scope.isCoroutine = false := by rfl) (hgen : scope.isGenerator = false := by rfl) (hk : scope.kind = .function := by rfl)
    (hcell : ∀ x ∈ scope.names, x.2 ≠ .cell := by decide) : codeAny (model prog w) A (.call (.ref f) args) R s := by
  refine codeAny_call_def (fd := fnOf name qual params body scope dV kV doc pm an cdv ct) (body := body) (binds := binds) hroom (st _ _ (X _ _ ho)) rfl (T.nolimit.keeps st) (codeRec_of (X.keeps st) hcd) rfl hbind hcell hloc (fun h₁ hns hk₁ => ?_) hco hgen hk
  have nm : ∀ b o, h₀.get? b = some o → b ∉ mods.map (·.1) := fun b o e q => by
    obtain ⟨p, hp, rfl⟩ := List.mem_map.mp q
    rw [(hmods p hp).2] at e; cases e
  obtain ⟨H, hH⟩ : ∃ H, H = hideAll s.heap (mods.map Prod.fst) := ⟨_, rfl⟩
  have st' : h₀.StaysIn H := fun b o e => hH ▸ hideAll_get _ (st b o e) (nm b o e)
  have T' : Top p loose mean mg mb H := T.keeps st'
  have X' : K.In H := X.keeps st'
  exact h H s.heap.objs.size h₁ (fun b o e => of_hideAll (mods.map Prod.fst) (hH ▸ e)) (fun b o e n => hH ▸ hideAll_get _ e n) st'
    ⟨hns, fun b o e => hk₁ b o (of_hideAll (mods.map Prod.fst) (hH ▸ e)), Nat.le_of_eq (hH ▸ hideAll_size _ _)⟩
    (fun p hp => ⟨hk₁ _ _ (hmods p hp).1, Nat.ne_of_lt (Heap.lt_size (hmods p hp).1), hH ▸ hideAll_none _ (List.mem_map_of_mem hp)⟩) X' T'
end
section
/-- codes that may hold a bytearray's memory -/
def holders : List String := ["bytearray.__contains__", "bytearray.__mod__", "bytearray.__rmod__", "_struct.pack_into.held", "bytearray.find.held"] ++ Builtin.Bytes.decodersThatHold
def free : Code → Bool
  | .builtin id _ => !holders.contains id
  | _ => true
/-- no activation on the stack holds a bytearray's memory -/
def Calm (Γ : Ctx) : Prop := free Γ.code = true ∧ ∀ x ∈ Γ.below, free x.1 = true
theorem Calm.enter {Γ : Ctx} {c : Code} {h : Option Value} {p : Pos} (x : Calm Γ) (hc : free c = true) : Calm (Γ.enter c h p) :=
  ⟨hc, fun y hy => by
    rcases List.mem_cons.mp hy with rfl | hy
    · exact x.1
    · exact x.2 y hy⟩
theorem Calm.goto {Γ : Ctx} {c : Code} (x : Calm Γ) (hc : free c = true) : Calm (Γ.goto c) := ⟨hc, x.2⟩

theorem calm_exported {M : Model} {Γ : Ctx} {self : Value} {Q : Bool → Pos → Shared → Prop} {E : Value → Pos → Shared → Prop} {p : Pos} {s : Shared} (x : Calm Γ) (h : Q false p s) : Sem.wp M Γ (Builtin.Bytes.exported self) Q E p s := by
  unfold Builtin.Bytes.exported
  show Q (((Γ.code, p) :: Γ.below).any _) p s
  rw [List.any_eq_false.mpr]
  · exact h
  · intro y hy
    have hf : free y.1 = true := by
      rcases List.mem_cons.mp hy with rfl | hy
      · exact x.1
      · exact x.2 y hy
    obtain ⟨c, q⟩ := y
    unfold free at hf
    split
    all_goals first
      | (rename_i e; cases e; simp [holders] at hf; done)
      | exact Bool.false_ne_true
      | (rename_i e; cases e
         simp only [holders, List.contains_eq_mem, List.mem_append, Bool.not_eq_true', decide_eq_false_iff_not, not_or] at hf
         rw [Bool.and_eq_true, List.contains_eq_mem, decide_eq_true_eq]
         exact fun z => hf.2 z.2)

/-- as wpAny, on a calm stack -/
def wpC {α : Type} (M : Model) (A : Around) (t : Sem α) (Q : α → Shared → Prop) (E : Value → Shared → Prop) (s : Shared) : Prop :=
  ∀ Γ p, Γ.In A → Calm Γ → Sem.wp M Γ t (fun a _ s' => Q a s') (fun e _ s' => E e s') p s
def codeC (M : Model) (A : Around) (c : Code) (R : Result → Shared → Prop) (s : Shared) : Prop :=
  ∀ Γ p, Γ.code = c → Γ.Below A → Calm Γ → wpCode M Γ R p s

section
variable {α β : Type} {M : Model} {A : Around} {E : Value → Shared → Prop} {s : Shared}
theorem C_any {t : Sem α} {Q : α → Shared → Prop} (h : wpAny M A t Q E s) : wpC M A t Q E s := fun Γ p hΓ _ => h Γ p hΓ
theorem C_mono {t : Sem α} {Q Q' : α → Shared → Prop} {E' : Value → Shared → Prop} (h : wpC M A t Q E s) (hQ : ∀ a s, Q a s → Q' a s) (hE : ∀ e s, E e s → E' e s) : wpC M A t Q' E' s :=
  fun Γ p hΓ c => Sem.wp_mono M Γ t (fun a _ s => hQ a s) (fun e _ s => hE e s) p s (h Γ p hΓ c)
theorem C_bind {m : Sem α} {f : α → Sem β} {Q : β → Shared → Prop} (h : wpC M A m (fun a s' => wpC M A (f a) Q E s') E s) : wpC M A (m >>= f) Q E s := fun Γ p hΓ c => by
  rw [Sem.wp_bind']
  exact Sem.wp_mono M Γ m (fun a p' s' h' => h' Γ p' hΓ c) (fun _ _ _ h' => h') p s (h Γ p hΓ c)
theorem C_anyBind {m : Sem α} {f : α → Sem β} {Q : β → Shared → Prop} (h : wpAny M A m (fun a s' => wpC M A (f a) Q E s') E s) : wpC M A (m >>= f) Q E s := C_bind (C_any h)
theorem C_pure {a : α} {Q : α → Shared → Prop} (h : Q a s) : wpC M A (pure a) Q E s := fun _ _ _ _ => h
theorem C_holding {vs : List Value} {m : Sem α} {Q : α → Shared → Prop} (h : wpC M A m Q E s) : wpC M A (holding vs m) Q E s := fun Γ p hΓ c => by rw [Sem.wp_holding]; exact h Γ p hΓ c
theorem C_keep {vs : List Value} {m : Sem α} {Q : α → Shared → Prop} (h : wpC M A m Q E s) : wpC M A (m.keep vs) Q E s := fun Γ p hΓ c => by rw [Sem.wp_keep]; exact h Γ p hΓ c
theorem C_operate {vs : List Value} {m : Sem Value} {Q : Value → Shared → Prop} (h : wpC M A m Q E s) : wpC M A (operate vs m) Q E s := fun Γ p hΓ c => by rw [Sem.wp_operate]; exact h Γ p hΓ c
theorem C_onRaise {m : Sem α} {k : Value → Sem Unit} {Q : α → Shared → Prop} (h : wpC M A m Q (fun e s' => wpAny M A (k e) (fun _ s'' => E e s'') E s') s) : wpC M A (m.onRaise k) Q E s := fun Γ p hΓ c => by
  rw [Sem.wp_onRaise]
  exact Sem.wp_mono M Γ m (fun _ _ _ h' => h') (fun e p' s' h' => h' Γ p' hΓ) p s (h Γ p hΓ c)
theorem C_attempt {m : Sem α} {Q : Except Value α → Shared → Prop} (h : wpC M A m (fun a => Q (.ok a)) (fun e => Q (.error e)) s) : wpC M A m.attempt Q E s := fun Γ p hΓ c => by
  rw [Sem.wp_attempt]; exact h Γ p hΓ c
theorem C_exported {self : Value} {Q : Bool → Shared → Prop} (h : Q false s) : wpC M A (Builtin.Bytes.exported self) Q E s := fun _ _ _ c => calm_exported c h
theorem codeC_any {c : Code} {R : Result → Shared → Prop} (h : codeAny M A c R s) : codeC M A c R s := fun Γ p hc hΓ _ => h Γ p hc hΓ
theorem codeC_mono {c : Code} {R R' : Result → Shared → Prop} (h : codeC M A c R s) (hR : ∀ r s, R r s → R' r s) : codeC M A c R' s := fun Γ p hc hΓ k => wpCode_mono hR (h Γ p hc hΓ k)
theorem C_run {c : Code} {Q : Flow → Shared → Prop} (hf : free c = true) (hc : codeC M A c (fun r s' => match r with | .ok f => Q f s' | .error e => E e s') s) : wpC M A (run c none) Q E s :=
  fun Γ p hΓ k => by rw [Sem.wp_run]; exact hc _ p rfl (hΓ.enter c none p (by intro x; cases x)) (k.enter hf)
theorem C_runValue {c : Code} {Q : Value → Shared → Prop} (hf : free c = true) (hc : codeC M A c (fun r s' => match r with | .ok (.ret v) => Q v s' | .ok _ => False | .error e => E e s') s) : wpC M A (runValue c) Q E s :=
  fun Γ p hΓ k => by rw [Sem.wp_runValue]; exact hc _ p rfl (hΓ.enter c none p (by intro x; cases x)) (k.enter hf)
theorem C_call {f : Value} {pos : List Value} {kw : List (Str × Value)} {Q : Value → Shared → Prop}
    (hc : codeC M A (.call f ⟨pos, kw⟩) (fun r s' => match r with | .ok (.ret v) => Q v s' | .ok _ => False | .error e => E e s') s) : wpC M A (call f pos kw) Q E s := C_runValue rfl hc
theorem codeC_of_tree {c : Code} {R : Result → Shared → Prop}
    (h : wpC M (A.under c) (M.den c) (fun fin s' => match fin with | .done f => R (.ok f) s' | .again c' => c'.quiet = true ∧ free c' = true ∧ codeC M A c' R s') (fun e s' => R (.error e) s') s) : codeC M A c R s := fun Γ p hc hΓ k => by
  rw [wpCode_iff_wp, hc]
  refine Sem.wp_mono M Γ _ (fun fin p' s' h' => ?_) (fun _ _ _ h' => h') p s (h Γ p (hc ▸ hΓ.in) k)
  cases fin with
  | done f => exact h'
  | again c' => exact ⟨h'.1, h'.2.2 (Γ.goto c') p' rfl (hΓ.goto c') (k.goto h'.2.1)⟩
theorem C_runOwn {env : Env} {c : Code} {Q : Flow → Shared → Prop} (hf : free c = true) (hc : codeC M A c (fun r s' => match r with | .ok f => Q f s' | .error e => cameBackBy M A env E e s') s) : wpC M A (runOwn c env) Q E s := by
  unfold runOwn
  exact C_onRaise (C_run hf hc)
end

section
variable {M : Model} {A : Around} {E : Value → Shared → Prop} {s : Shared} {env : Env}
theorem C_execs_cons {st : Stmt} {rest : List Stmt} {Q : Flow → Shared → Prop}
    (h : wpC M A (exec st env) (fun f s' => match f with | .next => wpC M A (execs rest env) Q E s' | f => Q f s') E s) : wpC M A (execs (st :: rest) env) Q E s := by
  rw [execs_cons]
  refine C_bind (C_mono h (fun f s' h' => ?_) fun _ _ x => x)
  cases f <;> first | exact h' | exact C_pure h'
theorem C_execs_nil {Q : Flow → Shared → Prop} (h : Q .next s) : wpC M A (execs [] env) Q E s := C_pure h
theorem C_Assign {x : Str} {pos' pos : Pos} {value : Expr} {Q : Flow → Shared → Prop} (h : wpC M A (eval value env) (fun v s₁ => wpAny M A (storeName env x v) (fun _ => Q .next) E s₁) E s)
    (hs : swapsWith value (some (.Name x pos')) pos.line env = pure false := by rfl) : wpC M A (exec (.Assign [.Name x pos'] value pos) env) Q E s := fun Γ p hΓ c => by
  simp only [exec_Assign_Name env x pos' value pos hs, Sem.wp_bind', Sem.wp_cmd_standAt, Sem.wp_bindName, Sem.wp_pure']
  exact Sem.wp_mono M Γ _ (fun v _ s₁ h₁ => h₁ Γ _ hΓ) (fun _ _ _ h' => h') _ _ (h Γ _ hΓ c)
theorem C_If {test : Expr} {body orelse : List Stmt} {pos : Pos} {Q : Flow → Shared → Prop}
    (h : wpC M A (isTrue test env (eval test env)) (fun b s₂ => if b then wpC M A (execs body env) Q E s₂ else wpC M A (execs orelse env) Q E s₂) E s) : wpC M A (exec (.If test body orelse pos) env) Q E s := by
  rw [exec_If]
  refine C_anyBind (wpAny_standAt (C_bind (C_mono h (fun b s₂ h₂ => ?_) fun _ _ x => x)))
  cases b <;> exact h₂
theorem C_Return {e : Expr} {pos : Pos} {Q : Flow → Shared → Prop} (h : wpC M A (eval e env) (fun v => Q (.ret v)) E s) : wpC M A (exec (.Return (some e) pos) env) Q E s := by
  rw [exec_Return_some]
  exact C_anyBind (wpAny_standAt (C_bind (C_mono h (fun v s' h' => C_pure h') fun _ _ x => x)))
theorem C_isTrue_Compare {l r : Expr} {op : CmpOp} {pos : Pos} {whole : Sem Value} {Q : Bool → Shared → Prop}
    (h : wpC M A (eval l env) (fun a s₁ => wpC M A (eval r env) (fun b s₂ => wpAny M A (compareOp op a b) (fun c s₃ => wpAny M A (truthy c) Q E s₃) E s₂) E s₁) E s)
    (hm : behindInMarks op r = false := by with_unfolding_all rfl) : wpC M A (isTrue (.Compare l [op] [r] pos) env whole) Q E s := fun Γ p hΓ c => by
  simp only [isTrue_Compare1, markedBehindIn_of_false hm, Sem.wp_bind', Sem.wp_holding, Sem.wp_cmd_standAt, Sem.wp_operate]
  exact Sem.wp_mono M Γ _ (fun a p₁ s₁ h₁ => Sem.wp_mono M Γ _ (fun b _ s₂ h₂ => Sem.wp_mono M Γ _ (fun c p₃ s₃ h₃ => h₃ Γ p₃ hΓ)
    (fun _ _ _ h' => h') _ _ (h₂ Γ _ hΓ)) (fun _ _ _ h' => h') _ _ (h₁ Γ p₁ hΓ c)) (fun _ _ _ h' => h') _ _ (h Γ p hΓ c)
theorem C_Expr {e : Expr} {pos : Pos} {Q : Flow → Shared → Prop} (h : wpC M A (eval e env) (fun v s' => v = .none ∧ Q .next s') E s)
    (hi : interactive env = false := by rfl) (hs : swapsWith e none pos.line env = pure false := by rfl) : wpC M A (exec (.Expr e pos) env) Q E s := by
  rw [exec_Expr env e pos hi hs]
  refine C_anyBind (wpAny_standAt (C_bind (C_mono h (fun v s' h' => ?_) fun _ _ x => x)))
  obtain ⟨rfl, h'⟩ := h'
  rw [dropValue_plain (fun a q => by cases q)]
  exact C_pure h'
theorem C_Try {body : List Stmt} {h₀ : ExceptHandler} {hs : List ExceptHandler} {pos : Pos} {Q : Flow → Shared → Prop}
    (h : wpC M A (execs body env) (fun f s₁ => match f with | .next => False | f => Q f s₁)
      (fun e s₁ => wpAny M A (noteFrame e env) (fun _ s₂ => wpAny M A (setFlight e none) (fun _ s₃ => wpAny M A (handleBy e env (h₀ :: hs)) Q E s₃) E s₂) E s₁) s) :
    wpC M A (exec (.Try body (h₀ :: hs) [] [] pos) env) Q E s := by
  rw [arm_exec_Try]
  refine C_anyBind (wpAny_standAt ?_)
  unfold tryStmt
  simp only [List.isEmpty_nil, if_true, List.isEmpty_cons, Bool.false_and, Bool.false_eq_true, if_false]
  refine C_bind (C_attempt (C_mono h (fun f s₁ h₁ => ?_) fun e s₁ h₁ => ?_))
  · cases f <;> first | exact h₁.elim | exact C_pure h₁
  · exact C_any (wpAny_bind (wpAny_mono h₁ (fun _ _ h₂ => wpAny_bind h₂) fun _ _ x => x))
end
end
section
section
variable {M : Model} {A : Around} {E : Value → Shared → Prop} {s : Shared} {env : Env}
/-- «x or y», x on a calm stack -/
theorem C_isTrue_Or {x y : Expr} {pos : Pos} {whole : Sem Value} {Q : Bool → Shared → Prop}
    (h : wpC M A (isTrue x env (eval x env)) (fun b s₁ => if b then Q true s₁ else wpAny M A (isTrue y env (eval y env)) Q E s₁) E s) : wpC M A (isTrue (.BoolOp .Or [x, y] pos) env whole) Q E s := by
  rw [arm_isTrue_BoolOp]
  show wpC M A (do match BoolOp.Or, ← isTrue x env (eval x env) with | .And, false => pure false | .Or, true => pure true | _, _ => allTrue .Or [y] env) Q E s
  refine C_bind (C_mono h (fun b s₁ h₁ => ?_) fun _ _ x => x)
  cases b
  · refine C_any (wpAny_allTrue_Or_cons (wpAny_mono h₁ (fun b s₂ h₂ => ?_) fun _ _ x => x))
    cases b
    · exact wpAny_allTrue_Or_nil h₂
    · exact h₂
  · exact C_pure h₁
theorem C_callWith_fn {pos : Pos} {a : Addr} {o : Obj} {fd : FuncData} {args : List (Bool × Sem Value)} {Q : Value → Shared → Prop} (hp : args.any (·.1) = false)
    (h : wpAny M A (evalArgs (.ref a) true args []) (fun x s₁ => (s₁.heap.get? a = some o ∧ o.data = .func fd) ∧ wpC M A (call (.ref a) x.pos x.kw) Q E s₁) E s) :
    wpC M A (callWith pos (.ref a) [] args []) Q E s := by
  unfold callWith
  refine C_anyBind (wpAny_holding (wpAny_mono h (fun x s₁ h₁ => ?_) fun _ _ x => x))
  refine C_anyBind (wpAny_standAt ?_)
  have fin : ∀ {t : Sem Value}, wpC M A t Q E s₁ → wpC M A (t >>= fun r => holding [r] point >>= fun _ => pure r) Q E s₁ :=
    fun ht => C_bind (C_mono ht (fun r s₂ hr => C_any (wpAny_bind (wpAny_holding (wpAny_point (wpAny_pure hr))))) fun _ _ x => x)
  simp only [hp, List.any_nil, Bool.or_false]
  refine C_anyBind (m := keeperOf (.ref a)) ?_
  unfold keeperOf
  refine wpAny_bind (wpAny_load h₁.1.1 ?_)
  rw [h₁.1.2]
  refine wpAny_pure ?_
  dsimp only
  split
  · exact fin h₁.2
  · exact fin (C_keep h₁.2)
theorem C_callWith_builtin {pos : Pos} {id : String} {first : List Value} {args : List (Bool × Sem Value)} {Q : Value → Shared → Prop} (hp : args.any (·.1) = false)
    (h : wpAny M A (evalArgs (.builtin id) true args []) (fun x s₁ => wpC M A (call (.builtin id) (first ++ x.pos) x.kw) Q E s₁) E s) :
    wpC M A (callWith pos (.builtin id) first args []) Q E s := by
  unfold callWith
  refine C_anyBind (wpAny_holding (wpAny_mono h (fun x s₁ h₁ => ?_) fun _ _ x => x))
  refine C_anyBind (wpAny_standAt ?_)
  simp only [hp, List.any_nil, Bool.or_false]
  refine C_anyBind (wpAny_pure ?_)
  exact C_bind (C_mono h₁ (fun r s₂ hr => C_any (wpAny_bind (wpAny_holding (wpAny_point (wpAny_pure hr))))) fun _ _ x => x)
theorem C_callWith_type {pos : Pos} {T : String} {args : List (Bool × Sem Value)} {Q : Value → Shared → Prop} (hp : args.any (·.1) = false)
    (h : wpAny M A (evalArgs (.type T) true args []) (fun x s₁ => wpC M A (call (.type T) x.pos x.kw) Q E s₁) E s) :
    wpC M A (callWith pos (.type T) [] args []) Q E s := by
  unfold callWith
  refine C_anyBind (wpAny_holding (wpAny_mono h (fun x s₁ h₁ => ?_) fun _ _ x => x))
  refine C_anyBind (wpAny_standAt ?_)
  simp only [hp, List.any_nil, Bool.or_false]
  refine C_anyBind (wpAny_pure ?_)
  exact C_bind (C_mono h₁ (fun r s₂ hr => C_any (wpAny_bind (wpAny_holding (wpAny_point (wpAny_pure hr))))) fun _ _ x => x)
/-- f(e, ..): a def of the text, called on a calm stack -/
theorem C_CallName {x : Str} {p pos : Pos} {e : Expr} {rest : List Expr} {Q : Value → Shared → Prop}
    (h : wpAny M A (eval (.Name x p) env) (fun f s₁ => ∃ a o fd, f = .ref a ∧ wpAny M A (spliced (backTo pos (starEach (e :: rest) env))) (fun vs s₂ => (s₂.heap.get? a = some o ∧ o.data = .func fd) ∧ wpC M A (call (.ref a) vs) Q E s₂) E s₁) E s)
    (he : starEach (e :: rest) env = (false, eval e env) :: starEach rest env := by rfl) (hp : (backTo pos (starEach rest env)).any (·.1) = false := by rfl) :
    wpC M A (eval (.Call (.Name x p) (e :: rest) [] pos) env) Q E s := by
  show wpC M A (eval (.Name x p) env >>= fun f => callWith pos f [] (backTo pos (starEach (e :: rest) env)) []) Q E s
  refine C_anyBind (wpAny_mono h (fun f s₁ h₁ => ?_) fun _ _ x => x)
  obtain ⟨a, o, fd, rfl, h₁⟩ := h₁
  rw [he] at h₁ ⊢
  exact C_callWith_fn (by show (false || (backTo pos (starEach rest env)).any (·.1)) = false; rw [hp]; rfl) (evalArgs_plain h₁)
/-- T(): a built-in class, called without arguments on a calm stack -/
theorem C_CallType0 {x : Str} {p pos : Pos} {T : String} {Q : Value → Shared → Prop} (h : wpAny M A (eval (.Name x p) env) (fun f s₁ => f = .type T ∧ wpC M A (call (.type T) []) Q E s₁) E s) :
    wpC M A (eval (.Call (.Name x p) [] [] pos) env) Q E s := by
  show wpC M A (eval (.Name x p) env >>= fun f => callWith pos f [] (backTo pos (starEach [] env)) []) Q E s
  refine C_anyBind (wpAny_mono h (fun f s₁ h₁ => ?_) fun _ _ x => x)
  obtain ⟨rfl, h₁⟩ := h₁
  exact C_callWith_type rfl (evalArgs_nil3 h₁)
/-- o.m(e): a method of a built-in class, called on a calm stack -/
theorem C_CallMethod {o : Expr} {name : Str} {apos pos : Pos} {e : Expr} {rest : List Expr} {id : String} {self : Value} {pl : Sem Bool} {Q : Value → Shared → Prop}
    (h : wpAny M A (eval o env) (fun ov s₁ => wpAny M A (getMethod ov name pl) (fun fx s₂ => fx = (.builtin id, [self]) ∧ wpAny M A (spliced (backTo pos (starEach (e :: rest) env))) (fun vs s₃ => wpC M A (call (.builtin id) (self :: vs)) Q E s₃) E s₂) E s₁) E s)
    (hc : eval (.Call (.Attribute o name apos) (e :: rest) [] pos) env = (do
      let ov ← eval o env
      standAt apos.atName
      let (f, first) ← holding [ov] (getMethod ov name pl)
      callWith pos f first (backTo pos (starEach (e :: rest) env)) []) := by rfl)
    (he : starEach (e :: rest) env = (false, eval e env) :: starEach rest env := by rfl) (hp : (backTo pos (starEach rest env)).any (·.1) = false := by rfl) :
    wpC M A (eval (.Call (.Attribute o name apos) (e :: rest) [] pos) env) Q E s := by
  rw [hc]
  refine C_anyBind (wpAny_mono h (fun ov s₁ h₁ => C_anyBind (wpAny_standAt (C_anyBind (wpAny_holding (wpAny_mono h₁ (fun fx s₂ h₂ => ?_) fun _ _ x => x))))) fun _ _ x => x)
  obtain ⟨rfl, h₂⟩ := h₂
  show wpC M A (callWith pos (.builtin id) [self] (backTo pos (starEach (e :: rest) env)) []) Q E s₂
  rw [he] at h₂ ⊢
  exact C_callWith_builtin (by show (false || (backTo pos (starEach rest env)).any (·.1)) = false; rw [hp]; rfl) (evalArgs_plain h₂)
theorem C_For {target iter : Expr} {body orelse : List Stmt} {pos : Pos} {Q : Flow → Shared → Prop}
    (h : wpAny M A (eval iter env) (fun x s₁ => wpAny M A (pyIter x) (fun it s₂ =>
      codeC M A (.forLoop target it body orelse env) (fun r s' => match r with | .ok f => Q f s' | .error e => cameBackBy M A env E e s') s₂) E s₁) E s)
    (hs : ∀ x, foldedSetIterable iter env x = pure x := by intro _; rfl) : wpC M A (exec (.For target iter body orelse pos) env) Q E s := by
  rw [exec_For]
  refine C_anyBind (wpAny_standAt (C_anyBind (wpAny_mono h (fun x s₁ h₁ => ?_) fun _ _ x => x)))
  refine C_anyBind (wpAny_of_eq (hs x) (C_anyBind (wpAny_standAt (C_anyBind (wpAny_holding (wpAny_mono h₁ (fun it s₂ h₂ => ?_) fun _ _ h' => h'))))))
  exact C_runOwn rfl h₂
end
section
variable {prog : Program} {w : World} {A : Around} {E : Value → Shared → Prop} {R : Result → Shared → Prop} {s : Shared}
theorem C_noted {M : Model} {α : Type} {env : Env} {m : Sem α} {Q : α → Shared → Prop} (h : wpC M A m Q (notedBy M A env E) s) : wpC M A (m.onRaise fun x => do noteFrame x env; theTreesLotGoes x) Q E s :=
  C_onRaise (C_mono h (fun _ _ q => q) fun _ _ hx => wpAny_bind (wpAny_mono hx (fun _ _ e => wpAny_theTreesLotGoes e) fun _ _ e => e))
theorem codeC_forLoop {target : Expr} {it : Value} {body : List Stmt} {env : Env} (I : Nat → Shared → Prop)
    (turn : ∀ n s, I n s → wpAny (model prog w) A (pyNext it) (fun r s₁ => match r with
      | none => R (.ok .next) s₁
      | some v => wpAny (model prog w) A (assign target env v) (fun _ s₂ => wpC (model prog w) A (execs body env) (fun f s₃ => match f with
          | .next | .cont => ∃ m, m < n ∧ I m s₃
          | .brk => R (.ok .next) s₃
          | .ret v => R (.ok (.ret v)) s₃) (notedBy (model prog w) A env fun e s' => R (.error e) s') s₂) (notedBy (model prog w) A env fun e s' => R (.error e) s') s₁) (notedBy (model prog w) A env fun e s' => R (.error e) s') s)
    (n : Nat) (h : I n s) (ht : ∀ v, letOwnedTupleGo target it v = pure () := by intro _; rfl) : codeC (model prog w) A (.forLoop target it body [] env) R s := by
  induction n using Nat.strongRecOn generalizing s with
  | ind n ih =>
    refine codeC_of_tree ?_
    show wpC _ _ ((forTurn target it body [] env).onRaise (fun x => do noteFrame x env; theTreesLotGoes x)) _ _ s
    refine C_noted ?_
    simp only [forTurn]
    refine C_anyBind (wpAny_standAt (C_anyBind (wpAny_onRaise (wpAny_mono (turn n s h) (fun r s₁ h₁ => ?_) fun _ _ h' => wpAny_standAt h'))))
    cases r with
    | none => exact C_pure ⟨rfl, rfl, codeC_any (codeAny_block (wpAny_execs_nil h₁))⟩
    | some v =>
      refine C_anyBind (wpAny_of_eq (ht v) ?_)
      refine C_anyBind (wpAny_mono h₁ (fun _ s₂ h₂ => C_bind (C_mono h₂ (fun f s₃ h₃ => ?_) fun _ _ h' => h')) fun _ _ h' => h')
      cases f with
      | next => obtain ⟨m, hm, hI⟩ := h₃; exact C_pure ⟨rfl, rfl, ih m hm hI⟩
      | cont => obtain ⟨m, hm, hI⟩ := h₃; exact C_pure ⟨rfl, rfl, ih m hm hI⟩
      | brk => exact C_pure h₃
      | ret v => exact C_pure h₃
theorem free_of {id : String} {args : Args} (h : holders.contains id = false) : free (.builtin id args) = true := by
  show (!holders.contains id) = true
  rw [h]; rfl
theorem codeC_builtin {id : String} {args : Args} {b : Builtin} (hb : entryFor table id = some b)
    (h : wpC (model prog w) (A.under (.builtin id args)) (b args) (fun fin s' => match fin with | .done f => R (.ok f) s' | .again c' => c'.quiet = true ∧ free c' = true ∧ codeC (model prog w) A c' R s') (fun e s' => R (.error e) s') s) :
    codeC (model prog w) A (.builtin id args) R s := by
  refine codeC_of_tree ?_
  show wpC _ _ (match entryFor table id with | some b => b args | none => unsupported ((withoutEnding? id "#data").getD id)) _ _ s
  rw [hb]; exact h
theorem codeC_call_builtin {id : String} {args : Args} {b : Builtin} (hf : holders.contains id = false) (hq : plainId id = true) (hb : entryFor table id = some b)
    (h : wpAny (model prog w) A.in1 (checkBuiltinCall id args) (fun _ s₁ => wpC (model prog w) A.in1 (b args)
      (fun fin s' => match fin with | .done f => R (.ok f) s' | .again c' => c'.quiet = true ∧ free c' = true ∧ codeC (model prog w) A c' R s') (fun e s' => R (.error e) s') s₁)
      (fun e s' => R (.error e) s') s) : codeC (model prog w) A (.call (.builtin id) args) R s := by
  refine codeC_of_tree ?_
  show wpC _ A.in1 (do checkBuiltinCall id args; again (.builtin id args)) _ _ s
  refine C_anyBind (wpAny_mono h (fun _ s₁ h₁ => C_pure ⟨plainId_quiet hq args, free_of hf, codeC_builtin hb ?_⟩) fun _ _ x => x)
  rw [Around.under_plainId hq args]
  exact h₁
theorem codeC_func {body : List Stmt} {env : Env}
    (h : wpC (model prog w) (A.deeper env) (execs body env) (fun f s' => R (.ok (.ret (match f with | .ret v => v | _ => .none))) s')
      (fun e s' => wpAny (model prog w) (A.deeper env) (leaving env e) (fun _ s'' => R (.error e) s'') (fun e' s'' => R (.error e') s'') s') s) : codeC (model prog w) A (.func body env) R s := by
  refine codeC_of_tree ?_
  show wpC _ (A.deeper env) (do point; match ← (execs body env).onRaise (leaving env) with | .ret v => ret v | _ => ret .none) _ _ s
  refine C_anyBind (wpAny_point (C_bind (C_onRaise (C_mono h (fun f s' h' => ?_) fun _ _ h' => h'))))
  cases f <;> exact C_pure h'
theorem codeC_call_def {a : Addr} {o : Obj} {fd : FuncData} {body : List Stmt} {args : Args} {binds : List (Str × Value)}
    (hroom : A.depth < recursionLimit) (ho : s.heap.get? a = some o) (hdata : o.data = .func fd) (hlim : s.heap.NoLimit) (hcd : s.heap.CodeRec fd.code fd.qualname)
    (hbody : fd.body = .stmts body) (hbind : BindsTo s fd args binds) (hcell : ∀ x ∈ fd.scope.names, x.2 ≠ .cell) (hloc : ∀ x ∈ binds, fd.scope.names.lookup x.1 = some .local)
    (h : ∀ h₀, h₀.Ns s.heap.objs.size (fun x => binds.reverse.lookup x) → (∀ b o, s.heap.get? b = some o → h₀.get? b = some o) →
      wpC (model prog w) (A.deeper (callEnv fd s.heap.objs.size a)) (execs body (callEnv fd s.heap.objs.size a)) (fun f s' => R (.ok (.ret (match f with | .ret v => v | _ => .none))) s')
        (fun e s' => wpAny (model prog w) (A.deeper (callEnv fd s.heap.objs.size a)) (leaving (callEnv fd s.heap.objs.size a) e) (fun _ s'' => R (.error e) s'') (fun e' s'' => R (.error e') s'') s')
        { s with heap := h₀, toks := s.toks + binds.length })
    (hco : fd.scope.isCoroutine = false := by rfl) (hgen : fd.scope.isGenerator = false := by rfl) (hk : fd.scope.kind = .function := by rfl) : codeC (model prog w) A (.call (.ref a) args) R s := by
  refine codeC_of_tree ?_
  show wpC _ A.in1 (callAny (.ref a) args) _ _ s
  simp only [callAny]
  refine C_anyBind (wpAny_load ho ?_)
  obtain ⟨c, oc, vs, tq, hc, hoc, hdc, hq⟩ := hcd
  simp only [hdata, callFunction, hco, hgen, hbody, hc]
  refine C_anyBind (m := field (.ref c) 1) (wpAny_field hoc hdc hq (C_anyBind (wpAny_pure ?_)))
  refine C_anyBind (hbind _ _ _ _ ?_)
  refine C_anyBind (wpAny_newFunctionEnv hcell hloc (fun h₀ hns₀ hsb₀ => ?_) hk)
  refine C_anyBind (wpAny_enterFrame (hlim.fresh _ hsb₀) hroom (C_pure ⟨rfl, rfl, ?_⟩))
  rw [← hc]
  exact codeC_func (h h₀ hns₀ fun b o e => hsb₀.extBut b o (Nat.ne_of_lt (Heap.lt_size e)) (Heap.get?_push_of_some _ e))
end
end
section
/-- the loop's rule with the invariant and what follows told by name alone: the proof's term stays small -/
theorem codeC_forLoopA {prog : Program} {w : World} {A : Around} {s : Shared} {target : Expr} {it : Value} {body : List Stmt} {env : Env} (I₀ : Nat → Shared → Prop) {R₀ : Result → Shared → Prop}
    (turn : ∀ (I : Nat → Shared → Prop) (R : Result → Shared → Prop), (∀ n s, I₀ n s → I n s) → (∀ r s, R₀ r s → R r s) → ∀ n s, I₀ n s → wpAny (model prog w) A (pyNext it) (fun r s₁ => match r with
      | none => R (.ok .next) s₁
      | some v => wpAny (model prog w) A (assign target env v) (fun _ s₂ => wpC (model prog w) A (execs body env) (fun f s₃ => match f with
          | .next | .cont => ∃ m, m < n ∧ I m s₃
          | .brk => R (.ok .next) s₃
          | .ret v => R (.ok (.ret v)) s₃) (notedBy (model prog w) A env fun e s' => R (.error e) s') s₂) (notedBy (model prog w) A env fun e s' => R (.error e) s') s₁) (notedBy (model prog w) A env fun e s' => R (.error e) s') s)
    (n : Nat) (h : I₀ n s) (ht : ∀ v, letOwnedTupleGo target it v = pure () := by intro _; rfl) : codeC (model prog w) A (.forLoop target it body [] env) R₀ s :=
  codeC_forLoop I₀ (turn I₀ R₀ (fun _ _ h => h) fun _ _ h => h) n h ht
/-- the same, with the invariant alone told by name -/
theorem codeC_forLoopI {prog : Program} {w : World} {A : Around} {R : Result → Shared → Prop} {s : Shared} {target : Expr} {it : Value} {body : List Stmt} {env : Env} (I₀ : Nat → Shared → Prop)
    (turn : ∀ (I : Nat → Shared → Prop), (∀ n s, I₀ n s → I n s) → ∀ n s, I₀ n s → wpAny (model prog w) A (pyNext it) (fun r s₁ => match r with
      | none => R (.ok .next) s₁
      | some v => wpAny (model prog w) A (assign target env v) (fun _ s₂ => wpC (model prog w) A (execs body env) (fun f s₃ => match f with
          | .next | .cont => ∃ m, m < n ∧ I m s₃
          | .brk => R (.ok .next) s₃
          | .ret v => R (.ok (.ret v)) s₃) (notedBy (model prog w) A env fun e s' => R (.error e) s') s₂) (notedBy (model prog w) A env fun e s' => R (.error e) s') s₁) (notedBy (model prog w) A env fun e s' => R (.error e) s') s)
    (n : Nat) (h : I₀ n s) (ht : ∀ v, letOwnedTupleGo target it v = pure () := by intro _; rfl) : codeC (model prog w) A (.forLoop target it body [] env) R s :=
  codeC_forLoop I₀ (turn I₀ (fun _ _ h => h)) n h ht
end
section
/-- what is asked of the call, on a calm stack -/
abbrev WalkC (q : Program) (loose : List Str) (XP : (Str → Option Value) → Heap → Prop) (YP : World → Heap → Prop) (r : RowW) (d : DefRec) (kwd : List (Str × Expr)) : Prop :=
  ∀ (w : World) (s₀ s₁ : Shared) (mg mb : Str → Option Value), Ground q loose r.records XP w s₀ mg mb s₁.heap → YP w s₁.heap → ∀ (a : Addr) (o : Obj) (pm cd doc dV kV : Value), s₁.heap.get? a = some o →
    o.data = .func { docDef d.name d.params d.body d.scope pm cd doc with defaults := dV, kwdefaults := kV } → s₁.heap.CodeRec cd d.name → Dflts mg s₁.heap d.params kwd dV kV → mg d.name = some (.ref a) → s₁.gens = #[] →
    ∀ (args : List WData) (vals : List Value) (as : List Addr), r.claim.pre args = true → WData.layableAll args = true → ReadsAllW r.records (classAt s₀.heap) s₁.heap vals args as → WellAll w.params s₁.heap vals args → (∀ a ∈ as, (a == sysModules) = false) →
      wpC (model r.prog w) callerA (call (.ref a) vals) (fun v s' => GoodWG r.claim (classAt s₀.heap) (ExcName.means s₀.heap) args s₁ (.ok (.ret v)) s')
        (fun e s' => GoodWG r.claim (classAt s₀.heap) (ExcName.means s₀.heap) args s₁ (.error e) s') s₁

/-- the very stack of a claim's call is calm -/
theorem calm_caller : Calm ⟨.builtin "claim.caller" {}, none, none, [], none⟩ := ⟨free_of (by decide +kernel), fun _ h => nomatch h⟩

theorem halts_calm {prog : Program} {w : World} {t : Sem Fin} {s : Shared} {R : Result → Shared → Prop} (hz : s.asleep)
    (h : wpC (model prog w) callerA t (fun fin s' => ∃ f, fin = .done f ∧ R (.ok f) s' ∧ leftWithCleanup s'.gens = false) (fun e s' => R (.error e) s' ∧ leftWithCleanup s'.gens = false) s) :
    ∃ n r s' s'', schedN (denote table) prog w n (.single s ⟨t, .builtin "claim.caller" {}, default, []⟩) = .halted (outcomeOf r) s' ∧ runN (denote table) prog w n s ⟨t, .builtin "claim.caller" {}, default, []⟩ = .halted (outcomeOf r) s' ∧ s'.forget = s''.forget ∧ R r s'' := by
  have h0 := h ⟨.builtin "claim.caller" {}, none, none, [], none⟩ default caller_in calm_caller
  have h1 : Sem.wp (model prog w) ⟨.builtin "claim.caller" {}, none, none, [], none⟩ t (Sem.finPost (model prog w) ⟨.builtin "claim.caller" {}, none, none, [], none⟩ fun r s' => R r s' ∧ leftWithCleanup s'.gens = false)
      (fun e _ s' => R (.error e) s' ∧ leftWithCleanup s'.gens = false) default s :=
    Sem.wp_mono _ _ t (fun fin p s' x => by
      obtain ⟨f, rfl, hf⟩ := x
      exact hf) (fun _ _ _ x => x) default s h0
  obtain ⟨n, r, s₁, s₂, hs, hn, hfo, hR⟩ := wp_halts_full (M := model prog w) (R := R) hz h1
  exact ⟨n, r, s₂, s₁, hs, hn, hfo, hR⟩

/-- the claim of a row from its top's run and its call on a calm stack -/
theorem PySem.W.holds_open {r : OpenRow} {q : Program} {loose : List Str} {Xt : Shared → Bool} {XP : (Str → Option Value) → Heap → Prop} {α : Type} {Yf : Shared → α} {Ya : World → α} {YP : World → Heap → Prop} {d : DefRec} {kwd : List (Str × Expr)} {N : Nat}
    (left : LeftO r.prog q loose Xt Yf Ya N) (hY : ∀ w s, Yf s = Ya w → YP w s.heap) (hYk : ∀ w h h', YP w h → (∀ b o, h.get? b = some o → h'.get? b = some o) → YP w h')
    (hX : ∀ s, Xt s = true → XP (s.heap.nsMap mainGlobals) s.heap) (hXk : ∀ mg h h', XP mg h → (∀ b o, h.get? b = some o → h'.get? b = some o) → XP mg h')
    (hdef : defOf q r.name = some (d, kwd)) (hp : r.prog.theDef r.name = some (d.params, d.body, d.scope)) (hk : kwWritten? d.params.kwonlyargs d.params.kw_defaults = some kwd) (hRf : ∀ s, Xt s = true → RecFacts r.records s.heap) (hwr : (!r.writes || r.records.isEmpty) = true)
    (k1 : r.wellSaid = true) (ok : (chainsOk q && opensWell r.prog && (frees r.toRowW && r.within.isEmpty)) = true) (hb : r.prog.bare) (hw : r.toRowW.promised)
    (call : WalkC q loose XP YP r.toRowW d kwd) : r.Holds := by
  rw [Bool.and_eq_true, Bool.and_eq_true, Bool.and_eq_true] at ok
  obtain ⟨⟨hch, hop⟩, hfr, hin0⟩ := ok
  obtain ⟨hsame, hu, ha, hap, hm⟩ := frees_parts hfr
  have hid := ident_freeW hu ha hap
  have hin1 : r.toRowW.claim.within = [] := List.isEmpty_iff.mp hin0
  refine ⟨k1, hw, ⟨hb, hop, by show r.toRowW.makers.map _ = []; rw [hm]; rfl⟩, hw.witness, fun w => ⟨(left.behind hX hch w).1, fun s' hs' => ?_⟩⟩
  obtain ⟨s₀, hf, hg0, s, hT, hz, hge, hns, G0, y⟩ := (left.behind (XP := fun mg h => XP mg h ∧ RecFacts r.records h) (fun s hs => ⟨hX s hs, hRf s hs⟩) hch w).2 s' hs'
  have G1 : Ground q loose [] XP w s (s.heap.nsMap mainGlobals) (s.heap.nsMap builtinsNs) s.heap := ⟨G0.T, G0.B, G0.D, G0.TE, G0.TD, G0.W, G0.X.1, G0.cls, G0.has, G0.apart, G0.once, G0.K⟩
  refine ⟨s₀, hf, hg0, s, hT, fun n hn => ?_, G0.X.2.1, G0.X.2.2.1, fun args hpre hlay ord hord => ?_⟩
  · obtain rfl : n = r.name := by split at hn <;> simp_all
    exact pinned_of_view hns G1 hdef hp hk
  have hgens : s.gens = #[] := Array.eq_empty_of_size_eq_zero (beq_iff_eq.mp hge)
  have G : Ground q loose r.records XP w s _ _ s.heap := G0.X.2.ground G1
  obtain ⟨⟨vs, s₁⟩, hlaid⟩ := Option.isSome_iff_exists.mp (layAllW_isSome (P := w.params) (ord := ord) G.has args r.args s (pre_splitW hpre).1)
  have keeps := layAllW_keeps _ _ _ hlaid
  have hal := layAllW_rest _ _ _ hlaid
  obtain ⟨as, hrd, hin, hold⟩ := reads_layAllW hord _ _ _ hlaid hlay s₁.heap (fun _ _ e => e)
  have L : Laid r.records w s s₁ args vs as := ⟨⟨ord, hord, hlaid⟩, hrd, hin, hold, keeps, hal.1.trans hgens, hal.2.2.1⟩
  have G₁ := G.keeps hXk keeps
  obtain ⟨a, o, pm, cd, doc, dV, kV, h1, h2, h3, h4, h5⟩ := G₁.fn hdef
  have body := call w s s₁ _ _ G₁ (hYk _ _ _ (hY w s y) keeps) a o pm cd doc dV kV h2 h3 h4 h5 (defOf_name hdef ▸ h1) L.gens args vs as hpre hlay L.reads L.well (L.low G.low)
  have fin : ∀ (r' : Result) (s' : Shared), GoodWG r.claim (classAt s.heap) (ExcName.means s.heap) args s₁ r' s' →
      (r.toRowW.claim.Ends s args vs s₁ r' s' ∧ s'.os = s.os ∧ (r.writes = true → namesKept r.claim.prog r.keeps s.heap s'.heap ∧ ∀ x ∈ r.claim.records, ∀ a, classAt s.heap x.1 = some a → recordClass s'.heap a x.1 (x.2.map (·.1)) = true)) ∧ leftWithCleanup s'.gens = false := fun r' s' g =>
    have z := g.laid (c := r.claim) hsame hin1 hid L
    ⟨⟨z.1, z.2.1, fun q => ⟨namesKept_of hT hns r.keeps keeps g.2.1.old, noTable hwr q⟩⟩, leftWithCleanup_false_of_bare z.2.2⟩
  have tree : wpC (model r.prog w) callerA (do match ← nsGet mainNs r.name with
      | some f => do ret (← PySem.call f vs)
      | none => unsupported "claim.caller:no-such-global")
      (fun fin s' => ∃ f, fin = .done f ∧ (r.toRowW.claim.Ends s args vs s₁ (.ok f) s' ∧ s'.os = s.os ∧ (r.writes = true → namesKept r.claim.prog r.keeps s.heap s'.heap ∧ ∀ x ∈ r.claim.records, ∀ a, classAt s.heap x.1 = some a → recordClass s'.heap a x.1 (x.2.map (·.1)) = true)) ∧ leftWithCleanup s'.gens = false)
      (fun e s' => (r.toRowW.claim.Ends s args vs s₁ (.error e) s' ∧ s'.os = s.os ∧ (r.writes = true → namesKept r.claim.prog r.keeps s.heap s'.heap ∧ ∀ x ∈ r.claim.records, ∀ a, classAt s.heap x.1 = some a → recordClass s'.heap a x.1 (x.2.map (·.1)) = true)) ∧ leftWithCleanup s'.gens = false) s₁ := by
    refine C_anyBind (wpAny_nsGet G₁.T.g ?_)
    rw [h1]
    exact C_bind (C_mono body (fun v s' g => C_pure ⟨_, rfl, fin _ _ g⟩) fun e s' g => fin _ _ g)
  obtain ⟨k, r', s', s'', hsched, hrun, hfo, hcase, hos, hkp⟩ := halts_calm (prog := r.prog) (w := w) (R := fun r' s' => r.toRowW.claim.Ends s args vs s₁ r' s' ∧ s'.os = s.os ∧ (r.writes = true → namesKept r.claim.prog r.keeps s.heap s'.heap ∧ ∀ x ∈ r.claim.records, ∀ a, classAt s.heap x.1 = some a → recordClass s'.heap a x.1 (x.2.map (·.1)) = true))
    (Shared.asleep_of_life hal.2.2.2 hz) tree
  obtain ⟨eh, _, _, eo, _⟩ := Shared.forget_eq hfo
  have hcase := hcase.congr eh
  rw [← eh] at hkp
  rw [← eo] at hos
  have hlife : s'.heap.life = s.heap.life := (runN_life _ _ _ hrun).trans hal.2.2.2
  refine ⟨vs, s₁, hlaid, k, _, s', hsched, ?_, (fun _ i x hx => by rw [hgens] at hx; simp at hx), hkp, by rw [hlife], Shared.rest_eq hos⟩
  rcases hcase with ⟨v, rfl, d1, d2, d3, d4, d5⟩ | ⟨e, ob, cls, rfl, d1, d2, d3, d4, d5⟩
  · exact .inl ⟨v, rfl, d1, d2, d3, fun b o y _ => d4 b o y, d5⟩
  · exact .inr ⟨e, ob, cls, rfl, d1, d2, d3, d4, fun b o y _ => d5 b o y⟩
end
section
open_top hd for PySem.Challenge.rw_nu0146_01
end
local macro_rules | `(tactic| units_room) => `(tactic| (simp only [units_under_make, units_in1, units_deeper, Around.mark_units]; omega))
section
example (p : Params) : (hd.heap_39 p = [] ∧ PySem.Challenge.rw_nu0146_01.Holds) → True := by
  k_fill
  intro _
  trivial

abbrev TT (mean : ExcName → Option Value) (mg mb : Str → Option Value) (h : Heap) : Prop := Top hd.view_39 (looseW hd.view_39 [Str.ofString "ShapeError", Str.ofString "laid"]) mean mg mb h

/-- the pen: a list that holds the list of cells, the count and the cell at hand -/
def PenO (C : Addr) (oP oC : Obj) : Prop := ∃ xs ns k c t1 t2 e1 e2, oP = W.listOf #[.ref C, .int k t1, .int c t2] e1 ∧ oC = W.listOf (List.toArray xs) e2 ∧ IntsAre xs ns ∧ ns.length ≤ 63
theorem pen_ne {h : Heap} {P C : Addr} {oP oC : Obj} (p : PenO C oP oC) (hP : h.get? P = some oP) (hC : h.get? C = some oC) : P ≠ C := by
  obtain ⟨xs, ns, k, c, t1, t2, e1, e2, rfl, rfl, r, _⟩ := p
  rintro rfl
  rw [hP] at hC
  injection hC with b
  injection b with _ _ b _
  injection b with b _
  have b' : xs = [.ref P, .int k t1, .int c t2] := by rw [← List.toList_toArray (as := xs), ← b]
  subst b'
  cases r
def Off (P C : Addr) (h h' : Heap) : Prop := ∀ b o, b ≠ P → b ≠ C → h.get? b = some o → h'.get? b = some o

theorem fmod_lo (a b : Int) (h : 0 < b) : 0 ≤ a.fmod b := Int.fmod_nonneg_of_pos a h
theorem fmod_hi (a b : Int) (h : 0 < b) : a.fmod b < b := Int.fmod_lt_of_pos a h

theorem pop0 {prog : Program} {w : World} {A : Around} {E : Value → Shared → Prop} {s : Shared} {h₀ : Heap} {L D : Addr} {m : Str → Option Value} {news news' : List (Addr × Obj)} {n : Nat} {vs : List Value} {y : Value} {u : Tok} {Q : Value → Shared → Prop}
    (F : Fr h₀ L s.heap m) (N : News h₀ L s.heap news) (U : Upd D (W.listOf (List.toArray (y :: vs)) n) (W.listOf vs.toArray (n + 1)) news news') (hz : (y :: vs).length ≤ 63)
    (h : ∀ h', Fr h₀ L h' m → News h₀ L h' news' → Q y { s with heap := h' }) : wpAny (model prog w) A (call (.builtin "list.pop") [.ref D, .int 0 u]) Q E s := by
  refine kl_popAt (p := []) (y := y) (q := vs) (k := 0) F N rfl ?_ rfl U ?_ h
  · simp [seqIndex?]
  · rw [PySem.sizeLine_eq]; exact Nat.le_trans hz (by decide)
local macro_rules | `(tactic| walk_at "call builtin:list.pop") => `(tactic| (k_here; k_dflt (refine' pop0 ?F ?N ?U ?z ?_; (case F => k_asm); (case N => k_asm); (case U => k_upd); (case z => assumption)); (intro h' F' N'; (try dsimp only [List.nil_append, List.cons_append] at N'))))
theorem draw_end {P C L' : Addr} {g h' : Heap} {s : Shared} {R : Result → Shared → Prop} {many : Int} {m : Str → Option Value} {news : List (Addr × Obj)} {v : Int} {t : Tok} {tk : Nat}
    {xs ns k c t1 t2 e1 e2}
    (hR : ∀ h' tk v t oP' oC', 0 ≤ v → v < many → Off P C s.heap h' → h'.get? P = some oP' → h'.get? C = some oC' → PenO C oP' oC' → R (.ok (.ret (.int v t))) { s with heap := h', toks := tk })
    (lift : ∀ (h' : Heap) (m : Str → Option Value), Fr g L' h' m → Off P C s.heap h') (hm : 0 < many) (F : Fr g L' h' m) (N : News g L' h' news)
    (hP : (P, W.listOf #[.ref C, .int k t1, .int c t2] e1) ∈ news) (hC : (C, W.listOf (List.toArray xs) e2) ∈ news) (hi : IntsAre xs ns) (hl : xs.length ≤ 63) :
    R (.ok (.ret (.int (v.fmod many) t))) { s with heap := h', toks := tk } :=
  hR _ _ _ _ _ _ (fmod_lo _ _ hm) (fmod_hi _ _ hm) (lift _ _ F) (N _ hP).1 (N _ hC).1 ⟨xs, ns, k, c, t1, t2, e1, e2, rfl, rfl, hi, by rw [← hi.length]; exact hl⟩
theorem draw_raw {w : World} {mean : ExcName → Option Value} {mg mb : Str → Option Value} {A : Around} {h₀ : Heap} {s : Shared} {R : Result → Shared → Prop} {P C : Addr} {many : Int} {t3 : Tok}
    (hroom : A.depth + 1 < recursionLimit) (hun : A.units + 200 < cLine) (X : (hd.heap_39 w.params).In h₀) (T : TT mean mg mb h₀) (st : h₀.StaysIn s.heap)
    (nP : h₀.get? P = none) (nC : h₀.get? C = none) {oP oC : Obj} (hP : s.heap.get? P = some oP) (hC : s.heap.get? C = some oC) (hp : PenO C oP oC) (hm : 0 < many) (hm2 : many ≤ 256)
    (hR : ∀ h' tk v t oP' oC', 0 ≤ v → v < many → Off P C s.heap h' → h'.get? P = some oP' → h'.get? C = some oC' → PenO C oP' oC' → R (.ok (.ret (.int v t))) { s with heap := h', toks := tk }) :
    codeAny (model PySem.Challenge.rw_nu0146_01.row.prog w) A (.call (.ref 97) ⟨[.ref P, .int many t3], []⟩) R s := by
  have hPC : @Ne Nat P C := pen_ne hp hP hC
  obtain ⟨xs, ns, k, c, t1, t2, e1, e2, rfl, rfl, hi, hlen⟩ := hp
  w_on
  refine' enter [(P, W.listOf #[.ref C, .int k t1, .int c t2] e1), (C, W.listOf xs.toArray e2)] (binds := [("pen", .ref P), ("many", .int many t3)]) (by omega) X T st ?hm ?k6 ?k7 (BindsTo.of_eq ?k9) (locs ?kB) ?_ ?c2 ?c3 ?c4 ?c5
  (case k6 => k_is)
  (case hm => simp only [List.forall_mem_cons]; exact ⟨⟨hP, nP⟩, ⟨hC, nC⟩, fun _ h => nomatch h⟩)
  (case k7 => k_is)
  (case k9 => rfl)
  (case c5 => decide)
  (case kB => rfl)
  (case c2 => rfl)
  (case c3 => rfl)
  (case c4 => rfl)
  intro g L' h₁ hg hg' st' F N KX T'
  clear hP hC X T st nP nC hg st'
  try dsimp only at F
  have lift : ∀ (h' : Heap) (m : Str → Option Value), Fr g L' h' m → Off P C s.heap h' := fun _ _ F' b o n1 n2 e => F'.keep b o (hg' b o e (by simp [n1, n2]))
  clear hg'
  try dsimp only
  try k_fold
  have hxl : xs.length ≤ 63 := by rw [hi.length]; exact hlen
  clear hlen
  cases hi
  all_goals k_steps
  all_goals first
    | exact draw_end (s := s) (xs := []) hR lift hm (by assumption) (by assumption) (by k_mem) (by k_mem) .nil (by simp)
    | exact draw_end (s := s) hR lift hm (by assumption) (by assumption) (by k_mem) (by k_mem) (IntsAre.cons _ _ (by assumption)) hxl
    | exact draw_end (s := s) hR lift hm (by assumption) (by assumption) (by k_mem) (by k_mem) (by assumption) (Nat.le_of_succ_le hxl)

/-- the ledger with the pen's two objects turned -/
inductive Upd2 (P C : Addr) (oP oC : Obj) : List (Addr × Obj) → (Obj → Obj → List (Addr × Obj)) → Prop
  | nil : Upd2 P C oP oC [] (fun _ _ => [])
  | rest {r : List (Addr × Obj)} : (∀ p ∈ r, p.1 ≠ P ∧ p.1 ≠ C) → Upd2 P C oP oC r (fun _ _ => r)
  | pen {r f} : Upd2 P C oP oC r f → Upd2 P C oP oC ((P, oP) :: r) (fun o o' => (P, o) :: f o o')
  | cel {r f} : Upd2 P C oP oC r f → Upd2 P C oP oC ((C, oC) :: r) (fun o o' => (C, o') :: f o o')
  | oth {a : Addr} {x : Obj} {r f} : @Ne Nat a P → @Ne Nat a C → Upd2 P C oP oC r f → Upd2 P C oP oC ((a, x) :: r) (fun o o' => (a, x) :: f o o')
theorem Upd2.spec {P C : Addr} {oP oC : Obj} {news : List (Addr × Obj)} {f : Obj → Obj → List (Addr × Obj)} (U : Upd2 P C oP oC news f) (o o' : Obj) : ∀ p ∈ f o o', p = (P, o) ∨ p = (C, o') ∨ (p ∈ news ∧ p.1 ≠ P ∧ p.1 ≠ C) := by
  induction U with
  | nil => intro p hp; cases hp
  | rest h => exact fun p hp => .inr (.inr ⟨hp, h p hp⟩)
  | pen _ ih =>
    intro p hp
    rcases List.mem_cons.mp hp with rfl | hp
    · exact .inl rfl
    · exact (ih p hp).imp id fun q => q.imp id fun q => ⟨.tail _ q.1, q.2⟩
  | cel _ ih =>
    intro p hp
    rcases List.mem_cons.mp hp with rfl | hp
    · exact .inr (.inl rfl)
    · exact (ih p hp).imp id fun q => q.imp id fun q => ⟨.tail _ q.1, q.2⟩
  | oth h1 h2 _ ih =>
    intro p hp
    rcases List.mem_cons.mp hp with rfl | hp
    · exact .inr (.inr ⟨.head _, h1, h2⟩)
    · exact (ih p hp).imp id fun q => q.imp id fun q => ⟨.tail _ q.1, q.2⟩

theorem offK {g h h' : Heap} {L P C : Addr} {m : Str → Option Value} {news : List (Addr × Obj)} {f : Obj → Obj → List (Addr × Obj)} {oP oC oP' oC' : Obj} (F : Fr g L h m) (N : News g L h news)
    (mP : (P, oP) ∈ news) (mC : (C, oC) ∈ news) (U : Upd2 P C oP oC news f) (off : Off P C h h') (hP : h'.get? P = some oP') (hC : h'.get? C = some oC') :
    Fr g L h' m ∧ News g L h' (f oP' oC') := by
  have zP := N _ mP
  have zC := N _ mC
  refine ⟨⟨F.ns.at' fun o e => off _ o (Ne.symm zP.2.1) (Ne.symm zC.2.1) e, fun b o e => off b o (fun q => ?_) (fun q => ?_) (F.keep b o e), F.above⟩, fun p hp => ?_⟩
  · rw [q, zP.2.2] at e; cases e
  · rw [q, zC.2.2] at e; cases e
  · rcases U.spec oP' oC' p hp with rfl | rfl | ⟨q, n1, n2⟩
    · exact ⟨hP, zP.2⟩
    · exact ⟨hC, zC.2⟩
    · exact ⟨off _ _ n1 n2 (N p q).1, (N p q).2⟩

theorem draw_K {w : World} {mean : ExcName → Option Value} {mg mb : Str → Option Value} {A : Around} {g : Heap} {s : Shared} {Q : Value → Shared → Prop} {E : Value → Shared → Prop} {P C L : Addr} {many : Int} {t3 : Tok} {m : Str → Option Value}
    {news : List (Addr × Obj)} {f : Obj → Obj → List (Addr × Obj)} {oP oC : Obj} (hp : PenO C oP oC) (F : Fr g L s.heap m) (N : News g L s.heap news) (mP : (P, oP) ∈ news) (mC : (C, oC) ∈ news) (X : (hd.heap_39 w.params).In g) (T : TT mean mg mb g)
    (U : Upd2 P C oP oC news f) (hm : 0 < many) (hm2 : many ≤ 256)
    (hroom : A.depth + 1 < recursionLimit) (hun : A.units + 200 < cLine)
    (h : ∀ h' tk v t oP' oC', Fr g L h' m → News g L h' (f oP' oC') → PenO C oP' oC' → 0 ≤ v → v < many → Q (.int v t) { s with heap := h', toks := tk }) :
    wpAny (model PySem.Challenge.rw_nu0146_01.row.prog w) A (call (.ref 97) [.ref P, .int many t3]) Q E s := by
  refine wpAny_call (draw_raw hroom hun X T (fun b o e => F.keep b o e) (N _ mP).2.2 (N _ mC).2.2 (N _ mP).1 (N _ mC).1 hp hm hm2 fun h' tk v t oP' oC' h0 h1 off gP gC hp' => ?_)
  obtain ⟨F', N'⟩ := offK F N mP mC U off gP gC
  exact h h' tk v t oP' oC' F' N' hp' h0 h1
end
local macro_rules | `(tactic| walk_at "upd2") => `(tactic| first | exact Upd2.nil | (refine' Upd2.pen ?ud; (case ud => walk_at "upd2")) | (refine' Upd2.cel ?ud; (case ud => walk_at "upd2")) | (refine' Upd2.oth ?ua ?ub ?ud; (case ua => omega); (case ub => omega); (case ud => walk_at "upd2")))
local macro_rules | `(tactic| walk_at "call ref") => `(tactic| (k_here; (with_reducible show wpAny _ _ (call (Value.ref 97) _ _) _ _ _); refine' draw_K (hp := ?dp) (F := ?dF) (N := ?dN) ?da ?db ?dX ?dT ?dU ?dm1 ?dm2 ?dr1 ?dr2 ?_; (case dp => k_asm); (case dF => k_asm); (case dN => k_asm); (case da => k_mem); (case db => k_mem); (case dX => k_asm); (case dT => k_asm); (case dU => walk_at "upd2"); (case dm1 => omega); (case dm2 => omega); (case dr1 => (simp only [depth_deeper]; omega)); (case dr2 => (simp only [units_deeper]; omega)); intro h' tk' v' t' oP' oC' F' N' hp' hv0' hv1'; (try dsimp only at N')))
section
theorem item_some {prog : Program} {w : World} {A : Around} {E : Value → Shared → Prop} {s : Shared} {h₀ : Heap} {L : Addr} {news : List (Addr × Obj)} {value slice : PySem.Expr} {l : Addr} {its : List Value} {e : Nat} {k : Int} {u : Tok} {Q : Value → Shared → Prop} (N : News h₀ L s.heap news) (hm : (l, W.listOf its.toArray e) ∈ news)
    (h0 : 0 ≤ k) (h1 : k < its.length) (hf : its.length ≤ 256) (h : ∀ x, x ∈ its → Q x s)
    (hs : subscripted slice false (.ref l) (.int k u) = operate [.ref l, .int k u] (getItem (.ref l) (.int k u)) := by with_unfolding_all rfl) (hg : ∀ r, letTemporaryGo value (.ref l) r = pure () := by intro _; with_unfolding_all rfl) :
    wpAny (model prog w) A (subscriptTail value slice (.ref l) (.int k u)) Q E s := by
  have hk : k.toNat < its.length := by omega
  have hx : its.toArray[k.toNat]? = some its[k.toNat] := by simp [hk]
  exact item_list (News.isList N hm) h0 (by omega) hx (h _ (List.getElem_mem hk)) hs hg
local macro_rules | `(tactic| walk_at "call builtin:len") => `(tactic| (k_here; k_dflt (refine' kst_len ?N ?m rfl ?z ?_; (case N => k_asm); (case m => k_mem); (case z => omega))))
local macro_rules | `(tactic| walk_at "subscriptTail") => `(tactic| (k_here; k_dflt (refine' item_some ?N ?m ?a ?b ?z ?_; (case N => k_asm); (case m => k_mem); (case a => omega); (case b => omega); (case z => omega)); intro x' hx'))
theorem pick_raw {w : World} {mean : ExcName → Option Value} {mg mb : Str → Option Value} {A : Around} {h₀ : Heap} {s : Shared} {R : Result → Shared → Prop} {P C S : Addr}
    (hroom : A.depth + 2 < recursionLimit) (hun : A.units + 300 < cLine) (X : (hd.heap_39 w.params).In h₀) (T : TT mean mg mb h₀) (st : h₀.StaysIn s.heap)
    (nP : h₀.get? P = none) (nC : h₀.get? C = none) (nS : h₀.get? S = none) {oP oC : Obj} (hP : s.heap.get? P = some oP) (hC : s.heap.get? C = some oC) (hp : PenO C oP oC)
    {its : List Value} {e : Nat} (hS : s.heap.get? S = some (W.listOf its.toArray e)) (hSP : @Ne Nat S P) (hSC : @Ne Nat S C) (hm : 0 < its.length) (hm2 : its.length ≤ 256)
    (hR : ∀ h' tk x oP' oC', x ∈ its → Off P C s.heap h' → h'.get? P = some oP' → h'.get? C = some oC' → PenO C oP' oC' → R (.ok (.ret x)) { s with heap := h', toks := tk }) :
    codeAny (model PySem.Challenge.rw_nu0146_01.row.prog w) A (.call (.ref 104) ⟨[.ref P, .ref S], []⟩) R s := by
  have hPC : @Ne Nat P C := pen_ne hp hP hC
  w_on
  refine' enter [(P, oP), (C, oC), (S, W.listOf its.toArray e)] (binds := [("pen", .ref P), ("some", .ref S)]) (by omega) X T st ?hm ?k6 ?k7 (BindsTo.of_eq ?k9) (locs ?kB) ?_ ?c2 ?c3 ?c4 ?c5
  (case k6 => k_is)
  (case hm => simp only [List.forall_mem_cons]; exact ⟨⟨hP, nP⟩, ⟨hC, nC⟩, ⟨hS, nS⟩, fun _ h => nomatch h⟩)
  (case k7 => k_is)
  (case k9 => rfl)
  (case c5 => decide)
  (case kB => rfl)
  (case c2 => rfl)
  (case c3 => rfl)
  (case c4 => rfl)
  intro g L' h₁ hg hg' st' F N KX T'
  clear hP hC X T st nP nC hg st' nS
  try dsimp only at F
  try dsimp only
  try k_fold
  k_steps
  have hoff : ∀ h' m, Fr g L' h' m → h'.get? S = some (W.listOf its.toArray e) → Off P C s.heap h' := fun h' m F' hS' b o n1 n2 q => by
    by_cases hb : b = S
    · subst hb; rw [hS] at q; rw [hS', q]
    · exact F'.keep b o (hg' b o q (by simp [n1, n2, hb]))
  exact hR _ _ _ _ _ (by assumption) (hoff _ _ (by assumption) (News.get (by assumption) (by k_mem))) (News.get (by assumption) (by k_mem)) (News.get (by assumption) (by k_mem)) (by assumption)

theorem pick_K {w : World} {mean : ExcName → Option Value} {mg mb : Str → Option Value} {A : Around} {g : Heap} {s : Shared} {Q : Value → Shared → Prop} {E : Value → Shared → Prop} {P C L S : Addr} {m : Str → Option Value}
    {news : List (Addr × Obj)} {f : Obj → Obj → List (Addr × Obj)} {oP oC : Obj} {its : List Value} {e : Nat} (hp : PenO C oP oC) (F : Fr g L s.heap m) (N : News g L s.heap news) (mP : (P, oP) ∈ news) (mC : (C, oC) ∈ news) (mS : (S, W.listOf its.toArray e) ∈ news) (X : (hd.heap_39 w.params).In g) (T : TT mean mg mb g)
    (U : Upd2 P C oP oC news f) (hSP : @Ne Nat S P) (hSC : @Ne Nat S C) (hm : 0 < its.length) (hm2 : its.length ≤ 256)
    (hroom : A.depth + 2 < recursionLimit) (hun : A.units + 300 < cLine)
    (h : ∀ h' tk x oP' oC', Fr g L h' m → News g L h' (f oP' oC') → PenO C oP' oC' → x ∈ its → Q x { s with heap := h', toks := tk }) :
    wpAny (model PySem.Challenge.rw_nu0146_01.row.prog w) A (call (.ref 104) [.ref P, .ref S]) Q E s := by
  refine wpAny_call (pick_raw hroom hun X T (fun b o e => F.keep b o e) (N _ mP).2.2 (N _ mC).2.2 (N _ mS).2.2 (N _ mP).1 (N _ mC).1 hp (N _ mS).1 hSP hSC hm hm2 fun h' tk x oP' oC' hx off gP gC hp' => ?_)
  obtain ⟨F', N'⟩ := offK F N mP mC U off gP gC
  exact h h' tk x oP' oC' F' N' hp' hx
end
section
abbrev baO (b : Array UInt8) : Obj := { cls := .type "bytearray", data := .bytearray b }
theorem ba_slot_len : Slot "bytearray" "__len__" "bytearray.__len__" :=
  .of (owner := "bytearray") (n := "__len__") (by rw [typeLookup_type, builtinLookup_eq_fast]; kernel_rfl) (by decide +kernel) (by decide +kernel) (by decide +kernel)
    (by first | exact .inl (by decide +kernel) | exact .inr (by decide +kernel)) (by rw [isSubtype_type]; kernel_rfl)
theorem ba_slot_extend : Slot "bytearray" "extend" "bytearray.extend" :=
  .of (owner := "bytearray") (n := "extend") (by rw [typeLookup_type, builtinLookup_eq_fast]; kernel_rfl) (by decide +kernel) (by decide +kernel) (by decide +kernel)
    (by first | exact .inl (by decide +kernel) | exact .inr (by decide +kernel)) (by rw [isSubtype_type]; kernel_rfl)
theorem ba_slot_init : Slot "bytearray" "__init__" "bytearray.__init__" :=
  .of (owner := "bytearray") (n := "__init__") (by rw [typeLookup_type, builtinLookup_eq_fast]; kernel_rfl) (by decide +kernel) (by decide +kernel) (by decide +kernel)
    (by first | exact .inl (by decide +kernel) | exact .inr (by decide +kernel)) (by rw [isSubtype_type]; kernel_rfl)
theorem ba_entry_len : entryFor table "bytearray.__len__" = some Builtin.«bytearray.__len__» := entryFor_of_tree (by kernel_rfl)
theorem ba_entry_extend : entryFor table "bytearray.extend" = some Builtin.«bytearray.extend» := entryFor_of_tree (by kernel_rfl)
theorem ba_entry_init : entryFor table "bytearray.__init__" = some Builtin.«bytearray.__init__» := entryFor_of_tree (by kernel_rfl)
theorem ba_entry_new : entryFor table "bytearray.__new__" = some Builtin.«list.__new__» := entryFor_alias (id' := "list.__new__") (by kernel_rfl) rfl (by decide +kernel) (by kernel_rfl)
theorem ba_args_len (a : Value) : argsOk "bytearray.__len__" ⟨[a], []⟩ := by unfold argsOk; kernel_rfl
theorem ba_args_extend (a b : Value) : argsOk "bytearray.extend" ⟨[a, b], []⟩ := by unfold argsOk; kernel_rfl
theorem ba_args_init (a : Value) : argsOk "bytearray.__init__" ⟨[a], []⟩ := by unfold argsOk; kernel_rfl
theorem ba_mro : mroOf (.type "bytearray") = pure [.type "bytearray", .type "object"] := by rw [mroOf_type]; kernel_rfl
theorem ba_lookup_new : typeLookup (.type "bytearray") "__new__" = pure (some (.builtin "bytearray.__new__")) := by rw [typeLookup_type, builtinLookup_eq_fast]; kernel_rfl
theorem ba_made : Bind.madeBy (.type "bytearray") = pure (some "bytearray.__new__") := madeBy_type ba_mro ba_lookup_new (by decide +kernel)
theorem ba_plain_new : plainId "bytearray.__new__" = true := by decide +kernel
theorem ba_sub : isSubtype (.type "bytearray") (.type "bytearray") = pure true := by rw [isSubtype_type]; kernel_rfl
theorem ba_typeCall : checkTypeCall "bytearray" ⟨[], []⟩ = pure () := by kernel_rfl
theorem ba_newCall : checkBuiltinCall "bytearray.__new__" ⟨[.type "bytearray"], []⟩ = pure () := by kernel_rfl
theorem ba_release : typeLookup (.type "bytearray") "__release_buffer__" = pure (some (.builtin "bytearray.__release_buffer__")) := by rw [typeLookup_type, builtinLookup_eq_fast]; kernel_rfl
theorem ba_attrs : typeLookup (.type "bytearray") "__buffer__" = pure (some (.builtin "bytearray.__buffer__")) := by rw [typeLookup_type, builtinLookup_eq_fast]; kernel_rfl
theorem ba_plainAttrs : PlainAttrs "bytearray" := ⟨⟨"bytearray.__getattribute__", by rw [typeLookup_type, builtinLookup_eq_fast]; kernel_rfl, by decide +kernel⟩, by rw [typeLookup_type, builtinLookup_eq_fast]; kernel_rfl⟩
theorem ba_type_extend : typeOf (.builtin "bytearray.extend") = pure (.type "method_descriptor") := by show builtinType _ = _; rw [builtinType_eq_fast]; kernel_rfl
end
section
section
variable {M : Model} {A : Around} {E : Value → Shared → Prop} {s : Shared} {B : Addr} {d b : Array UInt8} {t : Tok}
theorem ba_typeIs (ho : s.heap.get? B = some (baO d)) : s.TypeIs (.ref B) "bytearray" := ⟨_, ho, rfl⟩
theorem ba_payload {Q : Array UInt8 → Shared → Prop} (ho : s.heap.get? B = some (baO d)) (h : Q d s) : wpAny M A (Builtin.Bytes.payload (.ref B)) Q E s := by
  unfold Builtin.Bytes.payload Builtin.Bytes.payload?
  refine wpAny_bind (wpAny_bind (wpAny_load ho ?_))
  exact wpAny_pure (wpAny_pure h)
theorem ba_write {f : Array UInt8 → Array UInt8} {Q : Unit → Shared → Prop} (ho : s.heap.get? B = some (baO d)) (hz : (f d).size ≤ sizeLine)
    (h : ∀ h', h'.get? B = some (baO (f d)) → Heap.SameBut B s.heap h' → Q () { s with heap := h' }) : wpAny M A (Builtin.Bytes.write (.ref B) f) Q E s := by
  show wpAny M A (updateBytearray B f) Q E s
  unfold updateBytearray
  refine wpAny_bind (wpAny_load ho ?_)
  show wpAny M A (update B (Obj.mapBytearray f) >>= fun _ => lookBehind B) Q E s
  refine wpAny_bind (wpAny_update ho ?_)
  have hS : (s.heap.update B (Obj.mapBytearray f)).get? B = some (baO (f d)) := Heap.get?_update_self (Obj.mapBytearray f) ho rfl
  refine wpAny_lookBehind hS ?_ (h _ hS (Heap.SameBut.update ..))
  show (if (f d).size > sizeLine then some "bytearray:memory" else none) = none
  rw [if_neg (Nat.not_lt.mpr hz)]
theorem ba_checkResize {Q : Unit → Shared → Prop} (ho : s.heap.get? B = some (baO d)) (h : Q () s) : wpC M A (Builtin.Bytes.checkResize (.ref B)) Q E s := by
  unfold Builtin.Bytes.checkResize
  refine C_bind (C_bind (C_exported ?_))
  refine C_any (wpAny_bind (wpAny_bind ?_))
  exact wpAny_load ho (wpAny_pure (wpAny_pure (C_pure h)))
theorem takeQ_eq {id : String} : Builtin.Bytes.takeBufferQuiet? id (.bytes b t) 0 = pure (some (b, none)) := by
  have hb : ∀ f, Builtin.Bytes.buffer? id (.bytes b t) f = pure (some b) := fun f => by
    unfold Builtin.Bytes.buffer?
    rw [KBy.special_eq KBy.look_buffer, KBy.own_buffer, KBy.own_release]
    kernel_rfl
  unfold Builtin.Bytes.takeBufferQuiet? Builtin.Bytes.takeBuffer?
  rw [KBy.special_eq KBy.look_buffer, KBy.own_buffer, hb]
  kernel_rfl
end
section
variable {prog : Program} {w : World} {A : Around} {E : Value → Shared → Prop} {s : Shared} {B : Addr} {d b : Array UInt8} {t : Tok}
theorem ba_len {Q : Value → Shared → Prop} (ho : s.heap.get? B = some (baO d)) (hz : d.size ≤ 1000000) (h : Q (.int d.size (s.toks + 1)) { s with toks := s.toks + 1 + 1 }) :
    wpAny (model prog w) A (call (.builtin "len") [.ref B]) Q E s := by
  refine call_len_meets (S := fun _ R s => s.heap.get? B = some (baO d) ∧ R (.ok (.ret (.int d.size s.toks))) { s with toks := s.toks + 1 }) (ba_typeIs ho) ba_slot_len ba_entry_len (ba_args_len _) (fun prog w A R s hs => ?_) (by omega) (by omega) (fun Q' hQ' => ⟨ho, hQ'⟩) h
  show wpAny _ _ (Builtin.Bytes.payload (.ref B) >>= fun x => _) _ _ s
  exact wpAny_bind (ba_payload hs.1 (wpAny_bind (wpAny_mkInt (wpAny_pure hs.2))))
theorem ba_method {pl : Sem Bool} {Q : Value × List Value → Shared → Prop} (ho : s.heap.get? B = some (baO d)) (h : Q (.builtin "bytearray.extend", [.ref B]) s) :
    wpAny (model prog w) A (getMethod (.ref B) "extend" pl) Q E s :=
  getMethod_builtin (ba_typeIs ho) ba_plainAttrs ba_slot_extend ba_type_extend (fun a e => by cases e; exact ⟨_, ho, rfl⟩) h
theorem ba_extend {Q : Value → Shared → Prop} (ho : s.heap.get? B = some (baO d)) (hz : d.size + b.size ≤ 1000000)
    (h : ∀ h', h'.get? B = some (baO (d ++ b)) → Heap.SameBut B s.heap h' → Q .none { s with heap := h' }) : wpC (model prog w) A (call (.builtin "bytearray.extend") [.ref B, .bytes b t]) Q E s := by
  refine C_call (codeC_call_builtin (by decide +kernel) ba_slot_extend.plain ba_entry_extend (ba_slot_extend.check _ _ _ _ _ _ _ _ (ba_typeIs ho) (ba_args_extend _ _) ?_))
  unfold Builtin.«bytearray.extend»
  show wpC _ _ (specialOf (.bytes b t) "__buffer__" >>= fun x => _) _ _ s
  rw [KBy.special_eq KBy.look_buffer]
  refine C_anyBind (wpAny_pure ?_)
  refine C_anyBind (wpAny_pure ?_)
  simp only [Option.isSome_some, if_true]
  refine C_anyBind (wpAny_rule (C_anyBind (ba_payload ho ?_)))
  rw [takeQ_eq]
  refine C_anyBind (wpAny_pure ?_)
  simp only [Option.isNone_none, if_true]
  show wpC _ _ (if (!b.isEmpty) = true then (Builtin.Bytes.checkResize (.ref B) >>= fun _ => do Builtin.Bytes.write (.ref B) (· ++ b); ret .none) else do Builtin.Bytes.write (.ref B) (· ++ b); ret .none) _ _ s
  have last : wpC (model prog w) A.in1 (do Builtin.Bytes.write (.ref B) (· ++ b); ret .none) (fun fin s' => match fin with | .done f => (match Except.ok f with | .ok (.ret v) => Q v s' | .ok _ => False | .error e => E e s') | .again c' => c'.quiet = true ∧ free c' = true ∧ codeC (model prog w) A c' (fun r s' => match r with | .ok (.ret v) => Q v s' | .ok _ => False | .error e => E e s') s') E s := by
    refine C_any (wpAny_bind (ba_write ho ?_ fun h' hg hs => wpAny_pure (h h' hg hs)))
    rw [Array.size_append, sizeLine_eq]; omega
  cases hb : b.isEmpty
  · simp only [Bool.not_false, if_true]
    exact C_bind (ba_checkResize ho last)
  · simp only [Bool.not_true, Bool.false_eq_true, if_false]
    exact last
theorem ba_owner : ("bytearray.__new__".splitOn ".__new__").headD "" = "bytearray" := by simp +decide [String.splitOn, String.splitOnAux]
theorem ba_code_new {Q₁ : Value → Shared → Prop} (h : Q₁ (.ref s.heap.objs.size) { s with heap := s.heap.push (baO #[]) }) :
    codeAny (model prog w) A (.call (.builtin "bytearray.__new__") ⟨[.type "bytearray"], []⟩) (wants Q₁ E) s := by
  refine codeAny_of_tree ?_
  show wpAny _ A.in1 (do checkBuiltinCall "bytearray.__new__" ⟨[.type "bytearray"], []⟩; again (.builtin "bytearray.__new__" ⟨[.type "bytearray"], []⟩)) _ _ s
  refine wpAny_bind (wpAny_of_eq ba_newCall (wpAny_pure ⟨plainId_quiet ba_plain_new _, codeAny_builtin_stack ba_entry_new rfl fun p st => ?_⟩))
  rw [Around.under_plainId ba_plain_new _]
  have hsub := ba_sub
  have hown := ba_owner
  obtain ⟨hp, g, d, tk, os⟩ := s
  simp only [hown]
  wp_walk
  exact h
theorem C_callSpecial {self : Value} {T : String} {name : Str} {id : String} {args : List Value} {kw : List (Str × Value)} {Q : Option Value → Shared → Prop} (hT : s.TypeIs self T) (h : Slot T name id)
    (hc : wpC (model prog w) A (call (.builtin id) (self :: args) kw) (fun v => Q (some v)) E s) : wpC (model prog w) A (callSpecial? self name args kw) Q E s := by
  simp only [callSpecial?]
  refine C_anyBind (wpAny_specialOf hT h.lookup ?_)
  simp only [h.bind]
  exact C_holding (C_anyBind (wpAny_pure (C_bind (C_mono hc (fun v s' h' => C_pure h') fun _ _ x => x))))
theorem ba_ownRelease {Q : Bool → Shared → Prop} (ho : s.heap.get? B = some (baO d)) (h : Q false s) : wpAny (model prog w) A (Builtin.Bytes.ownRelease (.ref B)) Q E s := by
  unfold Builtin.Bytes.ownRelease Builtin.Bytes.slotIsOwn
  refine wpAny_bind (wpAny_bind (wpAny_specialOf (ba_typeIs ho) ba_release ?_))
  have e1 : "bytearray.__release_buffer__".endsWith ("." ++ "__release_buffer__") = true := by decide +kernel
  have e2 : "bytearray.__release_buffer__".dropRight ("__release_buffer__".length + 1) = "bytearray" := by decide +kernel
  simp only [e1, e2, Bool.not_true, Bool.false_eq_true, if_false]
  exact wpAny_isInstance (ba_typeIs ho) ba_sub (wpAny_pure h)
theorem ba_bind : Builtin.Bytes.bindOptional "bytearray.__init__" "bytearray" ["source", "encoding", "errors"] [] [] = pure [none, none, none] := by kernel_rfl
theorem ba_init {Q : Value → Shared → Prop} (ho : s.heap.get? B = some (baO #[])) (h : ∀ h', h'.get? B = some (baO #[]) → Heap.SameBut B s.heap h' → Q .none { s with heap := h' }) :
    wpC (model prog w) A (call (.builtin "bytearray.__init__") [.ref B]) Q E s := by
  refine C_call (codeC_call_builtin (by decide +kernel) ba_slot_init.plain ba_entry_init (ba_slot_init.check _ _ _ _ _ _ _ _ (ba_typeIs ho) (ba_args_init _) ?_))
  unfold Builtin.«bytearray.__init__»
  dsimp only
  refine C_anyBind (ba_ownRelease ho ?_)
  simp only [Bool.false_eq_true, if_false]
  rw [ba_bind]
  refine C_anyBind (wpAny_pure ?_)
  dsimp only
  refine C_anyBind (wpAny_of_eq (a := ()) rfl ?_)
  refine C_anyBind (wpAny_of_eq (a := ()) rfl ?_)
  refine C_bind (C_bind (C_exported ?_))
  refine C_any (wpAny_bind (wpAny_bind ?_))
  refine wpAny_load ho (wpAny_pure (wpAny_pure ?_))
  refine C_any ?_
  show wpAny _ _ (if decide ((0 : Nat) > 0) = true then _ else _) _ _ _
  rw [if_neg (by decide)]
  refine wpAny_bind (ba_write ho (Nat.zero_le _) fun h' hg hs => ?_)
  refine wpAny_bind (wpAny_of_eq (a := ()) rfl ?_)
  exact wpAny_pure (h h' hg hs)
theorem ba_new {Q : Value → Shared → Prop} (h : ∀ h', h'.get? s.heap.objs.size = some (baO #[]) → (∀ b o, s.heap.get? b = some o → h'.get? b = some o) → Q (.ref s.heap.objs.size) { s with heap := h' }) :
    wpC (model prog w) A (call (.type "bytearray") []) Q E s := by
  refine C_call (codeC_of_tree ?_)
  show wpC _ _ (callAny (.type "bytearray") _) _ _ _
  refine C_pure ⟨Code.quiet_builtin _ (by decide +kernel), free_of (by decide +kernel), codeC_builtin F.entry_type_call ?_⟩
  rw [Around.under_plain (weight_type_call_type "bytearray" [] []) rfl]
  unfold Builtin.«type.__call__»
  have h1 : (Value.type "bytearray" == Value.type "type") = false := by decide +kernel
  have h2 : ((Manifest.find? "bytearray").bind fun x => List.findSome? (fun t => (Manifest.find? t).bind fun b => if b.noNew = true then some true else if (b.attrs.any fun x => x.fst == "__new__") = true then some false else none) x.mro).getD false = false := by decide +kernel
  simp only [h1, Bool.false_eq_true, if_false, h2, ba_typeCall, ba_mro, ba_made, pure_bind, List.isEmpty_cons]
  refine C_bind (C_holding (C_call (codeC_any (ba_code_new ?_))))
  have hB : (s.heap.push (baO #[])).get? s.heap.objs.size = some (baO #[]) := Heap.get?_push_size _ rfl
  refine C_anyBind (wpAny_isInstance (T := "bytearray") (b := true) ⟨_, hB, rfl⟩ ba_sub ?_)
  simp only [Bool.not_true, Bool.false_eq_true, if_false]
  refine C_bind (C_holding (C_callSpecial (T := "bytearray") ⟨_, hB, rfl⟩ ba_slot_init (ba_init hB fun h' hg hs => ?_)))
  exact C_pure (h h' hg fun b o e => hs.extBut b o (Nat.ne_of_lt (Heap.lt_size e)) (Heap.get?_push_of_some _ e))
end
end
section
theorem ba_no_bytes : typeLookup (.type "bytearray") "__bytes__" = pure none := by rw [typeLookup_type, builtinLookup_eq_fast]; kernel_rfl
theorem ba_no_index : typeLookup (.type "bytearray") "__index__" = pure none := by rw [typeLookup_type, builtinLookup_eq_fast]; kernel_rfl
theorem int_no_bytes : typeLookup (.type "int") "__bytes__" = pure none := by rw [typeLookup_type, builtinLookup_eq_fast]; kernel_rfl
section
variable {prog : Program} {w : World} {A : Around} {E : Value → Shared → Prop} {s : Shared} {B : Addr} {d b : Array UInt8} {t : Tok}
theorem ba_slotIsOwn {Q : Bool → Shared → Prop} (ho : s.heap.get? B = some (baO d)) (h : Q true s) : wpAny (model prog w) A (Builtin.Bytes.slotIsOwn (.ref B) "__buffer__") Q E s := by
  unfold Builtin.Bytes.slotIsOwn
  refine wpAny_bind (wpAny_specialOf (ba_typeIs ho) ba_attrs ?_)
  have e1 : "bytearray.__buffer__".endsWith ("." ++ "__buffer__") = true := by decide +kernel
  have e2 : "bytearray.__buffer__".dropRight ("__buffer__".length + 1) = "bytearray" := by decide +kernel
  simp only [e1, e2, Bool.not_true, Bool.false_eq_true, if_false]
  exact wpAny_isInstance (ba_typeIs ho) ba_sub h
theorem ba_buffer {id : String} {f : Bool} {Q : Option (Array UInt8) → Shared → Prop} (ho : s.heap.get? B = some (baO d)) (h : Q (some d) s) : wpAny (model prog w) A (Builtin.Bytes.buffer? id (.ref B) f) Q E s := by
  unfold Builtin.Bytes.buffer?
  refine wpAny_bind (wpAny_specialOf (ba_typeIs ho) ba_attrs ?_)
  refine wpAny_bind (ba_slotIsOwn ho ?_)
  refine bm_if_false rfl ?_
  refine wpAny_bind (wpAny_specialOf (ba_typeIs ho) ba_attrs ?_)
  refine wpAny_bind (ba_ownRelease ho ?_)
  refine bm_if_false rfl ?_
  exact wpAny_bind (ba_payload ho (wpAny_pure h))
theorem bytes_of_ba_new {Q : Value → Shared → Prop} (ho : s.heap.get? B = some (baO d)) (hz : d.size ≤ 1000000)
    (hQ : ∀ t k, Q (.bytes d t) { s with toks := k }) :
    codeAny (model prog w) A (.call (.builtin "bytes.__new__") ⟨[.type "bytes", .ref B], []⟩) (wants Q E) s := by
  refine codeAny_of_tree ?_
  show wpAny _ A.in1 (do checkBuiltinCall "bytes.__new__" ⟨[.type "bytes", .ref B], []⟩; again (.builtin "bytes.__new__" ⟨[.type "bytes", .ref B], []⟩)) _ _ s
  refine wpAny_bind (wpAny_of_eq (F.bm_newCall _) (wpAny_pure ⟨plainId_quiet F.bm_plain _, codeAny_builtin F.bm_entry ?_⟩))
  rw [Around.under_plainId F.bm_plain _]
  unfold Builtin.«bytes.__new__»
  refine wpAny_bind (wpAny_of_eq (a := true) rfl ?_)
  refine bm_if_false rfl ?_
  refine wpAny_bind (wpAny_of_eq F.bm_sub ?_)
  refine bm_if_false rfl ?_
  refine wpAny_bind (wpAny_of_eq (F.bm_bind _) ?_)
  refine wpAny_bind (wpAny_of_eq (a := ()) rfl ?_)
  refine wpAny_bind (wpAny_of_eq (a := ()) rfl ?_)
  refine bm_if_false rfl ?_
  refine wpAny_bind (wpAny_specialOf (ba_typeIs ho) ba_no_bytes ?_)
  refine wpAny_bind (wpAny_bind ?_)
  show wpAny _ _ (load B >>= _) _ _ _
  refine wpAny_bind (wpAny_load ho ?_)
  refine wpAny_pure (wpAny_pure ?_)
  refine bm_if_false rfl ?_
  refine wpAny_bind (wpAny_specialOf (ba_typeIs ho) ba_no_index ?_)
  refine bm_if_true rfl ?_
  show wpAny _ _ (Builtin.Bytes.buffer? "bytes.__new__" (.ref B) true >>= _) _ _ _
  refine wpAny_bind (ba_buffer ho ?_)
  refine wpAny_bind (wpAny_rule (wpAny_bind (wpAny_mkBytes ?_ (by rw [sizeLine_eq]; omega))))
  show wpAny _ _ (if (Value.type "bytes" == Value.type "bytes") = true then _ else _) _ _ _
  refine bm_if_true (by decide) ?_
  exact wpAny_pure (hQ _ _)
theorem bytes_of_ba {Q : Value → Shared → Prop} (ho : s.heap.get? B = some (baO d)) (hz : d.size ≤ 1000000) (hQ : ∀ t k, Q (.bytes d t) { s with toks := k }) :
    wpAny (model prog w) A (call (.type "bytes") [.ref B]) Q E s := by
  refine callType_codes (Q₁ := fun obj s₁ => s₁.TypeIs obj "bytes" ∧ Q obj s₁) F.bm_called (F.bm_typeCall _) F.entry_object_init
    (bytes_of_ba_new ho hz fun t k => ⟨PySem.W.typeIs_bytes _ _ _, hQ t k⟩) fun obj s₁ h₁ => ?_
  exact ⟨h₁.1, F.args_object_init_2 obj _, object_init_meets F.bm_called.init.lookup F.bm_called.made (by decide) prog w A.in1 _ s₁ ⟨h₁.1, rfl, h₁.2⟩⟩
theorem bytes_of_int_new {n : Int} {u : Tok} {Q : Value → Shared → Prop} (h0 : 0 ≤ n) (hz : n ≤ 4) (hQ : ∀ t k, Q (.bytes (Array.replicate n.toNat 0) t) { s with toks := k }) :
    codeAny (model prog w) A (.call (.builtin "bytes.__new__") ⟨[.type "bytes", .int n u], []⟩) (wants Q E) s := by
  refine codeAny_of_tree ?_
  show wpAny _ A.in1 (do checkBuiltinCall "bytes.__new__" ⟨[.type "bytes", .int n u], []⟩; again (.builtin "bytes.__new__" ⟨[.type "bytes", .int n u], []⟩)) _ _ s
  refine wpAny_bind (wpAny_of_eq (F.bm_newCall _) (wpAny_pure ⟨plainId_quiet F.bm_plain _, codeAny_builtin F.bm_entry ?_⟩))
  rw [Around.under_plainId F.bm_plain _]
  unfold Builtin.«bytes.__new__»
  refine wpAny_bind (wpAny_of_eq (a := true) rfl ?_)
  refine bm_if_false rfl ?_
  refine wpAny_bind (wpAny_of_eq F.bm_sub ?_)
  refine bm_if_false rfl ?_
  refine wpAny_bind (wpAny_of_eq (F.bm_bind _) ?_)
  refine wpAny_bind (wpAny_of_eq (a := ()) rfl ?_)
  refine wpAny_bind (wpAny_of_eq (a := ()) rfl ?_)
  refine bm_if_false rfl ?_
  refine wpAny_bind (wpAny_specialOf (typeIs_int _ _ _) int_no_bytes ?_)
  refine wpAny_bind (wpAny_bind (wpAny_pure (wpAny_pure ?_)))
  refine bm_if_false rfl ?_
  refine wpAny_bind (wpAny_specialOf (typeIs_int _ _ _) F.slot_int_index.lookup ?_)
  refine bm_if_false rfl ?_
  refine wpAny_bind (wpAny_attempt (wpAny_of_eq (rfl : asIndex (.int n u) = pure n) ?_))
  refine bm_if_false ?_ ?_
  · simp [Builtin.Bytes.fitsIndex]; omega
  show wpAny _ _ (if n < 0 then _ else _) _ _ _
  rw [if_neg (by omega)]
  show wpAny _ _ (if n > 2 ^ 63 - 34 then _ else _) _ _ _
  rw [if_neg (by omega)]
  refine bm_if_false ?_ ?_
  · simp only [Builtin.Bytes.tooLong, decide_eq_false_iff_not, sizeLine_eq]; omega
  refine wpAny_bind (wpAny_rule (wpAny_bind (wpAny_mkBytes ?_ (by rw [sizeLine_eq, Array.size_replicate]; omega))))
  show wpAny _ _ (if (Value.type "bytes" == Value.type "bytes") = true then _ else _) _ _ _
  refine bm_if_true (by decide) ?_
  exact wpAny_pure (hQ _ _)
theorem bytes_of_int {n : Int} {u : Tok} {Q : Value → Shared → Prop} (h0 : 0 ≤ n) (hz : n ≤ 4) (hQ : ∀ t k, Q (.bytes (Array.replicate n.toNat 0) t) { s with toks := k }) :
    wpAny (model prog w) A (call (.type "bytes") [.int n u]) Q E s := by
  refine callType_codes (Q₁ := fun obj s₁ => s₁.TypeIs obj "bytes" ∧ Q obj s₁) F.bm_called (F.bm_typeCall _) F.entry_object_init
    (bytes_of_int_new h0 hz fun t k => ⟨PySem.W.typeIs_bytes _ _ _, hQ t k⟩) fun obj s₁ h₁ => ?_
  exact ⟨h₁.1, F.args_object_init_2 obj _, object_init_meets F.bm_called.init.lookup F.bm_called.made (by decide) prog w A.in1 _ s₁ ⟨h₁.1, rfl, h₁.2⟩⟩
end
end
section
open Builtin Builtin.ObjectAttr
/-- the classes above TableFault -/
abbrev bm54 : List Value := [.ref 41, .type "Exception", .type "BaseException", .type "object"]
section
variable {M : Model} {A : Around} {E : Value → Shared → Prop} {h : Heap} {g : Array GenState} {d : Drawn} {t : Nat} {os : OsState}
variable {nm q : Str} {C N : Addr} {bs : List Value} {hdct : Bool} {sn : List Str} {sub : List Value} {ab : Bool} {col : Option Bool} {dd : Option Addr} {k0 k1 k2 k3 k5 : Option Value}
theorem flt_check_new {rest : List Value} {Q : Unit → Shared → Prop} (hC : h.get? C = some (excClassObj nm q C N bs bm54 hdct sn sub ab col dd k0 k1 k2 k3 k5 "Exception.__new__"))
    (hq : Q () ⟨h, g, d, t, os⟩) : wpAny M A (checkBuiltinCall "Exception.__new__" ⟨.ref C :: rest, []⟩) Q E ⟨h, g, d, t, os⟩ := by
  have F := PySem.F.excBase_Exception
  have hcont : (Value.ref C :: bm54).contains (.type "Exception") = true := by rw [List.contains_cons, show bm54.contains (.type "Exception") = true from by decide, Bool.or_true]
  have hstar := F.noStar
  simp only [checkBuiltinCall, F.newKind, F.newSplit, F.newRow]
  repeat (first | refine wpAny_loadPart_at hC ?_ | (refine wpAny_isSubtype_exc hC ?_; rw [hcont]) | refine wpAny_staticBase_exc hC ?_ | refine wpAny_madeBy_exc hC ?_ | simp only [bne_self_eq_false, Bool.false_eq_true, if_false] | wp_step)
  exact hq
end
section
variable {prog : Program} {w : World} {A : Around} {R : Result → Shared → Prop} {h : Heap} {g : Array GenState} {d : Drawn} {t : Nat} {os : OsState}
variable {nm q : Str} {C N : Addr} {bs : List Value} {hdct : Bool} {sn : List Str} {sub : List Value} {ab : Bool} {col : Option Bool} {dd : Option Addr} {k0 k1 k2 k3 k5 : Option Value}
theorem flt_new {rest : List Value} (hC : h.get? C = some (excClassObj nm q C N bs bm54 hdct sn sub ab col dd k0 k1 k2 k3 k5 "Exception.__new__"))
    (hq : R (.ok (.ret (.ref (h.objs.size + 1)))) ⟨(h.push { cls := .type "tuple", data := .seq rest.toArray }).push
      { cls := .ref C, data := .fields #[.ref h.objs.size, .none, .none, .none, .bool false, .none] }, g, d, t, os⟩) (hrest : rest.length ≤ sizeLine := by size_fits) :
    codeAny (model prog w) A (.builtin "Exception.__new__" ⟨.ref C :: rest, []⟩) R ⟨h, g, d, t, os⟩ := by
  have F := PySem.F.excBase_Exception
  have hends := F.ends
  have hcB : (Value.ref C :: bm54).contains (.type "Exception") = true := by rw [List.contains_cons, show bm54.contains (.type "Exception") = true from by decide, Bool.or_true]
  have hcA : (Value.ref C :: bm54).contains (.type "AttributeError") = false := by rw [List.contains_cons, show bm54.contains (.type "AttributeError") = false from by decide]; rfl
  have hcN : (Value.ref C :: bm54).contains (.type "NameError") = false := by rw [List.contains_cons, show bm54.contains (.type "NameError") = false from by decide]; rfl
  refine codeAny_builtinAt F.entry ?_
  unfold Builtin.«BaseException.__new__»
  refine _root_.PySem.wpAt_bind ?_
  show _root_.PySem.wpAt _ _ _ (stack >>= _) _ _ _
  refine _root_.PySem.wpAt_bind (_root_.PySem.wpAt_stack fun p below => _root_.PySem.wpAt_of_wpAny ?_)
  wp_walk
  refine _root_.PySem.wpAt_of_wpAny ?_
  rw [F.owner]
  repeat (first | with_reducible refine wpAny_madeHere_exc F.canon hC ?_ | with_reducible refine wpAny_loadPart_at hC ?_ | (with_reducible refine wpAny_isSubtype_exc hC ?_; first | rw [hcB] | rw [hcA] | rw [hcN]) | wp_step)
  show R _ _
  rw [Heap.size_push]
  exact hq
end
end
section
open Builtin Builtin.ObjectAttr
theorem flt_get_slot : Slot "wrapper_descriptor" "__get__" "wrapper_descriptor.__get__" := .of (owner := "wrapper_descriptor") (n := "__get__") (by rw [typeLookup_type, builtinLookup_eq_fast]; kernel_rfl) (by decide +kernel) (by decide +kernel) (by decide +kernel)
  (by first | exact .inl (by decide +kernel) | exact .inr (by decide +kernel)) (by rw [isSubtype_type]; kernel_rfl)
theorem flt_get_entry : entryFor table "wrapper_descriptor.__get__" = some Builtin.«wrapper_descriptor.__get__» := entryFor_of_tree (by kernel_rfl)
theorem flt_get_args (a b c : Value) : argsOk "wrapper_descriptor.__get__" ⟨[a, b, c], []⟩ := by unfold argsOk; kernel_rfl
theorem flt_init_type : typeOf (.builtin "Exception.__init__") = pure (.type "wrapper_descriptor") := by kernel_rfl
theorem flt_init_is (s : Shared) : s.TypeIs (.builtin "Exception.__init__") "wrapper_descriptor" := by first | exact rfl | (show builtinType _ = _; kernel_rfl) | decide +kernel
theorem flt_run_get {M : Model} {A : Around} {s : Shared} {e : Addr} {Q : PySem.Fin → Shared → Prop} {E : Value → Shared → Prop} (hi : Looks M s.heap (isInstance (.ref e) (.type "Exception")) true)
    (h : Q (.done (.ret (.ref s.heap.objs.size))) { s with heap := s.heap.push { cls := .type "method-wrapper", data := .fields #[.builtin "Exception.__init__", .ref e] } }) :
    wpAny M A (Builtin.«wrapper_descriptor.__get__» ⟨[.builtin "Exception.__init__", .ref e, .ref 54], []⟩) Q E s := by
  unfold Builtin.«wrapper_descriptor.__get__»
  refine wpAny_bind (wpAny_of_eq (a := (Value.builtin "Exception.__init__", some (Value.ref e), some (Value.ref 54))) (by kernel_rfl) ?_)
  show wpAny _ _ (_ >>= fun _ => newFields "method-wrapper" [Value.builtin "Exception.__init__", .ref e] >>= fun v => ret v) _ _ _
  refine wpAny_bind ?_
  show wpAny _ _ (isInstance (.ref e) (.type "Exception") >>= fun b => _) _ _ _
  refine wpAny_bind (hi.here ?_)
  refine wpAny_pure (wpAny_bind ?_)
  unfold newFields
  exact wpAny_newObj_type (wpAny_pure h) (by size_fits)
section
variable {prog : Program} {w : World} {A : Around} {E : Value → Shared → Prop} {h : Heap} {g : Array GenState} {d : Drawn} {t : Nat} {os : OsState}
theorem flt_super_ga {so e : Addr} {l₀ l : List Value} {K : Frag} {tk : Tok} {Q : PySem.Fin → Shared → Prop}
    (hso : h.get? so = some { cls := .type "super", dict := none, data := .fields #[.ref 41, .ref e, .ref 54], slots := #[] }) (hno : Looks (model prog w) h (opaqueClassAbove (.ref 54)) none)
    (hC : Looks (model prog w) h (mroOf (.ref 54)) l₀) (hl : (l₀.dropWhile (· != .ref 41)).drop 1 = l) (X : K.In h)
    (hf : alongIn K "__init__" l = some (some (.builtin "Exception.__init__"))) (hi : Looks (model prog w) h (isInstance (.ref e) (.type "Exception")) true) (hxC : e ≠ 54)
    (hq : Q (.done (.ret (.ref h.objs.size))) ⟨h.push { cls := .type "method-wrapper", data := .fields #[.builtin "Exception.__init__", .ref e] }, g, d, t, os⟩) :
    wpAny (model prog w) A (Builtin.«super.__getattribute__» ⟨[.ref so, .str "__init__" tk], []⟩) Q E ⟨h, g, d, t, os⟩ := by
  have hlk := flt_get_slot.lookup
  have hne : (Value.ref e == Value.ref 54) = false := by simp [hxC]
  have hTf : (⟨h, g, d, t, os⟩ : Shared).TypeIs (.builtin "Exception.__init__") "wrapper_descriptor" := flt_init_is _
  have hdt : ({ cls := .type "super", dict := none, data := .fields #[.ref 41, .ref e, .ref 54], slots := #[] } : Obj).data = .fields #[.ref 41, .ref e, .ref 54] := rfl
  have f0 : (#[.ref 41, .ref e, .ref 54] : Array Value)[0]? = some (.ref 41) := rfl
  have f1 : (#[.ref 41, .ref e, .ref 54] : Array Value)[1]? = some (.ref e) := rfl
  have f2 : (#[.ref 41, .ref e, .ref 54] : Array Value)[2]? = some (.ref 54) := rfl
  have hn : (("__init__" : Str) == ("__class__" : Str)) = false := by decide
  have ht := flt_init_type
  unfold Builtin.«super.__getattribute__»
  repeat (first
    | (with_reducible refine wpAny_field hso hdt f0 ?_) | (with_reducible refine wpAny_field hso hdt f1 ?_) | (with_reducible refine wpAny_field hso hdt f2 ?_)
    | (with_reducible refine ks_wpAny_notOpaque hno ?_)
    | (with_reducible refine Looks.at hC ?_; rw [hl])
    | (refine ks_forIn_along X (fun _ _ => rfl) rfl ?_ hf)
    | (with_reducible refine wpAny_typeOf hTf ?_)
    | (with_reducible refine wpAny_call_entry flt_get_slot hTf flt_get_entry ?_ (flt_get_args _ _ _))
    | (with_reducible refine flt_run_get hi ?_)
    | (with_reducible refine ⟨_, rfl, ?_⟩)
    | (simp only [hn, hne, Bool.or_false, Bool.false_eq_true, if_false])
    | wp_step
    | dsimp only)
  all_goals exact hq
theorem flt_getm {so e : Addr} {l₀ l : List Value} {K : Frag} {pl : Sem Bool} {Q : Value × List Value → Shared → Prop}
    (hso : h.get? so = some { cls := .type "super", dict := none, data := .fields #[.ref 41, .ref e, .ref 54], slots := #[] }) (hno : Looks (model prog w) h (opaqueClassAbove (.ref 54)) none)
    (hC : Looks (model prog w) h (mroOf (.ref 54)) l₀) (hl : (l₀.dropWhile (· != .ref 41)).drop 1 = l) (X : K.In h)
    (hf : alongIn K "__init__" l = some (some (.builtin "Exception.__init__"))) (hi : Looks (model prog w) h (isInstance (.ref e) (.type "Exception")) true) (hxC : e ≠ 54)
    (hq : Q (.ref h.objs.size, []) ⟨h.push { cls := .type "method-wrapper", data := .fields #[.builtin "Exception.__init__", .ref e] }, g, d, t + 1, os⟩) :
    wpAny (model prog w) A (getMethod (.ref so) "__init__" pl) Q E ⟨h, g, d, t, os⟩ := by
  have hlk := PySem.F.ks_slot_super_ga.lookup
  have hcan := PySem.F.ks_canon_super_ga
  have hT : ∀ t', (⟨h, g, d, t', os⟩ : Shared).TypeIs (.ref so) "super" := fun _ => ⟨_, hso, rfl⟩
  unfold getMethod
  refine wpAny_bind (wpAny_specialOf (hT _) hlk ?_)
  show wpAny _ _ (if (Manifest.canonical "super.__getattribute__" != "object.__getattribute__") = true then _ else _) _ _ _
  rw [if_pos hcan]
  unfold getAttr getAttrBy
  refine wpAny_bind (wpAny_bind (wpAny_mkText (wpAny_holding (wpAny_bind (wpAny_typeOf (hT _) (wpAny_bind (wpAny_of_eq hlk ?_)))))))
  show wpAny _ _ (getAttrByItsOwn (.ref so) (.str "__init__" t) (.type "super") (.builtin "super.__getattribute__") true false) _ _ _
  unfold getAttrByItsOwn hookBefore callGetattribute boundAndCalled
  refine wpAny_bind (wpAny_of_eq (show (if onTheHeap (.type "super") then typeLookup (.type "super") "__getattr__" else pure none) = pure none from rfl) ?_)
  refine wpAny_bind (wpAny_attempt (wpAny_holding ?_))
  show wpAny _ _ (bindSpecial (.builtin "super.__getattribute__") (.ref so) >>= _) _ _ _
  refine wpAny_bind (wpAny_of_eq (PySem.F.ks_slot_super_ga.bind _) ?_)
  refine wpAny_mono (Q := fun v s' => v = .ref h.objs.size ∧ s' = ⟨h.push { cls := .type "method-wrapper", data := .fields #[.builtin "Exception.__init__", .ref e] }, g, d, t + 1, os⟩) (E := fun _ _ => False)
    (wpAny_call_entry PySem.F.ks_slot_super_ga (hT _) PySem.F.ks_entry_super_ga (flt_super_ga hso hno hC hl X hf hi hxC ⟨_, rfl, rfl, rfl⟩) (PySem.F.ks_gaArgs_super _ _)) (fun v s' hv => ?_) fun _ _ z => z.elim
  obtain ⟨rfl, rfl⟩ := hv
  exact wpAny_pure (wpAny_pure hq)
/-- e.__init__ of the built-in class: the arguments are laid into e -/
theorem flt_base_init {nm q : Str} {N : Addr} {bs : List Value} {hdct : Bool} {sn : List Str} {sub : List Value} {ab : Bool} {col : Option Bool} {dd : Option Addr} {k0 k1 k2 k3 k5 : Option Value} {e mw : Addr} {v : Value} {vs : Array Value} {oe : Obj} {Q : Value → Shared → Prop}
    (hmw : h.get? mw = some { cls := .type "method-wrapper", data := .fields #[.builtin "Exception.__init__", .ref e] })
    (hC : h.get? 54 = some (excClassObj nm q 54 N bs bm54 hdct sn sub ab col dd k0 k1 k2 k3 k5 "Exception.__new__")) (he : h.get? e = some oe) (hcls : oe.cls = .ref 54) (hd : oe.data = .fields vs) (h0 : 0 < vs.size) (hi : Looks (model prog w) h (isInstance (.ref e) (.type "Exception")) true)
    (hq : ∀ h' t', h'.get? e = some { oe with data := .fields (vs.setIfInBounds 0 (.ref t')) } → (∀ b o, b ≠ e → h.get? b = some o → h'.get? b = some o) → Q .none ⟨h', g, d, t, os⟩) :
    wpAny (model prog w) A (call (.ref mw) [v]) Q E ⟨h, g, d, t, os⟩ := by
  refine wpAny_call (codeAny_of_tree ?_)
  show wpAny _ A.in1 (callAny (.ref mw) ⟨[v], []⟩) _ _ _
  simp only [callAny]
  refine wpAny_bind (wpAny_load hmw ?_)
  simp only [show (Value.type "method-wrapper" == Value.type "method" || Value.type "method-wrapper" == Value.type "builtin_function_or_method" || Value.type "method-wrapper" == Value.type "method-wrapper") = true by decide, if_true]
  have F := PySem.F.excBase_Exception
  have hcE : (Value.ref 54 :: bm54).contains (.type "Exception") = true := by decide
  have hshort := F.noStar
  refine bm_if_true (by decide) ?_
  refine wpAny_bind (wpAny_mono (Q := fun _ s' => s' = ⟨h, g, d, t, os⟩) (E := fun _ _ => False) ?_ (fun _ s' hs => ?_) fun _ _ z => z.elim)
  · simp only [checkBoundCall, F.initKind, F.initRow]
    repeat (first | (with_reducible refine wpAny_loadPart_at he ?_; rw [hcls]) | with_reducible refine wpAny_loadPart_at hC ?_ | (with_reducible refine wpAny_isSubtype_exc hC ?_; rw [hcE]) | wp_step)
    exact rfl
  subst hs
  refine wpAny_bind (wpAny_pure (wpAny_pure ?_))
  refine ⟨Code.quiet_builtin _ (by decide +kernel), codeAny_builtin F.initEntry ?_⟩
  show wpAny _ _ (Builtin.«BaseException.__init__» ⟨[.ref e, v], []⟩) _ _ _
  unfold Builtin.«BaseException.__init__» PySem.Builtin.BaseException.bexcPut
  refine wpAny_bind (m := newTuple [v]) ?_
  unfold newTuple
  refine wpAny_newObj_type ?_ (by size_fits)
  have he₁ : (h.push { cls := .type "tuple", data := .seq #[v] }).get? e = some oe := Heap.get?_push_of_some _ he
  refine wpAny_bind (wpAny_bind (wpAny_field he₁ hd (x := vs[0]) (by simp [h0]) ?_))
  refine wpAny_bind (wpAny_setField he₁ hd h0 ?_)
  dsimp only
  have hd₁ : ((Obj.mapFields (·.setIfInBounds 0 (Value.ref h.objs.size))) oe).data = .fields (vs.setIfInBounds 0 (Value.ref h.objs.size)) := Obj.data_mapFields hd _
  have gE : ((h.push { cls := .type "tuple", data := .seq #[v] }).update e (Obj.mapFields (·.setIfInBounds 0 (Value.ref h.objs.size)))).get? e = some { oe with data := .fields (vs.setIfInBounds 0 (.ref h.objs.size)) } := by
    rw [Heap.get?_update_self _ he₁ (Obj.isFreed_of_fields hd₁)]
    obtain ⟨oc, od, odt, osl⟩ := oe
    cases hd
    rfl
  have gO : ∀ b o, b ≠ e → h.get? b = some o → ((h.push { cls := .type "tuple", data := .seq #[v] }).update e (Obj.mapFields (·.setIfInBounds 0 (Value.ref h.objs.size)))).get? b = some o := fun b o hb hbo => by
    rw [Heap.get?_update_other _ _ (Ne.symm hb)]; exact Heap.get?_push_of_some _ hbo
  have last := hq _ _ gE gO
  clear hq
  generalize vs[0] = v0
  cases v0 <;> first | exact wpAny_pure (wpAny_pure last) | exact wpAny_bind (wpAny_holding (wpAny_point (wpAny_pure (wpAny_pure last))))
end
end
section
open Builtin Builtin.ObjectAttr
section
variable {prog : Program} {w : World} {A : Around} {E : Value → Shared → Prop} {h : Heap} {g : Array GenState} {d : Drawn} {t : Nat} {os : OsState}
variable {nm q : Str} {N x : Addr} {bs : List Value} {sn : List Str} {sub : List Value} {ab : Bool} {col : Option Bool} {dd : Option Addr} {k0 k1 k2 k3 k5 : Option Value}
  {mA : Str → Option Value} {name : Str} {v : Value}
theorem flt_check_sa {M : Model} {o : Obj} {nameV : Value} {Q : Unit → Shared → Prop}
    (hC : h.get? 54 = some (excClassObj nm q 54 N bs bm54 true sn sub ab col dd k0 k1 k2 k3 k5 "Exception.__new__")) (hx : h.get? x = some o) (hc : o.cls = .ref 54) (hq : Q () ⟨h, g, d, t, os⟩) :
    wpAny M A (checkBuiltinCall "object.__setattr__" ⟨[.ref x, nameV, v], []⟩) Q E ⟨h, g, d, t, os⟩ := by
  have SF := PySem.F.store_Exception
  have hcB : (Value.ref 54 :: bm54).contains (.type "object") = true := by decide
  have ha := SF.args (.ref x) nameV v
  simp only [checkBuiltinCall, SF.kind, SF.split]
  refine wpAny_bind ?_
  · unfold isInstance
    repeat (first | (with_reducible refine wpAny_loadPart_at hx ?_; rw [hc]) | (with_reducible refine wpAny_isSubtype_exc hC ?_; rw [hcB]) | wp_step)
    exact hq
theorem flt_store_entry {tk : Tok} {Q : PySem.Fin → Shared → Prop} {ns : List Str}
    (hC : h.get? 54 = some (excClassObj nm q 54 N bs bm54 true sn sub ab col dd k0 k1 k2 k3 k5 "Exception.__new__")) (hL : Looks (model prog w) h (typeLookup (.ref 54) name) none) (I : h.Inst x 54 mA)
    (hq : ∀ h' tk', h'.Inst x 54 (fun y => if y = name then some v else mA y) →
      (∀ b o, b ≠ x → (∀ o₀ dx, h.get? x = some o₀ → o₀.dict = some dx → b ≠ dx) → h.get? b = some o → h'.get? b = some o) →
      (∀ o₀, h.get? x = some o₀ → ∃ o₁, h'.get? x = some o₁ ∧ o₁.cls = o₀.cls ∧ o₁.data = o₀.data ∧ o₁.slots = o₀.slots ∧ (o₁.dict = o₀.dict ∨ (o₀.dict = none ∧ ∃ dx, o₁.dict = some dx ∧ h.get? dx = none))) → Q (.done (.ret .none)) ⟨h', g, d, tk', os⟩) (hw : Within mA ns) (hsz : ns.length ≤ sizeLine) :
    wpAny (model prog w) A (Builtin.«object.__setattr__» ⟨[.ref x, .str name tk, v], []⟩) Q E ⟨h, g, d, t, os⟩ := by
  have SF := PySem.F.store_Exception
  obtain ⟨o, hx, hc, hnc, hd⟩ := I
  have hpass := SF.passes (.ref x)
  unfold Builtin.«object.__setattr__»
  repeat (first | rw [refuse_eq] | (rw [refuseLoop_ref, refuseLoop_ref, hpass]) | (with_reducible refine wpAny_loadPart_at hx ?_; rw [hc]) | with_reducible refine wpAny_mroOf_exc hC ?_ | (with_reducible refine Looks.at hL ?_) | wp_step)
  rcases hd with ⟨hdn, hmA⟩ | ⟨dx, hdx, hne, hns⟩
  ·
    rw [hdn, if_neg (by simp [typeHasDict])]
    split
    · rename_i hcd
      cases hcd
    split
    · rename_i c hcd
      exact absurd hcd (hnc c)
    · have hx₁ : (h.push { cls := .type "dict", data := .dict #[] }).get? x = some o := Heap.get?_push_of_some _ hx
      have hxs : x ≠ h.objs.size := Nat.ne_of_lt (Heap.lt_size hx)
      refine wpAny_bind (wpAny_alloc' ?_)
      refine wpAny_bind (wpAny_update' hx₁ ?_)
      refine wpAny_pure ?_
      have hgd : ((h.push { cls := .type "dict", data := .dict #[] }).update x fun o => { cls := o.cls, dict := some h.objs.size, data := o.data, slots := o.slots }).get? h.objs.size
          = some { cls := .type "dict", data := .dict #[] } :=
        (Heap.get?_update_ne _ _ _ _ hxs.symm).trans (Heap.get?_push_at rfl rfl)
      have hnd : ((h.push { cls := .type "dict", data := .dict #[] }).update x fun o => { cls := o.cls, dict := some h.objs.size, data := o.data, slots := o.slots }).Ns h.objs.size (fun _ => none) :=
        ⟨_, #[], _, hgd, rfl, fun e he => absurd he (by simp), fun _ => rfl⟩
      show wpAny _ _ (storeInDict h.objs.size (.str name tk) name v) _ _ _
      unfold storeInDict newKeyGuard
      refine wpAny_bind (wpAny_pure (wpAny_bind (wpAny_nsSet1 (Heap.Ns1.of_empty hnd) fun h' hn' hs => ?_)))
      obtain ⟨oD, esD, epD, hoD, hdD, hcD⟩ := hn'.count (Within.cons name v Within.nil)
      refine wpAny_bind (wpAny_lookBehind hoD (by rw [hdD]; exact pastItsLine_dict (Nat.le_trans hcD (by rw [List.length_cons, List.length_nil, sizeLine_eq]; omega))) ?_)
      wp_walk
      have hx' : h'.get? x = some { cls := o.cls, dict := some h.objs.size, data := o.data, slots := o.slots } := ?_
      refine hq h' _ ⟨{ cls := o.cls, dict := some h.objs.size, data := o.data, slots := o.slots }, hx', hc, hnc, .inr ⟨h.objs.size, rfl, hxs.symm, ?_⟩⟩ (fun b ob hbx _ hb => ?_)
        (fun o₀ h₀ => by obtain rfl : o = o₀ := Option.some.inj (hx.symm.trans h₀); exact ⟨_, hx', rfl, rfl, rfl, .inr ⟨hdn, _, rfl, Heap.get?_none_of_le (Nat.le_refl _)⟩⟩)
      · obtain ⟨o', es, ep, e1, e2, e3, eu, e4⟩ := hn'
        exact ⟨o', es, ep, e1, e2, e3, eu, fun y => by rw [e4 y]; by_cases hy : y = name <;> simp [hy, hmA]⟩
      · exact (hs.2 b (Nat.ne_of_lt (Heap.lt_size hb))).trans ((Heap.get?_update_ne _ _ _ _ hbx).trans (Heap.get?_push_of_some _ hb))
      · refine (hs.2 x hxs).trans (Heap.get?_update_self _ hx₁ ?_)
        have hfr := (Heap.get?_some_iff.mp hx).2
        obtain ⟨oc, od, odt, osl⟩ := o
        cases odt <;> first | rfl | exact hfr
  ·
    rw [hdx]
    refine wpAny_pure ?_
    show wpAny _ _ (storeInDict dx (.str name tk) name v) _ _ _
    unfold storeInDict newKeyGuard
    refine wpAny_bind (wpAny_pure (wpAny_bind (wpAny_nsSet1 hns fun h' hn' hs => ?_)))
    obtain ⟨oD, esD, epD, hoD, hdD, hcD⟩ := hn'.count (Within.cons name v hw)
    refine wpAny_bind (wpAny_lookBehind hoD (by rw [hdD]; exact pastItsLine_dict (Nat.le_trans hcD (by rw [List.length_cons]; omega))) ?_)
    wp_walk
    refine hq h' _ ⟨o, (hs.2 x hne.symm).trans hx, hc, hnc, .inr ⟨dx, hdx, hne, hn'⟩⟩ (fun b ob _ hbd hb => ?_)
      (fun o₀ h₀ => ⟨o₀, (hs.2 x hne.symm).trans h₀, rfl, rfl, rfl, .inl rfl⟩)
    exact (hs.2 b (hbd o dx hx hdx)).trans hb
theorem flt_store {Q : Unit → Shared → Prop} {ns : List Str}
    (hC : h.get? 54 = some (excClassObj nm q 54 N bs bm54 true sn sub ab col dd k0 k1 k2 k3 k5 "Exception.__new__")) (hS : Looks (model prog w) h (typeLookup (.ref 54) "__setattr__") (some (.builtin "object.__setattr__"))) (hL : Looks (model prog w) h (typeLookup (.ref 54) name) none) (I : h.Inst x 54 mA)
    (hq : ∀ h' tk', h'.Inst x 54 (fun y => if y = name then some v else mA y) →
      (∀ b o, b ≠ x → (∀ o₀ dx, h.get? x = some o₀ → o₀.dict = some dx → b ≠ dx) → h.get? b = some o → h'.get? b = some o) →
      (∀ o₀, h.get? x = some o₀ → ∃ o₁, h'.get? x = some o₁ ∧ o₁.cls = o₀.cls ∧ o₁.data = o₀.data ∧ o₁.slots = o₀.slots ∧ (o₁.dict = o₀.dict ∨ (o₀.dict = none ∧ ∃ dx, o₁.dict = some dx ∧ h.get? dx = none))) → Q () ⟨h', g, d, tk', os⟩) (hw : Within mA ns) (hsz : ns.length ≤ sizeLine) :
    wpAny (model prog w) A (setAttr (.ref x) name v) Q E ⟨h, g, d, t, os⟩ := by
  have SF := PySem.F.store_Exception
  obtain ⟨o, hx, hc, _⟩ := id I
  have f3 := SF.slot.bind (.ref x)
  unfold setAttr callSpecial? specialOf
  repeat (any_goals (first | assumption | (with_reducible refine wpAny_loadPart_at hx ?_; rw [hc]) | (with_reducible refine Looks.at hS ?_) | wp_step))
  refine codeAny_call_builtin SF.slot.plain SF.entry (flt_check_sa hC hx hc (flt_store_entry hC hL I (fun h' tk' I' hk hsame => ?_) hw hsz))
  repeat (any_goals (first | assumption | wp_step))
  exact hq h' tk' I' hk hsame
end
end
section
open Builtin Builtin.ObjectAttr
theorem frE {g h h' : Heap} {L e : Addr} {m : Str → Option Value} (F : Fr g L h m) (hL : L ≠ e) (hg : g.get? e = none) (k : ∀ b o, b ≠ e → h.get? b = some o → h'.get? b = some o) : Fr g L h' m :=
  ⟨F.ns.at' fun o q => k _ o hL q, fun b o q => k b o (fun z => by rw [z, hg] at q; cases q) (F.keep b o q), F.above⟩
/-- the exception at hand, its __init__ run or under way -/
abbrev excO (t : Addr) (od : Option Addr) : Obj := { cls := .ref 54, dict := od, data := .fields #[.ref t, .none, .none, .none, .bool false, .none] }
theorem enterS {K : Frag} {p : Program} {loose : List Str} {mean : ExcName → Option Value} {mg mb : Str → Option Value} {prog : Program} {w : World} {A : Around} {s : Shared} {h₀ : Heap} {R : Result → Shared → Prop}
    {name qual : Str} {params : Arguments} {body : List Stmt} {scope : Scope} {dV kV doc pm cdv ct oc : Value} {an od : Option Addr} {osl : Array (Option Value)} {f cc : Addr} {args : Args} {binds : List (Str × Value)}
    (mods : List (Addr × Obj)) (hroom : A.depth < recursionLimit) (X : K.In h₀) (T : Top p loose mean mg mb h₀) (st : h₀.StaysIn s.heap)
    (hmods : ∀ q ∈ mods, s.heap.get? q.1 = some q.2 ∧ h₀.get? q.1 = none)
    (ho : K.lookup f = some ⟨oc, od, .func (ksFn name qual params body scope dV kV doc pm an cdv ct cc), osl⟩) (hcd : codeIn K cdv qual = true)
    (hbind : BindsTo s (ksFn name qual params body scope dV kV doc pm an cdv ct cc) args binds) (hloc : ∀ y ∈ binds, scope.names.lookup y.1 = some .local)
    (h : ∀ g L h₁, (∀ b o, g.get? b = some o → s.heap.get? b = some o) → (∀ b o, s.heap.get? b = some o → b ∉ mods.map (·.1) → g.get? b = some o) → h₀.StaysIn g →
      Fr g L h₁ (fun y => binds.reverse.lookup y) → News g L h₁ mods → K.In g → Top p loose mean mg mb g →
      _root_.PySem.wpAt (model prog w) (A.deeper (ksEnv qual scope L f cdv cc)) (.func body (ksEnv qual scope L f cdv cc)) (execs body (ksEnv qual scope L f cdv cc))
        (fun fl s' => R (.ok (.ret (match fl with | .ret v => v | _ => .none))) s')
        (fun e s' => wpAny (model prog w) (A.deeper (ksEnv qual scope L f cdv cc)) (leaving (ksEnv qual scope L f cdv cc) e) (fun _ s'' => R (.error e) s'') (fun e' s'' => R (.error e') s'') s')
        { s with heap := h₁, toks := s.toks + binds.length })
    (hco : scope.isCoroutine = false := by rfl) (hgen : scope.isGenerator = false := by rfl) (hk : scope.kind = .function := by rfl)
    (hcell : ∀ x ∈ scope.names, x.2 ≠ .cell := by decide) : codeAny (model prog w) A (.call (.ref f) args) R s := by
  refine ks_codeAny_call_defAt (fd := ksFn name qual params body scope dV kV doc pm an cdv ct cc) (body := body) (binds := binds) hroom (st _ _ (X _ _ ho)) rfl (T.nolimit.keeps st) (codeRec_of (X.keeps st) hcd) rfl hbind hcell hloc (fun h₁ hns hk₁ => ?_) hco hgen hk
  have nm : ∀ b o, h₀.get? b = some o → b ∉ mods.map (·.1) := fun b o e q => by
    obtain ⟨p, hp, rfl⟩ := List.mem_map.mp q
    rw [(hmods p hp).2] at e; cases e
  obtain ⟨H, hH⟩ : ∃ H, H = hideAll s.heap (mods.map Prod.fst) := ⟨_, rfl⟩
  have st' : h₀.StaysIn H := fun b o e => hH ▸ hideAll_get _ (st b o e) (nm b o e)
  have T' : Top p loose mean mg mb H := T.keeps st'
  have X' : K.In H := X.keeps st'
  exact h H s.heap.objs.size h₁ (fun b o e => of_hideAll (mods.map Prod.fst) (hH ▸ e)) (fun b o e n => hH ▸ hideAll_get _ e n) st'
    ⟨hns, fun b o e => hk₁ b o (of_hideAll (mods.map Prod.fst) (hH ▸ e)), Nat.le_of_eq (hH ▸ hideAll_size _ _)⟩
    (fun p hp => ⟨hk₁ _ _ (hmods p hp).1, Nat.ne_of_lt (Heap.lt_size (hmods p hp).1), hH ▸ hideAll_none _ (List.mem_map_of_mem hp)⟩) X' T'
abbrev c54 : Obj := excClassObj "TableFault" "TableFault" 54 53 [.ref 41] bm54 true [] [] false none none (some (.ref 45)) none (some (.str "TableFault" 231)) (some (.str "TableFault" 239)) (some (.bool true)) "Exception.__new__"
theorem c54_at {p : Params} {h : Heap} (X : (hd.heap_39 p).In h) : h.get? 54 = some c54 := X _ _ (by kernel_rfl)
theorem flt_isExc {M : Model} {p : Params} {h : Heap} {e t : Addr} {od : Option Addr} (X : (hd.heap_39 p).In h) (hx : h.get? e = some (excO t od)) : Looks M h (isInstance (.ref e) (.type "Exception")) true := by
  have t1 : Looks M h (typeOf (.ref e)) (.ref 54) := (Looks.ld hx).andThen .now
  exact t1.andThen (looks_subIn X (by k_is))
theorem flt_callWith (ex : Addr) {M : Model} {A : Around} {E : Value → Shared → Prop} {s : Shared} {env : Env} {pos : Pos} {mw : Addr} {e : Expr} {Q : Value → Shared → Prop}
    (h : wpAny M A (eval e env) (fun v s₁ => s₁.heap.get? mw = some { cls := .type "method-wrapper", data := .fields #[.builtin "Exception.__init__", .ref ex] } ∧ wpAny M A (call (.ref mw) [v]) Q E s₁) E s)
    (he : starEach [e] env = [(false, eval e env)] := by rfl) : wpAny M A (callWith pos (.ref mw) [] (backTo pos (starEach [e] env)) []) Q E s := by
  rw [he]
  show wpAny M A (callWith pos (.ref mw) [] [(false, eval e env)] []) Q E s
  unfold callWith
  refine wpAny_bind (wpAny_holding (evalArgs_plain (spliced_cons (wpAny_mono h (fun v s₁ h₁ => spliced_nil (wpAny_bind (wpAny_standAt ?_))) fun _ _ x => x))))
  obtain ⟨ho, hc⟩ := h₁
  refine wpAny_bind (m := keeperOf (.ref mw)) ?_
  unfold keeperOf
  refine wpAny_bind (wpAny_load ho ?_)
  simp only [show (Value.type "method-wrapper" != Value.type "method") = true by decide, show (Value.type "method-wrapper" == Value.type "builtin_function_or_method" || Value.type "method-wrapper" == Value.type "method-wrapper") = true by decide, if_true]
  refine wpAny_pure ?_
  exact wpAny_bind (wpAny_mono hc (fun r s₂ hr => wpAny_bind (wpAny_holding (wpAny_point (wpAny_pure hr)))) fun _ _ x => x)
theorem flt_init {w : World} {mean : ExcName → Option Value} {mg mb : Str → Option Value} {A : Around} {h₀ : Heap} {s : Shared} {R : Result → Shared → Prop} {e t0 : Addr} {vW : Value}
    (hroom : A.depth + 1 < recursionLimit) (hun : A.units + 200 < cLine) (X : (hd.heap_39 w.params).In h₀) (T : TT mean mg mb h₀) (st : h₀.StaysIn s.heap)
    (nE : h₀.get? e = none) (hE : s.heap.get? e = some (excO t0 none))
    (hR : ∀ h' tk t' od, (∀ b o, b ≠ e → s.heap.get? b = some o → h'.get? b = some o) → h'.get? e = some (excO t' od) → R (.ok (.ret .none)) { s with heap := h', toks := tk }) :
    codeAny (model PySem.Challenge.rw_nu0146_01.row.prog w) A (.call (.ref 31) ⟨[.ref e, vW], []⟩) R s := by
  w_on
  have XS : (hd.heap_39 w.params).In s.heap := X.keeps st
  refine' enterS [(e, excO t0 none)] (binds := [("self", .ref e), ("what", vW), ("at", ?at0)]) (by omega) X T st ?hm ?k6 ?k7 (binds_K XS ?kd1 ?kd2 ?kd3 ?kd4 ?kd5) (locs ?kB) ?_ ?c2 ?c3 ?c4 ?c5
  (case k6 => k_is)
  (case hm => simp only [List.forall_mem_cons]; exact ⟨⟨hE, nE⟩, fun _ h => nomatch h⟩)
  (case k7 => k_is)
  (case kd1 => rfl)
  (case kd2 => k_is)
  (case kd3 => rfl)
  (case kd4 => rfl)
  (case kd5 => rfl)
  (case c5 => decide)
  (case kB => rfl)
  (case c2 => rfl)
  (case c3 => rfl)
  (case c4 => rfl)
  intro g L' h₁ hg hg' st' F N KX T'
  clear X T st nE hE XS hg st'
  try dsimp only at F
  have lift : ∀ (h' : Heap) (m : Str → Option Value), Fr g L' h' m → ∀ b o, b ≠ e → s.heap.get? b = some o → h'.get? b = some o := fun _ _ F' b o n1 q => F'.keep b o (hg' b o q (by simp [n1]))
  clear hg'
  try dsimp only
  try k_fold
  k_steps
  have eN := N (e, excO t0 none) (.head _)
  have I : InstAt h₁ e (excO t0 none) 54 none := ⟨eN.1, rfl, rfl, trivial⟩
  refine ks_node F KX N T' (by k_is) rfl rfl I (by k_is) rfl (by first | rfl | decide +kernel) (by k_is) (by k_is) (by k_is) (by k_is) (by decide) rfl rfl rfl rfl (by decide +kernel) (by first | boot_by_name | rfl | kernel_rfl) ?_
  intro so h₂ F₂ N₂ _
  have X₂ : (hd.heap_39 w.params).In h₂ := KX.keeps F₂.keep
  have hC₂ := c54_at X₂
  have hso := (N₂ _ (.head _)).1
  have he₂ := (N₂ _ (.tail _ (.head _))).1
  have ne54 : e ≠ 54 := by
    rintro rfl
    have z := he₂.symm.trans hC₂
    cases z
  refine flt_getm hso (looks_opaque X₂ (by k_is)) (l₀ := .ref 54 :: bm54) ?_ rfl X₂ (by kernel_rfl) (flt_isExc X₂ he₂) ne54 ?_
  · exact fun A Q E s k q => by obtain ⟨_, _, _, _, _⟩ := s; exact wpAny_mroOf_exc (k _ _ hC₂) q
  have F₃ := F₂.push { cls := .type "method-wrapper", data := .fields #[.builtin "Exception.__init__", .ref e] }
  have N₃ := News.push F₂ N₂ { cls := .type "method-wrapper", data := .fields #[.builtin "Exception.__init__", .ref e] }
  have X₃ := KX.keeps F₃.keep
  have hmw := (N₃ _ (.head _)).1
  have he₃ := (N₃ _ (.tail _ (.tail _ (.head _)))).1
  dsimp only at hmw he₃
  refine flt_callWith e ?_
  refine wpAny_Name (wpAny_loadName_local (by rfl) (by rfl) F₃.ns (v := vW) (by rfl) ?_) (by decide)
  refine ⟨hmw, flt_base_init hmw (c54_at X₃) he₃ rfl rfl (by simp) (flt_isExc X₃ he₃) fun h₄ t₄ he₄ k₄ => ?_⟩
  have hLe : L' ≠ e := Ne.symm eN.2.1
  have hge : g.get? e = none := eN.2.2
  have F₄ := frE F₃ hLe hge k₄
  have N₄ : News g L' h₄ [(e, excO t₄ none)] := fun p hp => by
    rcases List.mem_cons.mp hp with rfl | hp
    · exact ⟨he₄, eN.2⟩
    · cases hp
  clear he₃ hmw X₃ N₃ F₃ he₂ hso hC₂ X₂ N₂ F₂ I N F k₄
  show _root_.PySem.wpAt _ _ _ (execs _ _) _ _ _
  refine _root_.PySem.wpAt_of_wpAny ?_
  k_steps
  have X₄ := KX.keeps F₄.keep
  refine flt_store (mA := fun _ => none) (ns := []) (c54_at X₄) (looks_findIn X₄ (by k_is)) (looks_findIn X₄ (by k_is)) ⟨_, he₄, rfl, (fun c z => by cases z), .inl ⟨rfl, fun _ => rfl⟩⟩ (fun h₅ tk₅ I₅ k₅ s₅ => ?_) Within.nil (Nat.zero_le _)
  obtain ⟨⟨oc, od, oda, osl⟩, he₅, c1, c2, c3, c4⟩ := s₅ _ he₄
  dsimp only at c1 c2 c3 c4
  subst c1 c2 c3
  obtain ⟨dx, rfl, hdx⟩ : ∃ dx, od = some dx ∧ h₄.get? dx = none := by
    rcases c4 with z | ⟨_, dx, z1, z2⟩
    · obtain ⟨_, hx, _, _, hdd⟩ := I₅
      rw [he₅] at hx; cases hx
      rcases hdd with ⟨_, hmm⟩ | ⟨dx, z1, _, _⟩
      · have z9 := hmm "what"; simp at z9
      · exact absurd (z.symm.trans z1) (by simp)
    · exact ⟨dx, z1, z2⟩
  have k₅' : ∀ b o, b ≠ e → h₄.get? b = some o → h₅.get? b = some o := fun b o hb hbo => k₅ b o hb (fun o₀ dx' z1 z2 => by rw [he₄] at z1; cases z1; cases z2) hbo
  have F₅ := frE F₄ hLe hge k₅'
  have N₅ : News g L' h₅ [(e, excO t₄ (some dx))] := fun p hp => by
    rcases List.mem_cons.mp hp with rfl | hp
    · exact ⟨he₅, eN.2⟩
    · cases hp
  have gdx : g.get? dx = none := by
    cases z : g.get? dx with
    | none => rfl
    | some o => have := F₄.keep _ _ z; rw [hdx] at this; cases this
  clear N₄ X₄ k₅ s₅ c4
  dsimp only
  k_steps
  have X₅ := KX.keeps F₅.keep
  refine flt_store (ns := ["what"]) (c54_at X₅) (looks_findIn X₅ (by k_is)) (looks_findIn X₅ (by k_is)) I₅ (fun h₆ tk₆ I₆ k₆ s₆ => ?_) (Within.cons "what" vW Within.nil) (by size_fits)
  obtain ⟨⟨oc, od, oda, osl⟩, he₆, c1, c2, c3, c4⟩ := s₆ _ he₅
  dsimp only at c1 c2 c3 c4
  subst c1 c2 c3
  have k₆' : ∀ b o, b ≠ e → s.heap.get? b = some o → h₆.get? b = some o := fun b o hb hbo => by
    have z := lift _ _ F₄ b o hb hbo
    exact k₆ b o hb (fun o₀ dx' z1 z2 => by rw [he₅] at z1; cases z1; cases z2; rintro rfl; rw [hdx] at z; cases z) (k₅' b o hb z)
  k_steps
  exact hR _ _ _ _ k₆' he₆
end
section
open Builtin Builtin.ObjectAttr
theorem flt_make {w : World} {mean : ExcName → Option Value} {mg mb : Str → Option Value} {A : Around} {h₀ : Heap} {s : Shared} {Q : Value → Shared → Prop} {E : Value → Shared → Prop} {vW : Value}
    (hroom : A.depth + 2 < recursionLimit) (hun : A.units + 210 < cLine) (X : (hd.heap_39 w.params).In h₀) (T : TT mean mg mb h₀) (st : h₀.StaysIn s.heap)
    (hQ : ∀ h' tk e t' od, (∀ b o, s.heap.get? b = some o → h'.get? b = some o) → s.heap.get? e = none → h'.get? e = some (excO t' od) → Q (.ref e) { s with heap := h', toks := tk }) :
    wpAny (model PySem.Challenge.rw_nu0146_01.row.prog w) A (call (.ref 54) [vW]) Q E s := by
  w_on
  obtain ⟨h, g, d, t, os⟩ := s
  dsimp only at st hQ
  have XS := X.keeps st
  have hC := c54_at XS
  have f1 := tc_lookup
  have f2 := tc_bind (.ref 54)
  have hT : (⟨h, g, d, t, os⟩ : Shared).TypeIs (.ref 54) "type" := ⟨_, hC, rfl⟩
  refine wpAny_call (codeAny_of_tree ?_)
  show wpAny _ _ (callAny (.ref 54) _) _ _ _
  repeat (any_goals (first | assumption | with_reducible refine wpAny_loadPart_at hC ?_ | wp_step))
  refine ⟨rfl, ?_⟩
  refine codeAny_call_builtin_at (Code.quiet_builtin _ (by decide +kernel)) entry_typeCall (wpAny_check_type_call_sub hC ?_)
  repeat (first | with_reducible refine wpAny_loadPart_at hC ?_ | with_reducible refine wpAny_madeBy_exc hC ?_ | wp_step)
  refine codeAny_call_builtin_code (Code.quiet_builtin _ PySem.F.excBase_Exception.quiet) (flt_check_new hC ?_)
  refine flt_new hC ?_ (by show [vW].length ≤ _; rw [sizeLine_eq]; simp)
  show wpAny _ _ _ _ _ _
  have k₁ : ∀ b o, h.get? b = some o → ((h.push { cls := .type "tuple", data := .seq [vW].toArray }).push (excO h.objs.size none)).get? b = some o := fun b o e => Heap.get?_push_of_some _ (Heap.get?_push_of_some _ e)
  have hC₁ := k₁ _ _ hC
  have X₁ := XS.keeps k₁
  have hget : ((h.push { cls := .type "tuple", data := .seq [vW].toArray }).push (excO h.objs.size none)).get? (h.objs.size + 1) = some (excO h.objs.size none) := by heap_get
  have hcC : (Value.ref 54 :: bm54).contains (.ref 54) = true := by decide
  have hL := looks_findIn (M := model PySem.Challenge.rw_nu0146_01.row.prog w) X₁ (t := .ref 54) (name := "__init__") (r := some (.ref 31)) (by k_is)
  have hB := bind_fn (M := model PySem.Challenge.rw_nu0146_01.row.prog w) X₁ (f := 31) (.ref (h.objs.size + 1)) (by k_is)
  have t1 : Looks (model PySem.Challenge.rw_nu0146_01.row.prog w) ((h.push { cls := .type "tuple", data := .seq [vW].toArray }).push (excO h.objs.size none)) (typeOf (.ref (h.objs.size + 1))) (.ref 54) := (Looks.ld hget).andThen .now
  have hI : Looks (model PySem.Challenge.rw_nu0146_01.row.prog w) ((h.push { cls := .type "tuple", data := .seq [vW].toArray }).push (excO h.objs.size none)) (isInstance (.ref (h.objs.size + 1)) (.ref 54)) true := t1.andThen (looks_subIn X₁ (by k_is))
  refine wpAny_bind (Looks.at hI ?_)
  refine bm_if_false rfl ?_
  refine wpAny_bind (wpAny_holding ?_)
  unfold callSpecial? specialOf
  refine wpAny_bind (wpAny_bind (Looks.at t1 (Looks.at hL ?_)))
  dsimp only
  refine wpAny_holding (wpAny_bind (Looks.at hB (wpAny_bind ?_)))
  refine wpAny_call ?_
  refine flt_init (t0 := h.objs.size) ?rm ?un X T ?st ?nE hget ?_
  case rm => exact (show A.depth + 1 + 1 < recursionLimit by omega)
  case un => exact (show A.units + 1 + 200 < cLine by omega)
  case st => exact fun b o q => k₁ _ _ (st b o q)
  case nE =>
    cases z : h₀.get? (h.objs.size + 1) with
    | none => rfl
    | some o => exact absurd (Heap.lt_size (st _ _ z)) (by show ¬ (h.objs.size + 1 < h.objs.size); omega)
  intro h' tk t' od k' he'
  refine wpAny_pure ?_
  dsimp only
  refine bm_if_false (by decide) ?_
  refine wpAny_pure ?_
  exact hQ h' tk _ t' od (fun b o q => k' _ _ (Nat.ne_of_lt (Nat.lt_succ_of_lt (Heap.lt_size q))) (k₁ _ _ q)) (Heap.get?_none_of_le (Nat.le_succ _)) he'
end
section
open Builtin Builtin.ObjectAttr
theorem flt_raiseStmt {M : Model} {A : Around} {E : Value → Shared → Prop} {s : Shared} {env : Env} {x : Sem Value} {Q : Flow → Shared → Prop} (hh : A.handled = none)
    (h : wpAny M A x (fun v s₁ => ∃ e t od, v = .ref e ∧ s₁.heap.get? 54 = some c54 ∧ s₁.heap.get? e = some (excO t od) ∧ E (.ref e) s₁) E s) :
    wpAny M A (raiseStmt env (some x) none) Q E s := by
  have hcB : (Value.ref 54 :: bm54).contains (.type "BaseException") = true := by decide
  unfold raiseStmt
  refine wpAny_bind (wpAny_mono h (fun v s₁ h₁ => ?_) fun _ _ x => x)
  obtain ⟨e, t, od, rfl, hC, he, hE⟩ := h₁
  obtain ⟨hp, g, d, tk, os⟩ := s₁
  repeat (first | with_reducible refine wpAny_loadPart_at he ?_ | with_reducible refine wpAny_loadPart_at hC ?_ | (with_reducible refine wpAny_isSubtype_exc hC ?_; rw [hcB]) | wp_step)
  exact wpAny_raiseNew_none hh hE
theorem flt_Raise {w : World} {mean : ExcName → Option Value} {mg mb : Str → Option Value} {A : Around} {h₀ : Heap} {s : Shared} {E : Value → Shared → Prop} {env : Env} {x : Str} {np cpos pos : Pos} {arg : Expr} {Q : Flow → Shared → Prop}
    (hroom : A.depth + 2 < recursionLimit) (hun : A.units + 210 < cLine) (X : (hd.heap_39 w.params).In h₀) (T : TT mean mg mb h₀) (hh : A.handled = none)
    (h : wpAny (model PySem.Challenge.rw_nu0146_01.row.prog w) A (eval (.Name x np) env) (fun f s₁ => f = .ref 54 ∧ wpAny (model PySem.Challenge.rw_nu0146_01.row.prog w) A (eval arg env) (fun v s₂ => h₀.StaysIn s₂.heap ∧
      ∀ h' tk e t' od, (∀ b o, s₂.heap.get? b = some o → h'.get? b = some o) → s₂.heap.get? e = none → h'.get? e = some (excO t' od) → E (.ref e) { s₂ with heap := h', toks := tk }) E s₁) E s)
    (he : starEach [arg] env = [(false, eval arg env)] := by rfl) :
    wpAny (model PySem.Challenge.rw_nu0146_01.row.prog w) A (exec (.Raise (some (.Call (.Name x np) [arg] [] cpos)) none pos) env) Q E s := by
  rw [arm_exec_Raise]
  simp only [evalOpt, Option.map]
  refine wpAny_bind (wpAny_standAt (flt_raiseStmt hh ?_))
  refine wpAny_bind (wpAny_mono (wpAny_Call_ofName (wpAny_mono h (fun f s₁ h₁ => ?_) fun _ _ x => x)) (fun v s₃ h₃ => wpAny_bind (wpAny_standAt (wpAny_pure h₃))) fun _ _ x => x)
  obtain ⟨rfl, h₁⟩ := h₁
  rw [he]
  show wpAny _ A (callWith cpos (.ref 54) [] [(false, eval arg env)] []) _ _ _
  unfold callWith
  refine wpAny_bind (wpAny_holding (evalArgs_plain (spliced_cons (wpAny_mono h₁ (fun v s₂ h₂ => spliced_nil (wpAny_bind (wpAny_standAt ?_))) fun _ _ x => x))))
  obtain ⟨hst, hE⟩ := h₂
  have hC := c54_at (X.keeps hst)
  obtain ⟨hp, g, d, tk, os⟩ := s₂
  refine wpAny_bind (wpAny_keeperOf_exc hC ?_)
  refine wpAny_bind (flt_make hroom hun X T hst fun h' tk e t' od hk hn he' => ?_)
  refine wpAny_bind (wpAny_holding (wpAny_point (wpAny_pure ?_)))
  exact ⟨e, t', od, rfl, hk _ _ hC, he', hE _ _ _ _ _ hk hn he'⟩
end
section
/-- what laid has gathered -/
structure LS where
  offs : List Int
  at_ : List UInt8 → Option Int
  out : Array UInt8
def stepL (begin : Int) (sh : Bool) (st : LS) : Option (Array UInt8) → Option LS
  | none => some ⟨st.offs ++ [0], st.at_, st.out⟩
  | some b => match sh, st.at_ b.toList with
    | true, some x => some ⟨st.offs ++ [x], st.at_, st.out⟩
    | _, _ => if begin + (st.out.size : Int) > 65535 then none else some ⟨st.offs ++ [begin + (st.out.size : Int)], fun k => if k = b.toList then some (begin + (st.out.size : Int)) else st.at_ k, st.out ++ b⟩
def runL (begin : Int) (sh : Bool) : LS → List (Option (Array UInt8)) → Option LS
  | st, [] => some st
  | st, p :: ps => (stepL begin sh st p).bind fun st' => runL begin sh st' ps
def LS.init : LS := ⟨[], fun _ => none, #[]⟩

/-- what _law_laid has gathered -/
structure WS where
  offs : List Int
  met : List (Int × Array UInt8)
  data : Array UInt8
def eqPart (sh : Bool) (p : Option (Array UInt8)) (bb : Array UInt8) : Bool := match p with
  | none => false
  | some b => (bb.toList == b.toList) && sh
def early (sh : Bool) (st : WS) (p : Option (Array UInt8)) : List Int := (st.met.filter fun q => eqPart sh p q.2).map (·.1)
def stepW (begin : Int) (sh : Bool) (st : WS) (p : Option (Array UInt8)) : Option WS := match p with
  | none => some ⟨st.offs ++ [0], st.met, st.data⟩
  | some b => match early sh st (some b) with
    | x :: _ => some ⟨st.offs ++ [x], st.met, st.data⟩
    | [] => if begin + (st.data.size : Int) > 65535 then none else some ⟨st.offs ++ [begin + (st.data.size : Int)], st.met ++ [(begin + (st.data.size : Int), b)], st.data ++ b⟩
theorem stepW_hit {begin : Int} {sh : Bool} {st : WS} {b : Array UInt8} {x : Int} {r : List Int} (h : early sh st (some b) = x :: r) : stepW begin sh st (some b) = some ⟨st.offs ++ [x], st.met, st.data⟩ := by simp only [stepW, h]
theorem stepW_none {begin : Int} {sh : Bool} {st : WS} {b : Array UInt8} (h : early sh st (some b) = []) (hg : begin + (st.data.size : Int) > 65535) : stepW begin sh st (some b) = none := by simp only [stepW, h, if_pos hg]
theorem stepW_some {begin : Int} {sh : Bool} {st : WS} {b : Array UInt8} (h : early sh st (some b) = []) (hg : ¬ begin + (st.data.size : Int) > 65535) : stepW begin sh st (some b) = some ⟨st.offs ++ [begin + (st.data.size : Int)], st.met ++ [(begin + (st.data.size : Int), b)], st.data ++ b⟩ := by simp only [stepW, h, if_neg hg]
def runW (begin : Int) (sh : Bool) : WS → List (Option (Array UInt8)) → Option WS
  | st, [] => some st
  | st, p :: ps => (stepW begin sh st p).bind fun st' => runW begin sh st' ps
def WS.init : WS := ⟨[], [], #[]⟩
theorem stepL_cases (begin : Int) (sh : Bool) (st : LS) (b : Array UInt8) :
    (sh = true ∧ ∃ x, st.at_ b.toList = some x ∧ stepL begin sh st (some b) = some ⟨st.offs ++ [x], st.at_, st.out⟩) ∨
    ((sh = false ∨ (sh = true ∧ st.at_ b.toList = none)) ∧ stepL begin sh st (some b) =
      if begin + (st.out.size : Int) > 65535 then none else some ⟨st.offs ++ [begin + (st.out.size : Int)], fun k => if k = b.toList then some (begin + (st.out.size : Int)) else st.at_ k, st.out ++ b⟩) := by
  cases sh with
  | false => exact .inr ⟨.inl rfl, rfl⟩
  | true =>
    cases h : st.at_ b.toList with
    | none => exact .inr ⟨.inr ⟨rfl, rfl⟩, by simp [stepL, h]⟩
    | some x => exact .inl ⟨rfl, x, rfl, by simp [stepL, h]⟩
theorem find_map {K : Type} [DecidableEq K] (k k' : K) (v : Value) : ∀ kvs : List (K × Value),
    ((kvs.map (fun kv => if kv.1 = k then (kv.1, v) else kv)).find? fun kv => kv.1 = k').map (·.2) =
      if k' = k then (if kvs.any (fun kv => kv.1 = k) then some v else none) else (kvs.find? fun kv => kv.1 = k').map (·.2)
  | [] => by simp
  | kv :: r => by
    have ih := find_map k k' v r
    by_cases h1 : kv.1 = k
    · by_cases h2 : k' = k
      · subst h2; simp [h1]
      · have h3 : ¬ (kv.1 = k') := fun q => h2 (q.symm.trans h1)
        have h4 : ¬ (k = k') := fun q => h2 q.symm
        simp only [List.map_cons, h1, if_true, List.find?_cons, h4, decide_false]
        rw [ih]
        simp [h2, h4]
    · by_cases h2 : k' = k
      · subst h2
        simp only [List.map_cons, h1, if_false, List.find?_cons, decide_false, List.any_cons, Bool.false_or]
        rw [ih]; simp
      · simp only [List.map_cons, h1, if_false, List.find?_cons, List.any_cons]
        by_cases h3 : kv.1 = k'
        · simp [h3, h2]
        · simp only [h3, decide_false]
          rw [ih]; simp [h2]
theorem valueAt_stored {K : Type} [DecidableEq K] (kvs : List (K × Value)) (k k' : K) (v : Value) : valueAt (stored kvs k v) k' = if k' = k then some v else valueAt kvs k' := by
  unfold valueAt stored
  by_cases h : kvs.any (fun kv => kv.1 = k) = true
  · rw [if_pos h, find_map, h]; rfl
  · rw [if_neg h, List.find?_append]
    by_cases h2 : k' = k
    · subst h2
      have : kvs.find? (fun kv => decide (kv.1 = k')) = none := by
        rw [List.find?_eq_none]
        intro x hx hxk
        exact h (List.any_eq_true.mpr ⟨x, hx, hxk⟩)
      rw [this]; simp
    · have h3 : ¬ (k = k') := fun q => h2 q.symm
      simp [h2, h3]
      try (cases kvs.find? _ <;> rfl)
/-- the dict's pairs tell the offsets -/
def ValsAt (kvs : List (List UInt8 × Value)) (D : List UInt8 → Option Int) : Prop := ∀ k, match D k with
  | none => valueAt kvs k = none
  | some x => ∃ t, valueAt kvs k = some (.int x t)
theorem ValsAt.nil : ValsAt [] (fun _ => none) := fun _ => rfl
theorem ValsAt.stored {kvs D} (h : ValsAt kvs D) (b : List UInt8) (x : Int) (t : Tok) : ValsAt (stored kvs b (.int x t)) (fun k => if k = b then some x else D k) := by
  intro k
  rw [valueAt_stored]
  by_cases e : k = b
  · simp [e]
  · have := h k
    simp only [e, if_false]
    exact this
end
section
theorem enterC {K : Frag} {p : Program} {loose : List Str} {mean : ExcName → Option Value} {mg mb : Str → Option Value} {prog : Program} {w : World} {A : Around} {s : Shared} {h₀ : Heap} {R : Result → Shared → Prop}
    {name qual : Str} {params : Arguments} {body : List Stmt} {scope : Scope} {dV kV doc pm cdv ct oc : Value} {an od : Option Addr} {osl : Array (Option Value)} {f : Addr} {args : Args} {binds : List (Str × Value)}
    (mods : List (Addr × Obj)) (hroom : A.depth < recursionLimit) (X : K.In h₀) (T : Top p loose mean mg mb h₀) (st : h₀.StaysIn s.heap)
    (hmods : ∀ q ∈ mods, s.heap.get? q.1 = some q.2 ∧ h₀.get? q.1 = none)
    (ho : K.lookup f = some ⟨oc, od, .func (fnOf name qual params body scope dV kV doc pm an cdv ct), osl⟩) (hcd : codeIn K cdv qual = true)
    (hbind : BindsTo s (fnOf name qual params body scope dV kV doc pm an cdv ct) args binds) (hloc : ∀ y ∈ binds, scope.names.lookup y.1 = some .local)
    (h : ∀ g L h₁, L = s.heap.objs.size → (∀ b o, g.get? b = some o → s.heap.get? b = some o) → (∀ b o, s.heap.get? b = some o → b ∉ mods.map (·.1) → g.get? b = some o) → h₀.StaysIn g →
      Fr g L h₁ (fun y => binds.reverse.lookup y) → News g L h₁ mods → K.In g → Top p loose mean mg mb g →
      wpC (model prog w) (A.deeper (envOf qual scope L f cdv)) (execs body (envOf qual scope L f cdv))
        (fun fl s' => R (.ok (.ret (match fl with | .ret v => v | _ => .none))) s')
        (fun e s' => wpAny (model prog w) (A.deeper (envOf qual scope L f cdv)) (leaving (envOf qual scope L f cdv) e) (fun _ s'' => R (.error e) s'') (fun e' s'' => R (.error e') s'') s')
        { s with heap := h₁, toks := s.toks + binds.length })
    (hco : scope.isCoroutine = false := by rfl) (hgen : scope.isGenerator = false := by rfl) (hk : scope.kind = .function := by rfl)
    (hcell : ∀ x ∈ scope.names, x.2 ≠ .cell := by decide) : codeC (model prog w) A (.call (.ref f) args) R s := by
  refine codeC_call_def (fd := fnOf name qual params body scope dV kV doc pm an cdv ct) (body := body) (binds := binds) hroom (st _ _ (X _ _ ho)) rfl (T.nolimit.keeps st) (codeRec_of (X.keeps st) hcd) rfl hbind hcell hloc (fun h₁ hns hk₁ => ?_) hco hgen hk
  have nm : ∀ b o, h₀.get? b = some o → b ∉ mods.map (·.1) := fun b o e q => by
    obtain ⟨p, hp, rfl⟩ := List.mem_map.mp q
    rw [(hmods p hp).2] at e; cases e
  obtain ⟨H, hH⟩ : ∃ H, H = hideAll s.heap (mods.map Prod.fst) := ⟨_, rfl⟩
  have st' : h₀.StaysIn H := fun b o e => hH ▸ hideAll_get _ (st b o e) (nm b o e)
  have T' : Top p loose mean mg mb H := T.keeps st'
  have X' : K.In H := X.keeps st'
  exact h H s.heap.objs.size h₁ rfl (fun b o e => of_hideAll (mods.map Prod.fst) (hH ▸ e)) (fun b o e n => hH ▸ hideAll_get _ e n) st'
    ⟨hns, fun b o e => hk₁ b o (of_hideAll (mods.map Prod.fst) (hH ▸ e)), Nat.le_of_eq (hH ▸ hideAll_size _ _)⟩
    (fun p hp => ⟨hk₁ _ _ (hmods p hp).1, Nat.ne_of_lt (Heap.lt_size (hmods p hp).1), hH ▸ hideAll_none _ (List.mem_map_of_mem hp)⟩) X' T'

theorem fr_congr {g h : Heap} {L : Addr} {m m' : Str → Option Value} (F : Fr g L h m) (e : ∀ y, m y = m' y) : Fr g L h m' := by
  have : m = m' := funext e
  subst this; exact F
/-- one object of the ledger turned -/
inductive Upd1 (D : Addr) (oD : Obj) : List (Addr × Obj) → (Obj → List (Addr × Obj)) → Prop
  | nil : Upd1 D oD [] (fun _ => [])
  | it {r f} : Upd1 D oD r f → Upd1 D oD ((D, oD) :: r) (fun o => (D, o) :: f o)
  | oth {a : Addr} {x : Obj} {r f} : @Ne Nat a D → Upd1 D oD r f → Upd1 D oD ((a, x) :: r) (fun o => (a, x) :: f o)
theorem Upd1.spec {D : Addr} {oD : Obj} {news : List (Addr × Obj)} {f : Obj → List (Addr × Obj)} (U : Upd1 D oD news f) (o : Obj) : ∀ p ∈ f o, p = (D, o) ∨ (p ∈ news ∧ p.1 ≠ D) := by
  induction U with
  | nil => intro p hp; cases hp
  | it _ ih =>
    intro p hp
    rcases List.mem_cons.mp hp with rfl | hp
    · exact .inl rfl
    · exact (ih p hp).imp id fun q => ⟨.tail _ q.1, q.2⟩
  | oth h1 _ ih =>
    intro p hp
    rcases List.mem_cons.mp hp with rfl | hp
    · exact .inr ⟨.head _, h1⟩
    · exact (ih p hp).imp id fun q => ⟨.tail _ q.1, q.2⟩
theorem put1 {g h h' : Heap} {L D : Addr} {m : Str → Option Value} {news : List (Addr × Obj)} {f : Obj → List (Addr × Obj)} {oD oD' : Obj} (F : Fr g L h m) (N : News g L h news)
    (mD : (D, oD) ∈ news) (U : Upd1 D oD news f) (hs : ∀ b o, b ≠ D → h.get? b = some o → h'.get? b = some o) (hD : h'.get? D = some oD') : Fr g L h' m ∧ News g L h' (f oD') := by
  have z := N _ mD
  refine ⟨frE F (Ne.symm z.2.1) z.2.2 hs, fun p hp => ?_⟩
  rcases U.spec oD' p hp with rfl | ⟨q, n⟩
  · exact ⟨hD, z.2⟩
  · exact ⟨hs _ _ n (N p q).1, (N p q).2⟩

/-- the values of parts -/
def PartIs (v : Value) (p : Option (Array UInt8)) : Prop := match p with
  | none => v = .none
  | some b => ∃ t, v = .bytes b t ∧ b.size ≤ 4
inductive PartsAre : List Value → List (Option (Array UInt8)) → Prop
  | nil : PartsAre [] []
  | cons {v p vs ps} : PartIs v p → PartsAre vs ps → PartsAre (v :: vs) (p :: ps)
theorem PartsAre.len {xs ps} (h : PartsAre xs ps) : xs.length = ps.length := by
  induction h with
  | nil => rfl
  | cons _ _ ih => rw [List.length_cons, List.length_cons, ih]
abbrev bK (w : World) := bytesKind PySem.Challenge.rw_nu0146_01.row.prog w
/-- an object that is a dict of these pairs, wherever it lies -/
def DP (w : World) (o : Obj) (kvs : List (List UInt8 × Value)) : Prop := ∀ (h : Heap) (D : Addr), h.get? D = some o → h.DictOf (bK w) D kvs
theorem dp_of {w : World} {h : Heap} {D : Addr} {kvs : List (List UInt8 × Value)} (hd : h.DictOf (bK w) D kvs) : ∃ o, h.get? D = some o ∧ DP w o kvs := by
  obtain ⟨o, es, ep, ho, r⟩ := hd
  exact ⟨o, ho, fun h' D' e => ⟨o, es, ep, e, r⟩⟩

abbrev laidM (begin : Int) (t3 : Tok) (pa : Addr) (sh : Bool) (B D O : Addr) (q p : Option Value) : Str → Option Value := fun y =>
  if y = "place" then q else if y = "part" then p else if y = "out" then some (.ref B) else if y = "places" then some (.ref D) else if y = "offsets" then some (.ref O) else
    List.lookup y ([("begin", .int begin t3), ("parts", .ref pa), ("is_shared", .bool sh)] : List (Str × Value)).reverse
theorem laidM_part (begin : Int) (t3 : Tok) (pa : Addr) (sh : Bool) (B D O : Addr) (q p : Option Value) (v : Value) : ∀ y : Str, (if y = "part" then some v else laidM begin t3 pa sh B D O q p y) = laidM begin t3 pa sh B D O q (some v) y := fun y => by
  unfold laidM
  by_cases h1 : y = "place"
  · subst h1; rfl
  · by_cases h2 : y = "part"
    · subst h2; rfl
    · simp only [if_neg h1, if_neg h2]
theorem laidM_place (begin : Int) (t3 : Tok) (pa : Addr) (sh : Bool) (B D O : Addr) (q p : Option Value) (u v : Value) : ∀ y : Str, (if y = "place" then some u else if y = "part" then some v else laidM begin t3 pa sh B D O q p y) = laidM begin t3 pa sh B D O (some u) (some v) y := fun y => by
  unfold laidM
  by_cases h1 : y = "place"
  · subst h1; rfl
  · by_cases h2 : y = "part"
    · subst h2; rfl
    · simp only [if_neg h1, if_neg h2]
theorem ints_append1 {vs : List Value} {is : List Int} (h : IntsAre vs is) (i : Int) (t : Tok) : IntsAre (vs ++ [.int i t]) (is ++ [i]) := by
  induction h with
  | nil => exact .cons _ _ .nil
  | cons _ _ _ ih => exact .cons _ _ ih
local macro_rules | `(tactic| walk_at "call builtin:list.append") => `(tactic| (k_here; refine' append_K ?k1 ?k2 ?k3 ?_ ?z; (case k1 => k_asm); (case k2 => k_asm); (case k3 => k_upd); (case z => (first | size_fits | (rw [sizeLine_eq]; simp only [List.size_toArray]; omega) | (rw [sizeLine_eq]; omega))); intro h' F' N'))
theorem laid_raw {w : World} {mean : ExcName → Option Value} {mg mb : Str → Option Value} {A : Around} {h₀ : Heap} {s : Shared} {R : Result → Shared → Prop} {pa : Addr} {xs : List Value} {e0 : Nat} {ps : List (Option (Array UInt8))} {begin : Int} {t3 : Tok} {sh : Bool} {pos : List Value}
    (hroom : A.depth + 4 < recursionLimit) (hun : A.units + 300 < cLine) (hh : A.handled = none) (X : (hd.heap_39 w.params).In h₀) (T : TT mean mg mb h₀) (st : h₀.StaysIn s.heap)
    (hp : s.heap.get? pa = some (W.listOf xs.toArray e0)) (hxs : PartsAre xs ps) (hl : ps.length ≤ 8) (hb0 : 0 ≤ begin) (hb1 : begin ≤ 65535)
    (hpos : pos = [.int begin t3, .ref pa, .bool sh] ∨ (pos = [.int begin t3, .ref pa] ∧ sh = true))
    {base : Heap} {outer : List Env} (hfr : A.frames = some outer) (hfl : s.heap.FunFrames base outer) (hkb : base.StaysIn s.heap)
    (hR1 : ∀ h' tk T O offs e1 st t, (∀ b o, s.heap.get? b = some o → h'.get? b = some o) → s.heap.get? T = none → s.heap.get? O = none → runL begin sh LS.init ps = some st → IntsAre offs st.offs → st.out.size ≤ 32 → offs.length ≤ 8 →
      h'.get? T = some { cls := .type "tuple", data := .seq #[.ref O, .bytes st.out t] } → h'.get? O = some (W.listOf offs.toArray e1) → R (.ok (.ret (.ref T))) { s with heap := h', toks := tk })
    (hR2 : ∀ h' tk e a0, runL begin sh LS.init ps = none → Heap.FlyingW base outer e (.ref 54) a0 h' → s.heap.UpToSlots h' → R (.error (.ref e)) { s with heap := h', toks := tk }) :
    codeC (model PySem.Challenge.rw_nu0146_01.row.prog w) A (.call (.ref 78) ⟨pos, []⟩) R s := by
  w_on
  refine' enterC [] (binds := [("begin", .int begin t3), ("parts", .ref pa), ("is_shared", .bool sh)]) (by omega) X T st ?hm ?k6 ?k7 ?k9 (locs ?kB) ?_ ?c2 ?c3 ?c4 ?c5
  (case k6 => k_is)
  (case hm => exact fun _ h => nomatch h)
  (case k7 => k_is)
  (case k9 => (rcases hpos with rfl | ⟨rfl, rfl⟩ <;> (refine' binds_K (X.keeps st) ?kd1 ?kd2 ?kd3 ?kd4 ?kd5; (case kd1 => rfl); (case kd2 => k_is); (case kd3 => rfl); (case kd4 => rfl); (case kd5 => rfl))))
  (case c5 => decide)
  (case kB => rfl)
  (case c2 => rfl)
  (case c3 => rfl)
  (case c4 => rfl)
  intro g L' h₁ hL hg hg' st' F N KX T'
  have hxl : xs.length = ps.length := hxs.len
  have gp : g.get? pa = some (W.listOf xs.toArray e0) := hg' _ _ hp (by simp)
  have lift : ∀ (h' : Heap) (m : Str → Option Value), Fr g L' h' m → ∀ b o, s.heap.get? b = some o → h'.get? b = some o := fun _ _ F' b o q => F'.keep b o (hg' b o q (by simp))
  have fresh : ∀ b, g.get? b = none → s.heap.get? b = none := fun b hb => by
    cases z : s.heap.get? b with
    | none => rfl
    | some o => rw [hg' b o z (by simp)] at hb; cases hb
  clear X T st hg' st' hg hp hpos
  try dsimp only at F
  try dsimp only
  try k_fold
  refine C_execs_cons (C_any ?_)
  k_steps
  refine C_execs_cons (C_any ?_)
  k_steps
  rename_i O _ _ _ D _ oD lo hs _ _ _ hOD h₂ F₂ N₂
  show wpC _ _ _ _ _ _
  refine C_execs_cons ?_
  refine C_Assign ?_
  refine C_CallType0 (T := "bytearray") ?_
  k_steps
  rename_i F₂'
  clear hs
  rename_i hsi _
  obtain ⟨es, ep, hex, hdat, _, hprs, _⟩ := hsi
  have hD0 : DP w oD [] := fun h' D' e => by
    have hes : es = #[] := by
      have := hprs.length
      simpa using this
    subst hes
    exact ⟨oD, #[], ep, e, hex, hdat, fun e he => by simp at he, .nil, by simp⟩
  clear hex hdat hprs
  refine ba_new fun h₃ hB kB => ?_
  obtain ⟨F₃, N₃, lB⟩ := ks_newsPush F₂' N₂ rfl hB kB
  obtain ⟨B, hBe⟩ : ∃ B : Addr, B = h₂.objs.size := ⟨_, rfl⟩
  dsimp only at F₃ N₃ lB ⊢
  rw [← hBe] at N₃ lB ⊢
  clear hB kB N₂ F₂' hBe
  have hDB : @LT.lt Nat _ D B := lB (D, oD) (.head _)
  have hOB : @LT.lt Nat _ O B := lB (O, _) (.tail _ (.head _))
  clear lB
  k_steps
  show wpC _ _ _ _ _ _
  refine C_execs_cons (C_For ?_)
  k_steps
  rename_i h₄ F₄ N₄
  refine wpAny_pyIter_list (items := xs.toArray) ⟨_, F₄.keep _ _ gp, rfl, _, rfl⟩ ?_
  obtain ⟨it, hite⟩ : ∃ it : Addr, it = h₄.objs.size := ⟨_, rfl⟩
  have hitO : (h₄.push { cls := .type "list_iterator", data := .fields #[.ref pa, .int 0 0] }).get? it = some { cls := .type "list_iterator", data := .fields #[.ref pa, .int 0 0] } := hite ▸ Heap.get?_push_size _ rfl
  obtain ⟨F₅, N₅, lI⟩ := ks_newsPush (s := { s with heap := h₄ }) F₄ N₄ hite hitO (fun b o e => Heap.get?_push_of_some _ e)
  dsimp only at F₅ N₅ lI ⊢
  rw [← hite]
  have hBI : @LT.lt Nat _ B it := lI (B, _) (.head _)
  clear lI hitO hite N₄ F₄
  generalize h₄.push { cls := .type "list_iterator", data := .fields #[.ref pa, .int 0 0] } = h₅ at F₅ N₅ ⊢
  refine codeC_forLoopI (fun n s' => ∃ (h' : Heap) (tk : Nat) (q p : Option Value) (i : Nat) (vs : List Value) (qs : List (Option (Array UInt8))) (offs : List Value) (e1 : Nat) (st : LS) (oD oI : Obj) (kvs : List (List UInt8 × Value)),
    s' = { s with heap := h', toks := tk } ∧ Fr g L' h' (laidM begin t3 pa sh B D O q p) ∧
    News g L' h' [(it, oI), (B, baO st.out), (D, oD), (O, W.listOf offs.toArray e1)] ∧ (∀ (h : Heap) (a : Addr), h.get? a = some oI → h.IsListIter a pa i) ∧ DP w oD kvs ∧ ValsAt kvs st.at_ ∧ kvs.length ≤ i ∧ st.out.size ≤ 4 * i ∧
    IntsAre offs st.offs ∧ offs.length = i ∧ xs.drop i = vs ∧ PartsAre vs qs ∧ runL begin sh st qs = runL begin sh LS.init ps ∧ n = vs.length + 1 ∧ i + vs.length ≤ 8) ?turn (xs.length + 1) ?init
  case init =>
    refine ⟨h₅, _, none, none, 0, xs, ps, [], 0, LS.init, oD, _, [], rfl, ?_, N₅, ?_, hD0, .nil, Nat.le_refl _, Nat.le_refl _, .nil, rfl, rfl, hxs, rfl, rfl, by omega⟩
    · refine fr_congr F₅ fun y => ?_
      unfold laidM
      by_cases h1 : y = "place"
      · subst h1; rfl
      · by_cases h2 : y = "part"
        · subst h2; rfl
        · rw [if_neg h1, if_neg h2]
    · exact fun h a e => ⟨_, e, rfl, rfl⟩
  case turn =>
    clear N₅ F₅ hD0 oD
    intro I₁ hI₁
    rintro n s' ⟨h', tk, q, p, i, vs, qs, offs, e1, st, oD, oI, kvs, rfl, F, N, hI, hD, hV, hk8, ho4, hi, hol, hdr, hpa, hrun, rfl, hi8⟩
    have hit := hI _ _ (N _ (.head _)).1
    have hlst : h'.IsList pa xs.toArray := ⟨_, F.keep _ _ gp, rfl, _, rfl⟩
    cases hpa with
    | nil =>
      simp only [List.length_nil, Nat.add_zero] at hi8
      refine wpAny_pyNext_list_end (items := xs.toArray) hh hit hlst ?_ fun h₆ he₆ => ?_
      · have : xs.length ≤ i := by simpa using hdr
        simp [this]
      have F₆ := frE F (Ne.symm (N _ (.head _)).2.1) (N _ (.head _)).2.2 he₆
      have N₆ : News g L' h₆ [(B, baO st.out), (D, oD), (O, W.listOf offs.toArray e1)] := fun p hp => by
        have z := N p (.tail _ hp)
        refine ⟨he₆ _ _ ?_ z.1, z.2⟩
        simp only [List.mem_cons, List.not_mem_nil, or_false] at hp
        rcases hp with rfl | rfl | rfl
        · exact Nat.ne_of_lt hBI
        · exact Nat.ne_of_lt (Nat.lt_trans hDB hBI)
        · exact Nat.ne_of_lt (Nat.lt_trans hOB hBI)
      clear N F he₆ hlst hit
      show wpC _ _ _ _ _ _
      refine C_execs_cons (C_any ?_)
      unfold laidM at F₆
      k_steps
      refine bytes_of_ba (N₆ _ (.head _)).1 (by omega) fun t' k' => ?_
      dsimp only
      k_steps
      rename_i hT F₇ N₇ _ _
      exact hR1 _ _ _ O offs e1 st t' (lift _ _ F₇) (fresh _ (N₇ _ (.head _)).2.2) (fresh _ (N₇ (O, _) (.tail _ (.tail _ (.tail _ (.head _))))).2.2) hrun.symm hi (by omega) (by omega) (N₇ _ (.head _)).1 (N₇ (O, _) (.tail _ (.tail _ (.tail _ (.head _))))).1
    | @cons v pp vs qs hpi hpr =>
      simp only [List.length_cons] at hi8
      have hlt : i < xs.length := by
        rcases Nat.lt_or_ge i xs.length with z | z
        · exact z
        · rw [List.drop_eq_nil_of_le z] at hdr; cases hdr
      have hx : xs[i]? = some v := by
        have := congrArg List.head? hdr
        rwa [List.head?_drop, List.head?_cons] at this
      have hdr' : xs.drop (i + 1) = vs := by
        have := congrArg List.tail hdr
        rwa [List.tail_drop, List.tail_cons] at this
      refine wpAny_pyNext_list_item (items := xs.toArray) hit hlst (by simpa using hx) fun h₆ hit₆ hs₆ => ?_
      obtain ⟨oI', hoI, hcI, hdI⟩ := hit₆
      have hI' : ∀ (h : Heap) (a : Addr), h.get? a = some oI' → h.IsListIter a pa (i + 1) := fun h a e => ⟨oI', e, hcI, hdI⟩
      obtain ⟨F₆, N₆⟩ := put1 F N (.head _) (.it (.oth (Nat.ne_of_lt hBI) (.oth (Nat.ne_of_lt (Nat.lt_trans hDB hBI)) (.oth (Nat.ne_of_lt (Nat.lt_trans hOB hBI)) .nil)))) (fun b o hb q => (hs₆.2 b hb).trans q) hoI
      try dsimp only at N₆
      clear hs₆ hoI hcI hdI hI hit hlst N F
      unfold laidM at F₆
      dsimp only
      k_steps
      rename_i h₇ F₇ N₇
      cases pp with
      | none =>
        obtain rfl : v = .none := hpi
        refine C_execs_cons (C_any ?_)
        k_steps
        rename_i h₈ F₈ N₈
        rw [List.push_toArray] at N₈
        refine C_execs_nil ?_
        exact ⟨vs.length + 1, by simp, hI₁ _ _ ⟨h₈, _, q, some .none, i + 1, vs, qs, _, e1 + 1, ⟨st.offs ++ [0], st.at_, st.out⟩, oD, oI', kvs, rfl, fr_congr F₈ (laidM_part _ _ _ _ _ _ _ _ _ _), N₈, hI', hD, hV, by omega, by (show st.out.size ≤ _); omega,
          ints_append1 hi 0 _, by simp [hol], hdr', hpr, by rw [← hrun]; rfl, rfl, by omega⟩⟩
      | some b =>
        obtain ⟨tb, rfl, hbz⟩ := hpi
        refine C_execs_cons ?_
        refine C_If (C_any ?_)
        k_steps
        show wpC _ _ _ _ _ _
        refine C_execs_cons ?_
        refine C_If (C_any ?_)
        have isb : ∀ t, (bK w).is b.toList (.bytes b t) = true := fun t => by simp [bK, bytesKind, isBytes]
        have dD : h₇.DictOf (bK w) D kvs := hD _ _ (N₇ (D, oD) (.tail _ (.tail _ (.head _)))).1
        have hVb := hV b.toList
        rcases stepL_cases begin sh st b with ⟨rfl, x, hat, hstep⟩ | ⟨hne, hstep⟩
        · rw [hat] at hVb
          obtain ⟨tx, hvx⟩ := hVb
          k_steps
          refine wpAny_in_of (isb tb) lo dD.mapOf ?_
          simp only [hvx, Option.isSome_some]
          k_steps
          refine C_execs_cons (C_any ?_)
          k_steps
          refine subscriptTail_builtin dD.mapOf.typeIs PySem.F.slot_dict_getitem.lookup (wpAny_getItem_of (isb tb) dD.mapOf hvx ?_) (by with_unfolding_all rfl) (by intro _; with_unfolding_all rfl)
          k_steps
          rename_i h₈ F₈ N₈
          rw [List.push_toArray] at N₈
          refine C_execs_nil (C_execs_nil (C_execs_nil ?_))
          exact ⟨vs.length + 1, by simp, hI₁ _ _ ⟨h₈, _, q, some (.bytes b tb), i + 1, vs, qs, _, e1 + 1, ⟨st.offs ++ [x], st.at_, st.out⟩, oD, oI', kvs, rfl, fr_congr F₈ (laidM_part _ _ _ _ _ _ _ _ _ _), N₈, hI', hD, hV, by omega, by (show st.out.size ≤ _); omega,
            ints_append1 hi x _, by simp [hol], hdr', hpr, by rw [← hrun]; simp [runL, hstep], rfl, by omega⟩⟩
        · have test : (sh = false) ∨ (sh = true ∧ valueAt kvs b.toList = none) := by
            rcases hne with q | ⟨q, hat⟩
            · exact .inl q
            · rw [hat] at hVb; exact .inr ⟨q, hVb⟩
          clear hne hVb
          rcases test with rfl | ⟨rfl, hvn⟩
          (case' inl => k_steps)
          (case' inr => (k_steps; refine wpAny_in_of (isb tb) lo dD.mapOf ?_; simp only [hvn, Option.isSome_none]; k_steps))
          all_goals (
            refine C_execs_cons (C_any ?_)
            k_steps
            refine ba_len (N₇ (B, _) (.tail _ (.head _))).1 (by omega) ?_
            k_steps
            rename_i h₈ F₈ N₈
            dsimp only at F₈ ⊢
            clear dD
            refine C_execs_cons (C_If (C_any ?_))
            k_steps)
          all_goals (rename_i hgt)
          all_goals first
            | (have hsome := hstep.trans (if_neg hgt); clear hstep)
            | (
            have hnone : stepL begin _ st (some b) = none := hstep.trans (if_pos hgt)
            refine C_execs_cons (C_any (wpAny_passesOwn PassesOwn.leaving ?_))
            refine flt_Raise (by simp only [depth_deeper]; omega) (by simp only [units_deeper]; omega) KX T' hh ?_
            k_steps
            · rename Fr _ _ _ _ => F₉
              exact F₉.keep
            · rename_i h₉ tk₉ e₉ t₉ od₉ k₉ n₉ he₉
              dsimp only at k₉ n₉ ⊢
              rename Fr _ _ _ _ => F₉
              have hk9 : ∀ b o, s.heap.get? b = some o → h₉.get? b = some o := fun b o q => k₉ b o (lift _ _ F₉ b o q)
              have hen : base.get? e₉ = none := by
                cases z : base.get? e₉ with
                | none => rfl
                | some o => rw [lift _ _ F₉ _ _ (hkb _ _ z)] at n₉; cases n₉
              obtain ⟨oL, es9, ep9, hoL, hdL, _⟩ := F₉.ns
              refine wpAny_leaving_firstW (base := base) (outer := outer) (L := L') (oe := excO t₉ od₉) (a0 := .ref t₉) (by show Option.map _ _ = _; rw [hfr]; rfl)
                ⟨(fun z => by cases z), ⟨L', oL, rfl, by rw [hL]; exact hkb.fresh, k₉ _ _ hoL, fun vs z => by rw [hdL] at z; cases z⟩, hfl.of_keeps fun b o q _ => ⟨o, hk9 b o q, rfl⟩⟩ rfl he₉ (fun b o q => hk9 b o (hkb b o q)) hen rfl rfl rfl fun h' hL9 => ?_
              obtain ⟨k1, ⟨_, _, k2⟩, k3, k4⟩ := hL9
              exact hR2 h' _ e₉ (.ref t₉) (by rw [← hrun]; simp [runL, hnone]) ⟨k1, hen, k2, k3⟩ (fun b o q hn => k4 b o (hk9 b o q) hn))
          all_goals (
            refine C_execs_nil ?_
            show wpC _ _ _ _ _ _
            refine C_execs_cons (C_any ?_)
            k_steps
            rename News _ _ _ _ => N₉
            refine wpAny_setItem_pairs (kvs := kvs) (isb tb) (hD _ _ (N₉ (D, oD) (.tail _ (.tail _ (.head _)))).1) (fun h₉ hd₉ hs₉ => ?_) (by rw [sizeLine_eq]; omega)
            rename Fr _ _ _ _ => F₉
            obtain ⟨oD', hoD, hD'⟩ := dp_of hd₉
            obtain ⟨Fa, Na⟩ := put1 F₉ N₉ (.tail _ (.tail _ (.head _))) (.oth (Nat.ne_of_gt (Nat.lt_trans hDB hBI)) (.oth (Nat.ne_of_gt hDB) (.it (.oth (Nat.ne_of_lt hOD) .nil)))) (fun b o hb q => (hs₉.2 b hb).trans q) hoD
            clear N₉ F₉ hs₉ hd₉ hoD
            try dsimp only at Na
            show wpC _ _ _ _ _ _
            refine C_execs_cons (C_any ?_)
            k_steps
            rename_i hb9 _ Nb
            rw [List.push_toArray] at Nb
            show wpC _ _ _ _ _ _
            refine C_execs_cons (C_Expr (C_CallMethod (id := "bytearray.extend") (self := .ref B) ?_))
            k_steps
            refine ba_method (Nb (B, _) (.tail _ (.head _))).1 ⟨rfl, ?_⟩
            k_steps
            refine ba_extend (Nb (B, _) (.tail _ (.head _))).1 (by omega) fun hc hBc hsc => ⟨rfl, ?_⟩
            rename Fr _ _ _ _ => Fb
            obtain ⟨Fc, Nc⟩ := put1 Fb Nb (.tail _ (.head _)) (.oth (Nat.ne_of_gt hBI) (.it (.oth (Nat.ne_of_lt hDB) (.oth (Nat.ne_of_lt hOB) .nil)))) (fun b o hb q => (hsc.2 b hb).trans q) hBc
            refine C_execs_nil (C_execs_nil (C_execs_nil ?_))
            exact ⟨vs.length + 1, by simp, hI₁ _ _ ⟨hc, _, some _, some (.bytes b tb), i + 1, vs, qs, _, e1 + 1, ⟨st.offs ++ [begin + (st.out.size : Int)], fun k => if k = b.toList then some (begin + (st.out.size : Int)) else st.at_ k, st.out ++ b⟩, oD', oI', _, rfl,
              fr_congr Fc (laidM_place _ _ _ _ _ _ _ _ _ _ _), Nc, hI', hD', hV.stored _ _ _, Nat.le_trans (stored_length_le _ _ _) (Nat.succ_le_succ hk8), by (show (st.out ++ b).size ≤ _); rw [Array.size_append]; omega,
              ints_append1 hi _ _, by simp [hol], hdr', hpr, by rw [← hrun]; simp [runL, hsome], rfl, by omega⟩⟩)
end
section
/-- the two ways of laying agree -/
def Rel (sh : Bool) (l : LS) (w : WS) : Prop :=
  l.offs = w.offs ∧ l.out = w.data ∧ (sh = true → ∀ k, l.at_ k = ((w.met.filter fun q => q.2.toList == k).map (·.1)).head?)
theorem early_true (w : WS) (b : Array UInt8) : early true w (some b) = (w.met.filter fun q => q.2.toList == b.toList).map (·.1) := by
  unfold early eqPart; simp
theorem early_false (w : WS) (b : Array UInt8) : early false w (some b) = [] := by
  unfold early eqPart; simp
theorem step_same (begin : Int) (sh : Bool) (l : LS) (w : WS) (p : Option (Array UInt8)) (h : Rel sh l w) :
    (stepL begin sh l p = none ∧ stepW begin sh w p = none) ∨ ∃ l' w', stepL begin sh l p = some l' ∧ stepW begin sh w p = some w' ∧ Rel sh l' w' := by
  obtain ⟨h1, h2, h3⟩ := h
  cases p with
  | none => exact .inr ⟨_, _, rfl, rfl, by show _ ++ _ = _ ++ _; rw [h1], h2, h3⟩
  | some b =>
    have els : ∀ (_ : early sh w (some b) = []) (_ : stepL begin sh l (some b) = if begin + (l.out.size : Int) > 65535 then none else some ⟨l.offs ++ [begin + (l.out.size : Int)], fun k => if k = b.toList then some (begin + (l.out.size : Int)) else l.at_ k, l.out ++ b⟩),
        (stepL begin sh l (some b) = none ∧ stepW begin sh w (some b) = none) ∨ ∃ l' w', stepL begin sh l (some b) = some l' ∧ stepW begin sh w (some b) = some w' ∧ Rel sh l' w' := by
      intro he hs
      rw [h2] at hs
      by_cases hg : begin + (w.data.size : Int) > 65535
      · exact .inl ⟨hs.trans (if_pos hg), stepW_none he hg⟩
      · refine .inr ⟨_, _, hs.trans (if_neg hg), stepW_some he hg, by show _ ++ _ = _ ++ _; rw [h1], rfl, fun hsh k => ?_⟩
        subst hsh
        rw [early_true] at he
        show (if k = b.toList then _ else _) = _
        rw [List.filter_append, List.map_append]
        by_cases hk : k = b.toList
        · subst hk
          rw [if_pos rfl, he]
          simp
        · have hbk : (b.toList == k) = false := by
            rw [beq_eq_false_iff_ne]; exact fun z => hk z.symm
          rw [if_neg hk, h3 rfl k]
          simp [hbk]
    rcases stepL_cases begin sh l b with ⟨rfl, x, hx, hs⟩ | ⟨hne, hs⟩
    · have he := h3 rfl b.toList
      rw [hx] at he
      cases hq : (w.met.filter fun q => q.2.toList == b.toList).map (·.1) with
      | nil => rw [hq] at he; cases he
      | cons y r =>
        rw [hq] at he
        cases he
        exact .inr ⟨_, _, hs, stepW_hit (by rw [early_true]; exact hq), by show _ ++ _ = _ ++ _; rw [h1], h2, h3⟩
    · rcases hne with rfl | ⟨rfl, hx⟩
      · exact els (early_false _ _) hs
      · refine els ?_ hs
        rw [early_true]
        have he := h3 rfl b.toList
        rw [hx] at he
        cases hq : (w.met.filter fun q => q.2.toList == b.toList).map (·.1) with
        | nil => rfl
        | cons y r => rw [hq] at he; cases he
theorem run_same (begin : Int) (sh : Bool) : ∀ (ps : List (Option (Array UInt8))) (l : LS) (w : WS), Rel sh l w →
    (runL begin sh l ps = none ∧ runW begin sh w ps = none) ∨ ∃ l' w', runL begin sh l ps = some l' ∧ runW begin sh w ps = some w' ∧ l'.offs = w'.offs ∧ l'.out = w'.data
  | [], l, w, h => .inr ⟨l, w, rfl, rfl, h.1, h.2.1⟩
  | p :: ps, l, w, h => by
    rcases step_same begin sh l w p h with ⟨a, b⟩ | ⟨l', w', a, b, h'⟩
    · exact .inl ⟨by rw [runL, a]; rfl, by rw [runW, b]; rfl⟩
    · rw [runL, runW, a, b]
      exact run_same begin sh ps l' w' h'
theorem run_init (begin : Int) (sh : Bool) (ps : List (Option (Array UInt8))) :
    (runL begin sh LS.init ps = none ∧ runW begin sh WS.init ps = none) ∨ ∃ l' w', runL begin sh LS.init ps = some l' ∧ runW begin sh WS.init ps = some w' ∧ l'.offs = w'.offs ∧ l'.out = w'.data :=
  run_same begin sh ps _ _ ⟨rfl, rfl, fun _ _ => rfl⟩
end
section
theorem C_CallK {M : Model} {A : Around} {E : Value → Shared → Prop} {s : Shared} {env : Env} {x : Str} {p pos : Pos} {e : Expr} {rest : List Expr} {Q : Value → Shared → Prop} {K : Frag} {g : Heap} (a : Addr) (X : K.In g) (hK : (match K.lookup a with | some ⟨_, _, .func _, _⟩ => true | _ => false) = true)
    (h : wpAny M A (eval (.Name x p) env) (fun f s₁ => f = .ref a ∧ wpAny M A (spliced (backTo pos (starEach (e :: rest) env))) (fun vs s₂ => g.StaysIn s₂.heap ∧ wpC M A (call (.ref a) vs) Q E s₂) E s₁) E s)
    (he : starEach (e :: rest) env = (false, eval e env) :: starEach rest env := by rfl) (hp : (backTo pos (starEach rest env)).any (·.1) = false := by rfl) :
    wpC M A (eval (.Call (.Name x p) (e :: rest) [] pos) env) Q E s := by
  refine C_CallName (he := he) (hp := hp) (wpAny_mono h (fun f s₁ h₁ => ?_) fun _ _ z => z)
  obtain ⟨rfl, h₁⟩ := h₁
  split at hK
  · rename_i oc od fd sl ho
    exact ⟨a, _, fd, rfl, wpAny_mono h₁ (fun vs s₂ h₂ => ⟨⟨h₂.1 _ _ (X _ _ ho), rfl⟩, h₂.2⟩) fun _ _ z => z⟩
  · cases hK
theorem heard_raw {w : World} {mean : ExcName → Option Value} {mg mb : Str → Option Value} {A : Around} {h₀ : Heap} {s : Shared} {R : Result → Shared → Prop} {pa : Addr} {xs : List Value} {e0 : Nat} {ps : List (Option (Array UInt8))} {begin : Int} {t3 : Tok} {sh : Bool} {outer : List Env}
    (hroom : A.depth + 5 < recursionLimit) (hun : A.units + 310 < cLine) (hh : A.handled = none) (X : (hd.heap_39 w.params).In h₀) (T : TT mean mg mb h₀) (st : h₀.StaysIn s.heap)
    (hp : s.heap.get? pa = some (W.listOf xs.toArray e0)) (hxs : PartsAre xs ps) (hl : ps.length ≤ 8) (hb0 : 0 ≤ begin) (hb1 : begin ≤ 65535)
    (hfr : A.frames = some outer) (hfl : s.heap.FunFrames h₀ outer)
    (hR1 : ∀ h' tk T O offs e1 st t, (∀ b o, s.heap.get? b = some o → h'.get? b = some o) → s.heap.get? T = none → s.heap.get? O = none → runL begin sh LS.init ps = some st → IntsAre offs st.offs → st.out.size ≤ 32 → offs.length ≤ 8 →
      h'.get? T = some { cls := .type "tuple", data := .seq #[.ref O, .bytes st.out t] } → h'.get? O = some (W.listOf offs.toArray e1) → R (.ok (.ret (.ref T))) { s with heap := h', toks := tk })
    (hR2 : ∀ h' tk, runL begin sh LS.init ps = none → (∀ b o, s.heap.get? b = some o → b ∉ outer.filterMap (·.frame) → h'.get? b = some o) → s.heap.UpToSlots h' → R (.ok (.ret .none)) { s with heap := h', toks := tk }) :
    codeC (model PySem.Challenge.rw_nu0146_01.row.prog w) A (.call (.ref 116) ⟨[.int begin t3, .ref pa, .bool sh], []⟩) R s := by
  w_on
  refine' enterC [] (binds := [("begin", .int begin t3), ("parts", .ref pa), ("is_shared", .bool sh)]) (by omega) X T st ?hm ?k6 ?k7 (BindsTo.of_eq ?k9) (locs ?kB) ?_ ?c2 ?c3 ?c4 ?c5
  (case k6 => k_is)
  (case hm => exact fun _ h => nomatch h)
  (case k7 => k_is)
  (case k9 => rfl)
  (case c5 => decide)
  (case kB => rfl)
  (case c2 => rfl)
  (case c3 => rfl)
  (case c4 => rfl)
  intro g L' h₁ hL hg hg' st' F N KX T'
  try dsimp only at F
  try dsimp only
  try k_fold
  refine C_execs_cons (C_Try ?_)
  refine C_execs_cons (C_Return (C_CallK 78 KX (by kernel_rfl) ?_))
  k_steps
  · exact F.keep
  obtain ⟨B, hB⟩ : ∃ B, B = hideAll s.heap (outer.filterMap (·.frame)) := ⟨_, rfl⟩
  have up1 : ∀ b o, s.heap.get? b = some o → h₁.get? b = some o := fun b o q => F.keep b o (hg' b o q (by simp))
  have no1 : ∀ b, h₁.get? b = none → s.heap.get? b = none := fun b q => by
    cases z : s.heap.get? b with
    | none => rfl
    | some o => rw [up1 b o z] at q; cases q
  have stB : h₀.StaysIn B := fun b o q => hB ▸ hideAll_get _ (st b o q) (fun hm => by rw [(hfl.mem hm).1] at q; cases q)
  have hkB : B.StaysIn s.heap := fun b o q => of_hideAll _ (hB ▸ q)
  have hkb : B.StaysIn h₁ := fun b o q => up1 b o (hkB b o q)
  have szB : B.objs.size = L' := by rw [hB, hideAll_size, hL]
  have nL : B.get? L' = none := Heap.get?_none_of_le (Nat.le_of_eq szB)
  obtain ⟨oL, esL, epL, hoL, hdL, _⟩ := id F.ns
  have flB : s.heap.FunFrames B outer := hB ▸ funFrames_hide hfl (fun env he a hf => List.mem_filterMap.mpr ⟨env, he, hf⟩)
  have fl1 : h₁.FunFrames B outer := flB.of_keeps fun b o q _ => ⟨o, up1 b o q, rfl⟩
  have keepB : ∀ h', B.StaysIn h' → ∀ b o, s.heap.get? b = some o → b ∉ outer.filterMap (·.frame) → h'.get? b = some o := fun h' k b o q n => k b o (hB ▸ hideAll_get _ q n)
  have XB := X.keeps stB
  have TB := T.keeps stB
  clear hB
  refine C_call (laid_raw (h₀ := g) (base := B) (by simp only [depth_deeper]; omega) (by simp only [units_deeper]; omega) hh KX T' F.keep (up1 _ _ hp) hxs hl hb0 hb1 (.inl rfl) (outer := _ :: outer) (by show Option.map _ _ = _; rw [hfr]; rfl)
    ⟨(fun z => by cases z), ⟨L', oL, rfl, nL, hoL, fun vs z => by rw [hdL] at z; cases z⟩, fl1⟩ hkb ?ok ?bad)
  case ok =>
    intro h' tk T O offs e1 st t k nT nO hr hi hz hn gT gO
    exact hR1 h' tk T O offs e1 st t (fun b o q => k b o (up1 b o q)) (no1 _ nT) (no1 _ nO) hr hi hz hn gT gO
  case bad =>
    intro h' tk e a0 hr hfly hup
    dsimp only
    refine wpAny_looks_onW (base := B) (outer := outer) (L := L') (by show Option.map _ _ = _; rw [hfr]; rfl) rfl hfly fun h₂ hheld hup₂ => ?_
    refine wpAny_landsW hheld fun h₃ hfly₃ hup₃ => ?_
    have ups : h₁.UpToSlots h₃ := hup.trans (hup₂.trans hup₃)
    have F₃ : Fr B L' h₃ _ := ⟨ups.ns F.ns, hfly₃.1, Nat.le_of_eq szB⟩
    obtain ⟨oe, heo, hec⟩ := hfly₃.there
    refine wpAny_handleBy_cons ?_ (by intro z; cases z)
    refine codeAny_handlers_test ?_
    clear F N KX T' hheld hup hup₂ hup₃
    k_steps
    refine wpAny_excMatches_sub_self (c54_at (XB.keeps F₃.keep)) heo hec (by decide) ?_
    dsimp only [if_true]
    refine codeAny_handlers_suite ?_
    refine lands_againW hfly₃ fun h₄ hfly₄ hup₄ => ?_
    have F₄ := Fr.of_stays F₃ hfly₄.1 hup₄
    clear F₃ hfly₃ heo hec
    k_steps
    exact hR2 h₄ tk hr (keepB h₄ hfly₄.1) ((Heap.UpToSlots.of_keeps up1).trans (ups.trans hup₄))
end
section
section
variable {prog : Program} {w : World} {A : Around} {E : Value → Shared → Prop} {R : Result → Shared → Prop} {env : Env}
theorem comp_loop {s : Shared} {elt iter : Expr} {x : Str} {px : Pos} {scope : Scope} {pos : Pos} {I D : Addr} {fp wr mod : List Addr} {n : Nat} {P : Nat → Value → Prop} {St : Nat → Heap → Prop} {cenv : Env} {m : Str → Option Value}
    (W : Walks prog w A I fp wr n P St) (K : List Value → Heap → Prop) (hKf : ∀ ys h h', K ys h → (∀ b ∈ mod, ∀ o, h.get? b = some o → h'.get? b = some o) → K ys h')
    (hx : cenv.kindOf x = some .local) (hp : (cenv.scope.kind == .class || (cenv.scope.kind == .module && cenv.locals != cenv.globals)) = false)
    (hDC : D ≠ cenv.locals) (hDf : D ∉ fp) (hCf : cenv.locals ∉ fp) (hDm : D ∉ mod) (hCm : cenv.locals ∉ mod) (hfm : ∀ b ∈ mod, b ∉ fp)
    (hst : St 0 s.heap) (hacc : s.heap.PlainList D #[]) (hn : s.heap.Ns cenv.locals m) (hK : K [] s.heap)
    (helt : ∀ ys v h₂ tk₂ m₂, ys.length < n → P ys.length v → h₂.Ns cenv.locals m₂ → m₂ x = some v → K ys h₂ → (∀ b o, b ≠ cenv.locals → b ∉ wr → b ∉ mod → b ≠ D → s.heap.get? b = some o → h₂.get? b = some o) →
      wpAny (model prog w) A (eval elt cenv) (fun y s₃ => ∃ h₃ tk₃, s₃ = { s with heap := h₃, toks := tk₃ } ∧ K (ys ++ [y]) h₃ ∧ (∀ b o, b ∉ mod → h₂.get? b = some o → h₃.get? b = some o)) (notedBy (model prog w) A cenv fun e s' => R (.error e) s') { s with heap := h₂, toks := tk₂ })
    (hR : ∀ h' tk m' (ys : List Value), h'.Ns cenv.locals m' → h'.PlainList D ys.toArray → ys.length = n → K ys h' →
      (∀ b o, b ≠ cenv.locals → b ∉ wr → b ∉ mod → b ≠ D → s.heap.get? b = some o → h'.get? b = some o) → R (.ok .next) { s with heap := h', toks := tk })
    (hsz : n ≤ sizeLine) :
    codeAny (model prog w) A (.compLoop (.ListComp elt [⟨.Name x px, iter, [], 0⟩] scope pos) 0 (.ref I) (.ref D) cenv) R s := by
  refine codeAny_compLoop_list
    (fun k s' => ∃ (h' : Heap) (tk : Nat) (m' : Str → Option Value) (ys : List Value), s' = { s with heap := h', toks := tk } ∧ St ys.length h' ∧ h'.PlainList D ys.toArray ∧ h'.Ns cenv.locals m' ∧ K ys h' ∧ ys.length ≤ n ∧ k = n + 1 - ys.length ∧
      (∀ b o, b ≠ cenv.locals → b ∉ wr → b ∉ mod → b ≠ D → s.heap.get? b = some o → h'.get? b = some o)) ?_ (n + 1)
    ⟨s.heap, s.toks, m, [], rfl, hst, hacc, hn, hK, Nat.zero_le _, rfl, fun _ _ _ _ _ _ e => e⟩
  rintro k s' ⟨H, tk, m', ys, rfl, hst', hacc', hn', hK', hi, rfl, hk⟩
  have hCw : cenv.locals ∉ wr := fun h => hCf (W.sub _ h)
  have hDw : D ∉ wr := fun h => hDf (W.sub _ h)
  have hmw : ∀ b ∈ mod, b ∉ wr := fun b hb h => hfm b hb (W.sub _ h)
  by_cases hlt : ys.length < n
  · refine W.item ys.length _ _ _ hlt hst' fun v h₁ tk₁ hPv hst₁ hk₁ => ?_
    refine wpAny_assign_Name (wpAny_storeName_local hx (hn'.at' fun o e => hk₁ _ o hCw e) (fun h₂ hn₂ hs₂ => ?_) hp)
    have up₂ : ∀ b o, b ≠ cenv.locals → b ∉ wr → H.get? b = some o → h₂.get? b = some o := fun b o hbC hbf e => hs₂.extBut b o hbC (hk₁ b o hbf e)
    have hst₂ : St (ys.length + 1) h₂ := W.frame _ _ _ hst₁ fun b hb o e => hs₂.extBut b o (fun h => hCf (h ▸ hb)) e
    have hK₂ : K ys h₂ := hKf _ _ _ hK' fun b hb o e => up₂ b o (fun h => hCm (h ▸ hb)) (hmw b hb) e
    refine wpAny_mono (helt ys v h₂ _ _ hlt hPv hn₂ (by simp) hK₂ (fun b o hbC hbf hbm hbD e => up₂ b o hbC hbf (hk b o hbC hbf hbm hbD e))) (fun y s₄ h₄ => ?_) fun _ _ e => e
    obtain ⟨h₄, tk₄, rfl, hK₄, hk₄⟩ := h₄
    refine wpAny_list_append_plain (hsz := by rw [List.size_toArray]; omega) (hacc'.at fun o e => hk₄ _ o hDm (up₂ D o hDC hDw e)) fun h₅ hl₅ hs₅ => ?_
    refine ⟨n + 1 - (ys.length + 1), by omega, h₅, tk₄, _, ys ++ [y], rfl, ?_, by simpa using hl₅, (hn₂.at' fun o e => hk₄ _ o hCm e).sameBut hs₅ (Ne.symm hDC), hKf _ _ _ hK₄ (fun b hb o e => hs₅.extBut b o (fun h => hDm (h ▸ hb)) e), (by rw [List.length_append, List.length_singleton]; exact hlt), (by rw [List.length_append, List.length_singleton]),
      fun b o hbC hbf hbm hbD e => hs₅.extBut b o hbD (hk₄ b o hbm (up₂ b o hbC hbf (hk b o hbC hbf hbm hbD e)))⟩
    have := W.frame _ _ h₅ hst₂ fun b hb o e => hs₅.extBut b o (fun h => hDf (h ▸ hb)) (hk₄ b o (fun h => hfm b h hb) e)
    simpa using this
  · have hin : ys.length = n := by omega
    refine W.done _ _ _ (hin ▸ hst') fun h₁ tk₁ hk₁ => ?_
    exact hR h₁ tk₁ m' ys (hn'.at' fun o e => hk₁ _ o hCw e) (hacc'.at fun o e => hk₁ _ o hDw e) hin (hKf _ _ _ hK' fun b hb o e => hk₁ b o (hmw b hb) e) fun b o hbC hbf hbm hbD e => hk₁ b o hbf (hk b o hbC hbf hbm hbD e)

/-- a comprehension over an iterator, whose element may turn the objects at mod: K tells them with the items that are made -/
theorem comp_inv {s : Shared} {elt iter : Expr} {x : Str} {px : Pos} {scope : Scope} {cl : List (Str × Addr)} {pos : Pos} {Q : Value → Shared → Prop} (mod : List Addr) (K : List Value → Heap → Prop)
    (hKf : ∀ ys h h', K ys h → (∀ b ∈ mod, ∀ o, h.get? b = some o → h'.get? b = some o) → K ys h')
    (hclos : closureFor scope env = pure cl) (hcell : ∀ y ∈ scope.names, y.2 ≠ .cell) (hkind : scope.kind = .function)
    (hnames : ∀ y ∈ scope.names, y.2 = .local → scope.names.lookup y.1 = some .local) (hx : scope.names.lookup x = some .local)
    (h : wpAny (model prog w) A (eval iter env) (fun xv s₁ => wpAny (model prog w) A (pyIter xv) (fun it s₂ => ∃ I fp wr n P St, it = .ref I ∧ Walks prog w A I fp wr n P St ∧ n ≤ sizeLine ∧ St 0 s₂.heap ∧ (∀ b ∈ fp, b < s₂.heap.objs.size) ∧
      (∀ b ∈ mod, b < s₂.heap.objs.size ∧ b ∉ fp) ∧ K [] s₂.heap ∧
      (∀ C ys v h₃ tk₃ m₃ E', s₂.heap.objs.size ≤ C → ys.length < n → P ys.length v → h₃.Ns C m₃ → m₃ x = some v → K ys h₃ → (∀ b o, b ∉ wr → b ∉ mod → s₂.heap.get? b = some o → h₃.get? b = some o) →
        wpAny (model prog w) A (eval elt (compEnvC scope cl C env)) (fun y s₄ => ∃ h₄ tk₄, s₄ = { s₂ with heap := h₄, toks := tk₄ } ∧ K (ys ++ [y]) h₄ ∧ (∀ b o, b ∉ mod → h₃.get? b = some o → h₄.get? b = some o)) E' { s₂ with heap := h₃, toks := tk₃ }) ∧
      (∀ D h' tk ys e, s₂.heap.get? D = none → ys.length = n → K ys h' → h'.get? D = some (W.listOf ys.toArray e) → (∀ b o, b ∉ wr → b ∉ mod → s₂.heap.get? b = some o → h'.get? b = some o) → Q (.ref D) { s₂ with heap := h', toks := tk })) E s₁) E s)
    (hs : ∀ x, foldedSetIterable iter env x = pure x := by intro _; rfl) :
    wpAny (model prog w) A (eval (.ListComp elt [⟨.Name x px, iter, [], 0⟩] scope pos) env) Q E s := by
  rw [eval_ListComp]
  refine wpAny_comprehension_free (use := none) rfl hs hclos hkind hnames (wpAny_mono h (fun xv s₁ h₁ => wpAny_mono h₁ (fun it s₂ h₂ => ?_) fun _ _ e => e) fun _ _ e => e)
  obtain ⟨I, fp, wr, n, P, St, rfl, W, hsz, hst, hfp, hmod, hK0, helt, hQ⟩ := h₂
  refine wpAny_newObj_type (wpAny_newFunctionEnv hcell (by intro y hy; simp at hy) (fun h₁ hns₁ hsb₁ => ?_) hkind)
  dsimp only at hns₁ hsb₁ ⊢
  generalize hH2 : s₂.heap.push { cls := .type "list", dict := none, data := .seq ([] : List Value).toArray } = H2 at hns₁ hsb₁ ⊢
  have hC : H2.objs.size = s₂.heap.objs.size + 1 := by rw [← hH2, Heap.size_push]
  have hDC : s₂.heap.objs.size ≠ H2.objs.size := by rw [hC]; exact Nat.ne_of_lt (Nat.lt_succ_self _)
  have hCle : s₂.heap.objs.size ≤ H2.objs.size := by rw [hC]; exact Nat.le_succ _
  have below : ∀ b, b < s₂.heap.objs.size → b ≠ H2.objs.size ∧ b ≠ s₂.heap.objs.size := fun b hb => ⟨by rw [hC]; exact Nat.ne_of_lt (Nat.lt_succ_of_lt hb), Nat.ne_of_lt hb⟩
  have hDf : s₂.heap.objs.size ∉ fp := fun hm => Nat.lt_irrefl _ (hfp _ hm)
  have hCf : H2.objs.size ∉ fp := fun hm => by have := hfp _ hm; rw [hC] at this; exact Nat.lt_irrefl _ (Nat.lt_of_succ_lt this)
  have hDm : s₂.heap.objs.size ∉ mod := fun hm => Nat.lt_irrefl _ (hmod _ hm).1
  have hCm : H2.objs.size ∉ mod := fun hm => by have := (hmod _ hm).1; rw [hC] at this; exact Nat.lt_irrefl _ (Nat.lt_of_succ_lt this)
  have old : ∀ b o, s₂.heap.get? b = some o → h₁.get? b = some o := fun b o e => hsb₁.extBut b o (below b (Heap.lt_size e)).1 (Heap.get?_push_of_some _ (hH2 ▸ Heap.get?_push_of_some _ e))
  have hacc : h₁.PlainList s₂.heap.objs.size #[] := ⟨_, hsb₁.extBut _ _ hDC (Heap.get?_push_of_some _ (hH2 ▸ Heap.get?_push_size _ rfl))⟩
  have hst₁ : St 0 h₁ := W.frame _ _ _ hst fun b _ o e => old b o e
  have fresh : ∀ a, s₂.heap.objs.size ≤ a → s₂.heap.get? a = none := fun a ha => Heap.get?_none_of_le ha
  have loop : ∀ s₃ : Shared, s₃ = { s₂ with heap := h₁, toks := s₂.toks + ([] : List (Str × Value)).length } →
      codeAny (model prog w) A (.compLoop (.ListComp elt [⟨.Name x px, iter, [], 0⟩] scope pos) 0 (.ref I) (.ref s₂.heap.objs.size) (compEnvC scope cl H2.objs.size env))
        (compPost (model prog w) A E none Q (.ref s₂.heap.objs.size) H2.objs.size) s₃ := by
    rintro s₃ rfl
    refine comp_loop (cenv := compEnvC scope cl H2.objs.size env) (mod := mod) W K hKf (lookup_relabel_local hx) (by simp [compEnvC, relabel, hkind]) hDC hDf hCf hDm hCm (fun b hb => (hmod b hb).2) hst₁ hacc hns₁
      (hKf _ _ _ hK0 fun b _ o e => old b o e) ?_ ?_ hsz
    · intro ys v h₂ tk₂ m₂ hlt hP hn hm hKy hk
      exact helt _ ys v h₂ tk₂ m₂ _ hCle hlt hP hn hm hKy fun b o hbw hbm e => hk b o (below b (Heap.lt_size e)).1 hbw hbm (below b (Heap.lt_size e)).2 (old b o e)
    · intro h' tk m' ys hn hpl hlen hKy hk
      refine ⟨m', hn, fun h'' hs'' => ?_⟩
      obtain ⟨e, hpl⟩ := hpl
      refine hQ _ h'' tk ys e (fresh _ (Nat.le_refl _)) hlen (hKf _ _ _ hKy fun b hb o q => hs''.extBut b o (fun z => hCm (z ▸ hb)) q) (hs''.extBut _ _ hDC hpl) fun b o hbw hbm q => ?_
      exact hs''.extBut b o (below b (Heap.lt_size q)).1 (hk b o (below b (Heap.lt_size q)).1 hbw hbm (below b (Heap.lt_size q)).2 (old b o q))
  exact codeAny_compStart_list (loop _ rfl) (W.self 0 _ _ _ hst₁ (loop _ rfl))
end
end
section
abbrev tupO (vs : Array Value) : Obj := { cls := .type "tuple", data := .seq vs }
/-- the pairs of offset and part that _law_laid has met -/
inductive MetAre (h : Heap) : List Value → List (Int × Array UInt8) → Prop
  | nil : MetAre h [] []
  | cons {a : Addr} {p : Int} {b : Array UInt8} {t1 t2 : Tok} {vs ms} : h.get? a = some (tupO #[.int p t1, .bytes b t2]) → MetAre h vs ms → MetAre h (.ref a :: vs) ((p, b) :: ms)
theorem MetAre.keeps {h h' : Heap} {vs ms} (x : MetAre h vs ms) (k : ∀ b o, h.get? b = some o → h'.get? b = some o) : MetAre h' vs ms := by
  induction x with
  | nil => exact .nil
  | cons e _ ih => exact .cons (k _ _ e) ih
theorem MetAre.append {h : Heap} {vs ms vs' ms'} (x : MetAre h vs ms) (y : MetAre h vs' ms') : MetAre h (vs ++ vs') (ms ++ ms') := by
  induction x with
  | nil => exact y
  | cons e _ ih => exact .cons e ih
theorem MetAre.len {h : Heap} {vs ms} (x : MetAre h vs ms) : vs.length = ms.length := by
  induction x with
  | nil => rfl
  | cons _ _ ih => rw [List.length_cons, List.length_cons, ih]
section
variable {prog : Program} {w : World} {A : Around} {E : Value → Shared → Prop} {R : Result → Shared → Prop} {env : Env}
theorem pair_loop {s : Shared} {iter c : Expr} {a b : Str} {pa pb pe tp : Pos} {kk : Nat} {scope : Scope} {pos : Pos} {I D M : Addr} {cenv : Env} {m : Str → Option Value} {ms : List Value} {mets : List (Int × Array UInt8)} {e0 : Nat} (f : Array UInt8 → Bool)
    (hh : A.handled = none) (hka : cenv.kindOf a = some .local) (hkb : cenv.kindOf b = some .local) (hab : ¬ a = b) (hda : (a == ("__debug__" : Str)) = false) (hk : cenv.scope.kind = .function)
    (hDC : D ≠ cenv.locals) (hDI : D ≠ I) (hCI : cenv.locals ≠ I) (hMI : M ≠ I) (hMC : M ≠ cenv.locals) (hMD : M ≠ D)
    (hit : s.heap.IsListIter I M 0) (hM : s.heap.get? M = some (W.listOf ms.toArray e0)) {hb : Heap} (hmet : MetAre hb ms mets) (hnI : ∀ b o, hb.get? b = some o → b ≠ I ∧ b ≠ D ∧ b ≠ cenv.locals ∧ s.heap.get? b = some o)
    (hacc : s.heap.PlainList D #[]) (hn : s.heap.Ns cenv.locals m)
    (htest : ∀ h₂ tk₂ m₂ bb tb E', h₂.Ns cenv.locals m₂ → m₂ b = some (.bytes bb tb) → (∀ b o, b ≠ cenv.locals → b ≠ I → b ≠ D → s.heap.get? b = some o → h₂.get? b = some o) →
      wpAny (model prog w) A (isTrue c cenv (eval c cenv)) (fun ok s₃ => ok = f bb ∧ ∃ h₃ tk₃, s₃ = { s with heap := h₃, toks := tk₃ } ∧ (∀ b o, h₂.get? b = some o → h₃.get? b = some o)) E' { s with heap := h₂, toks := tk₂ })
    (hR : ∀ h' tk m' (ys : List Value), h'.Ns cenv.locals m' → h'.PlainList D ys.toArray → IntsAre ys ((mets.filter fun q => f q.2).map (·.1)) →
      (∀ b o, b ≠ cenv.locals → b ≠ I → b ≠ D → s.heap.get? b = some o → h'.get? b = some o) → R (.ok .next) { s with heap := h', toks := tk })
    (hsz : ms.length ≤ sizeLine) :
    codeAny (model prog w) A (.compLoop (.ListComp (.Name a pe) [⟨.Tuple [.Name a pa, .Name b pb] kk tp, iter, [c], 0⟩] scope pos) 0 (.ref I) (.ref D) cenv) R s := by
  refine kct_loop (fun k s' => ∃ (h' : Heap) (tk : Nat) (m' : Str → Option Value) (i : Nat) (vs : List Value) (qs done : List (Int × Array UInt8)) (ys : List Value), s' = { s with heap := h', toks := tk } ∧ h'.IsListIter I M i ∧
    h'.PlainList D ys.toArray ∧ h'.Ns cenv.locals m' ∧ ms.drop i = vs ∧ MetAre hb vs qs ∧ mets = done ++ qs ∧ IntsAre ys ((done.filter fun q => f q.2).map (·.1)) ∧ ys.length ≤ i ∧ i + vs.length = ms.length ∧ k = vs.length + 1 ∧
    (∀ b o, b ≠ cenv.locals → b ≠ I → b ≠ D → s.heap.get? b = some o → h'.get? b = some o)) ?_ (ms.length + 1)
    ⟨s.heap, s.toks, m, 0, ms, mets, [], [], rfl, hit, hacc, hn, rfl, hmet, rfl, .nil, Nat.zero_le _, Nat.zero_add _, rfl, fun _ _ _ _ _ e => e⟩
  rintro k s' ⟨H, tk, m', i, vs, qs, dn, ys, rfl, hit', hacc', hn', hdr, hme, hms, hys, hyl, hil, rfl, hk'⟩
  have hM' : H.IsList M ms.toArray := ⟨_, hk' _ _ hMC hMI hMD hM, rfl, _, rfl⟩
  cases hme with
  | nil =>
    refine wpAny_pyNext_list_end (items := ms.toArray) hh hit' hM' ?_ fun h₁ he₁ => ?_
    · have : ms.length ≤ i := by simpa using hdr
      simp [this]
    · rw [List.append_nil] at hms
      subst hms
      exact hR h₁ tk m' ys (hn'.extBut he₁ hCI) (hacc'.at fun o e => he₁ _ o hDI e) hys fun b o h1 h2 h3 e => he₁ b o h2 (hk' b o h1 h2 h3 e)
  | @cons T p bb t1 t2 vs qs hT hme =>
    have hx : ms[i]? = some (.ref T) := by
      have := congrArg List.head? hdr
      rwa [List.head?_drop, List.head?_cons] at this
    have hdr' : ms.drop (i + 1) = vs := by
      have := congrArg List.tail hdr
      rwa [List.tail_drop, List.tail_cons] at this
    obtain ⟨n1, n2, n3, hT⟩ := hnI _ _ hT
    refine wpAny_pyNext_list_item (items := ms.toArray) hit' hM' (by simpa using hx) fun h₁ hit₁ hs₁ => ?_
    refine wpAny_letOwnedTupleGo_listiter hit₁ ?_
    have hT₁ : h₁.get? T = some (tupO #[.int p t1, .bytes bb t2]) := hs₁.extBut _ _ n1 (hk' _ _ n3 n1 n2 hT)
    refine kcp_assign (env := cenv) hh ⟨_, hT₁, rfl, _, rfl⟩ hka hkb (by simp [hk]) (hn'.sameBut hs₁ hCI) fun h₂ tk₂ hn₂ hs₂ => ?_
    have up₂ : ∀ b o, b ≠ cenv.locals → b ≠ I → H.get? b = some o → h₂.get? b = some o := fun b o hbC hbI e => hs₂ b o hbC (hs₁.extBut b o hbI e)
    refine wpAny_mono (htest h₂ tk₂ _ bb t2 _ hn₂ (by simp) fun b o h1 h2 h3 e => up₂ b o h1 h2 (hk' b o h1 h2 h3 e)) (fun ok s₃ h₃ => ?_) fun _ _ e => e
    obtain ⟨rfl, h₃, tk₃, rfl, hk₃⟩ := h₃
    have hit₃ : h₃.IsListIter I M (i + 1) := hit₁.at fun o e => hk₃ _ o (hs₂ I o (Ne.symm hCI) e)
    have hacc₃ : h₃.PlainList D ys.toArray := hacc'.at fun o e => hk₃ _ o (up₂ D o hDC hDI e)
    have hn₃ := hn₂.keeps hk₃
    have hk3' : ∀ b o, b ≠ cenv.locals → b ≠ I → b ≠ D → s.heap.get? b = some o → h₃.get? b = some o := fun b o h1 h2 h3 e => hk₃ b o (up₂ b o h1 h2 (hk' b o h1 h2 h3 e))
    rw [List.length_cons] at hil
    cases hf : f bb with
    | false =>
      simp only [Bool.false_eq_true, if_false]
      refine ⟨vs.length + 1, by simp, h₃, tk₃, _, i + 1, vs, qs, dn ++ [(p, bb)], ys, rfl, hit₃, hacc₃, hn₃, hdr', hme, by rw [hms]; simp, ?_, by omega, by omega, rfl, hk3'⟩
      simpa [List.filter_append, hf] using hys
    | true =>
      simp only [if_true]
      refine wpAny_Name (wpAny_loadName_local hk hka hn₃ (v := .int p t1) (by simp [hab]) ?_) hda
      refine wpAny_list_append_plain (hsz := by rw [List.size_toArray]; omega) hacc₃ fun h₅ hl₅ hs₅ => ?_
      refine ⟨vs.length + 1, by simp, h₅, tk₃, _, i + 1, vs, qs, dn ++ [(p, bb)], ys ++ [.int p t1], rfl, hit₃.extBut hs₅.extBut (Ne.symm hDI), by simpa using hl₅, hn₃.sameBut hs₅ (Ne.symm hDC), hdr', hme, by rw [hms]; simp, ?_, by simp; omega, by omega, rfl,
        fun b o h1 h2 h3 e => hs₅.extBut b o h3 (hk3' b o h1 h2 h3 e)⟩
      simpa [List.filter_append, hf] using hys.append (.cons p t1 .nil)
theorem assign_pairs {s : Shared} {iter c : Expr} {a b y : Str} {pa pb pe tp py : Pos} {kk : Nat} {scope : Scope} {cl : List (Str × Addr)} {pos spos : Pos} {Q : Flow → Shared → Prop} (f : Array UInt8 → Bool)
    (hh : A.handled = none) (hsw : swapsWith (.ListComp (.Name a pe) [⟨.Tuple [.Name a pa, .Name b pb] kk tp, iter, [c], 0⟩] scope pos) (some (.Name y py)) spos.line env = pure true)
    (hclos : closureFor scope env = pure cl) (hcell : ∀ z ∈ scope.names, z.2 ≠ .cell) (hkind : scope.kind = .function)
    (hnames : ∀ z ∈ scope.names, z.2 = .local → scope.names.lookup z.1 = some .local) (hxa : scope.names.lookup a = some .local) (hxb : scope.names.lookup b = some .local) (hab : ¬ a = b) (hda : (a == ("__debug__" : Str)) = false)
    (hy : env.kindOf y = some .local) (hp : (env.scope.kind == .class || (env.scope.kind == .module && env.locals != env.globals)) = false)
    (h : wpAny (model prog w) A (eval iter env) (fun xv s₁ => ∃ (M : Addr) (ms : List Value) (mets : List (Int × Array UInt8)) (e0 : Nat) (m : Str → Option Value), xv = .ref M ∧ s₁.heap.get? M = some (W.listOf ms.toArray e0) ∧ MetAre s₁.heap ms mets ∧ ms.length ≤ sizeLine ∧ s₁.heap.Ns env.locals m ∧
      (∀ C h₂ tk₂ m₂ bb tb E', h₂.Ns C m₂ → m₂ b = some (.bytes bb tb) → (∀ b o, s₁.heap.get? b = some o → h₂.get? b = some o) → s₁.heap.objs.size ≤ C →
        wpAny (model prog w) A (isTrue c (compEnvC scope cl C env) (eval c (compEnvC scope cl C env))) (fun ok s₃ => ok = f bb ∧ ∃ h₃ tk₃, s₃ = { s₁ with heap := h₃, toks := tk₃ } ∧ (∀ b o, h₂.get? b = some o → h₃.get? b = some o)) E' { s₁ with heap := h₂, toks := tk₂ }) ∧
      (∀ D h' tk ys e, s₁.heap.get? D = none → h'.get? D = some (W.listOf (List.toArray ys) e) → IntsAre ys ((mets.filter fun q => f q.2).map (·.1)) → h'.Ns env.locals (fun z => if z = y then some (.ref D) else m z) →
        (∀ b o, b ≠ env.locals → s₁.heap.get? b = some o → h'.get? b = some o) → Q .next { s₁ with heap := h', toks := tk })) E s)
    (hs : ∀ x, foldedSetIterable iter env x = pure x := by intro _; rfl) :
    wpAny (model prog w) A (exec (.Assign [.Name y py] (.ListComp (.Name a pe) [⟨.Tuple [.Name a pa, .Name b pb] kk tp, iter, [c], 0⟩] scope pos) spos) env) Q E s := by
  rw [exec_Assign_Name_used _ _ _ _ hsw]
  refine wpAny_bind (wpAny_standAt (wpAny_bind ?_))
  show wpAny _ A (do let _ ← comprehension (.ListComp (.Name a pe) [⟨.Tuple [.Name a pa, .Name b pb] kk tp, iter, [c], 0⟩] scope pos) scope env _ (newList []) false (eval iter env) (some (assign (.Name y py) env))) _ _ s
  refine wpAny_bind (wpAny_mono (wpAny_comprehension_free (use := some (assign (.Name y py) env)) (Q := fun _ s' => Q .next s') rfl hs hclos hkind hnames
    (wpAny_mono h (fun xv s₁ h₁ => ?_) fun _ _ e => e)) (fun _ s' hq => wpAny_pure (wpAny_pure hq)) fun _ _ e => e)
  obtain ⟨M, ms, mets, e0, m, rfl, hM, hmet, hsz, hnL, htest, hQ⟩ := h₁
  refine wpAny_pyIter_list (items := ms.toArray) ⟨_, hM, rfl, _, rfl⟩ ?_
  have hI : (s₁.heap.push { cls := .type "list_iterator", data := .fields #[.ref M, .int 0 0] }).get? s₁.heap.objs.size = some { cls := .type "list_iterator", data := .fields #[.ref M, .int 0 0] } := Heap.get?_push_size _ rfl
  have kI : ∀ b o, s₁.heap.get? b = some o → (s₁.heap.push { cls := .type "list_iterator", data := .fields #[.ref M, .int 0 0] }).get? b = some o := fun b o e => Heap.get?_push_of_some _ e
  have szI : (s₁.heap.push { cls := .type "list_iterator", data := .fields #[.ref M, .int 0 0] }).objs.size = s₁.heap.objs.size + 1 := Heap.size_push ..
  generalize s₁.heap.push { cls := .type "list_iterator", data := .fields #[.ref M, .int 0 0] } = hp₂ at hI kI szI ⊢
  obtain ⟨I, hIe⟩ : ∃ I : Addr, I = s₁.heap.objs.size := ⟨_, rfl⟩
  rw [← hIe] at hI ⊢
  refine wpAny_newObj_type (wpAny_newFunctionEnv hcell (by intro y hy; simp at hy) (fun h₁ hns₁ hsb₁ => ?_) hkind)
  dsimp only at hns₁ hsb₁ ⊢
  obtain ⟨D, hDe⟩ : ∃ D : Addr, D = hp₂.objs.size := ⟨_, rfl⟩
  rw [← hDe]
  generalize hH2 : hp₂.push { cls := .type "list", dict := none, data := .seq ([] : List Value).toArray } = H2 at hns₁ hsb₁ ⊢
  have hDo : H2.get? D = some { cls := .type "list", dict := none, data := .seq #[] } := hDe ▸ hH2 ▸ Heap.get?_push_size _ rfl
  have kD : ∀ b o, hp₂.get? b = some o → H2.get? b = some o := fun b o e => hH2 ▸ Heap.get?_push_of_some _ e
  obtain ⟨C, hCe⟩ : ∃ C : Addr, C = H2.objs.size := ⟨_, rfl⟩
  have hC : @Eq Nat C (D + 1) := by rw [hCe, ← hH2, Heap.size_push, hDe]
  have hD : @Eq Nat D (I + 1) := by rw [hDe, szI, hIe]
  rw [← hCe] at hns₁ hsb₁ ⊢
  have old : ∀ b o, s₁.heap.get? b = some o → @LT.lt Nat _ b I := fun b o e => by rw [hIe]; exact Heap.lt_size e
  have apart : ∀ b o, s₁.heap.get? b = some o → b ≠ I ∧ b ≠ D ∧ b ≠ C := fun b o e => by
    have z := old b o e
    exact ⟨Nat.ne_of_lt z, Nat.ne_of_lt (by omega), Nat.ne_of_lt (by omega)⟩
  have hDC : D ≠ C := Nat.ne_of_lt (by omega)
  have hDI : D ≠ I := Nat.ne_of_gt (by omega)
  have hCI : C ≠ I := Nat.ne_of_gt (by omega)
  have up₁ : ∀ b o, s₁.heap.get? b = some o → h₁.get? b = some o := fun b o e => hsb₁.extBut b o (apart b o e).2.2 (Heap.get?_push_of_some _ (kD _ _ (kI b o e)))
  have hI₁ : h₁.get? I = some { cls := .type "list_iterator", data := .fields #[.ref M, .int 0 0] } := hsb₁.extBut _ _ (Ne.symm hCI) (Heap.get?_push_of_some _ (kD _ _ hI))
  have hD₁ : h₁.PlainList D #[] := ⟨_, hsb₁.extBut _ _ hDC (Heap.get?_push_of_some _ hDo)⟩
  have aM := apart _ _ hM
  have new : ∀ b, @LE.le Nat _ I b → s₁.heap.get? b = none := fun b hb => Heap.get?_none_of_le (by rw [hIe] at hb; exact hb)
  obtain ⟨hpC, hk2⟩ : (D ≠ env.locals ∧ C ≠ env.locals) ∧ True := by
    obtain ⟨o, _, _, ho, _⟩ := hnL
    have z := apart _ _ ho
    exact ⟨⟨Ne.symm z.2.1, Ne.symm z.2.2⟩, trivial⟩
  have loop : ∀ s₃ : Shared, (∃ tk, s₃ = { s₁ with heap := h₁, toks := tk }) →
      codeAny (model prog w) A (.compLoop (.ListComp (.Name a pe) [⟨.Tuple [.Name a pa, .Name b pb] kk tp, iter, [c], 0⟩] scope pos) 0 (.ref I) (.ref D) (compEnvC scope cl C env))
        (compPost (model prog w) A E (some (assign (.Name y py) env)) (fun _ s' => Q .next s') (.ref D) C) s₃ := by
    rintro s₃ ⟨tk, rfl⟩
    refine pair_loop (cenv := compEnvC scope cl C env) (M := M) (ms := ms) (mets := mets) (e0 := e0) f hh (lookup_relabel_local hxa) (lookup_relabel_local hxb) hab hda (by simp [compEnvC, relabel, hkind]) hDC hDI hCI aM.1 aM.2.2 aM.2.1
      ⟨_, hI₁, rfl, rfl⟩ (up₁ _ _ hM) hmet (fun b o e => have z := apart b o e; ⟨z.1, z.2.1, z.2.2, up₁ b o e⟩) hD₁ hns₁ ?_ ?_ hsz
    · intro h₂ tk₂ m₂ bb tb E' hn₂ hm hk
      exact htest C h₂ tk₂ m₂ bb tb E' hn₂ hm (fun b o e => have z := apart b o e; hk b o z.2.2 z.1 z.2.1 (up₁ b o e)) (by rw [hIe] at hD; omega)
    · intro h' tk' m' ys hn hpl hys hk
      have up' : ∀ b o, s₁.heap.get? b = some o → h'.get? b = some o := fun b o e => have z := apart b o e; hk b o z.2.2 z.1 z.2.1 (up₁ b o e)
      show wpAny _ A (assign (.Name y py) env (.ref D)) _ _ _
      refine wpAny_assign_Name (wpAny_storeName_local hy (hnL.at' fun o e => up' _ o e) (fun h₂ hn₂ hs₂ => ?_) hp)
      refine ⟨m', hn.sameBut hs₂ hpC.2, fun h₃ hs₃ => ?_⟩
      obtain ⟨e, hpl⟩ := hpl
      exact hQ D h₃ _ ys e (new D (by omega)) (hs₃.extBut _ _ hDC (hs₂.extBut _ _ hpC.1 hpl)) hys (hn₂.sameBut hs₃ (Ne.symm hpC.2)) fun b o hbL q => hs₃.extBut b o (apart b o q).2.2 (hs₂.extBut b o hbL (up' b o q))
  refine codeAny_compStart_list (loop _ ⟨_, rfl⟩) (wpAny_pyIter_listiter (i := 0) (l := M) ⟨_, hI₁, rfl, rfl⟩ (loop _ ⟨_, rfl⟩))
end
end
section
section
variable {prog : Program} {w : World} {A : Around} {R : Result → Shared → Prop} {s : Shared}
theorem codeC_call_cells {name qual : Str} {params : Arguments} {body : List Stmt} {scope : Scope} {dV kV doc pm cdv ct : Value} {an : Option Addr} {fo : Obj} {f : Addr} {args : Args} {binds : List (Str × Value)}
    (hlim : s.heap.NoLimit) (ho : s.heap.get? f = some fo) (hd : fo.data = .func (fnX name qual params body scope [] dV kV doc pm an cdv ct)) (hcd : s.heap.CodeRec cdv qual) (hroom : A.depth < recursionLimit)
    (hbind : BindsTo s (fnX name qual params body scope [] dV kV doc pm an cdv ct) args binds)
    (hkind : ∀ n, ∀ x ∈ binds, scope.names.lookup x.1 = some .local ∨ (scope.names.lookup x.1 = some .cell ∧ ((cellsFrom n scope.names []).lookup x.1).isSome = true))
    (hnd : ((cellsFrom 0 scope.names []).map (·.1)).Nodup)
    (h : ∀ h₁ tk cells, (∀ b o, s.heap.get? b = some o → h₁.get? b = some o) → h₁.Ns s.heap.objs.size (bindL (envOfC qual scope s.heap.objs.size f cdv).kindOf binds fun _ => none) → News s.heap s.heap.objs.size h₁ cells →
      CellsAre (bindC (envOfC qual scope s.heap.objs.size f cdv).kindOf binds fun _ => none) (cellsFrom (s.heap.objs.size + 1) scope.names []) cells →
      wpC (model prog w) (A.deeper (envOfC qual scope s.heap.objs.size f cdv)) (execs body (envOfC qual scope s.heap.objs.size f cdv))
        (fun fl s' => R (.ok (.ret (match fl with | .ret v => v | _ => .none))) s')
        (fun e s' => wpAny (model prog w) (A.deeper (envOfC qual scope s.heap.objs.size f cdv)) (leaving (envOfC qual scope s.heap.objs.size f cdv) e) (fun _ s'' => R (.error e) s'') (fun e' s'' => R (.error e') s'') s')
        { s with heap := h₁, toks := tk })
    (hco : scope.isCoroutine = false := by rfl) (hgen : scope.isGenerator = false := by rfl) (hk : scope.kind = .function := by rfl) : codeC (model prog w) A (.call (.ref f) args) R s := by
  refine codeC_of_tree ?_
  show wpC _ A.in1 (callAny (.ref f) args) _ _ s
  simp only [callAny]
  refine C_anyBind (wpAny_load ho ?_)
  obtain ⟨c, oc, vs, tq, hc, hoc, hdc, hq⟩ := hcd
  subst hc
  simp only [hd, callFunction, hco, hgen]
  refine C_anyBind (m := field (.ref c) 1) (wpAny_field hoc hdc hq (C_anyBind (wpAny_pure ?_)))
  refine C_anyBind (hbind _ _ _ _ ?_)
  refine C_anyBind (wpAny_newFunctionEnv_cells hk (hkind _) fun env' he s' x => ?_)
  subst he
  refine C_anyBind (wpAny_enterFrame (hlim.keeps x.toInCall.keep) hroom (C_pure ⟨rfl, rfl, codeC_func ?_⟩))
  obtain ⟨h₁, tk, rfl, _⟩ := x.done
  obtain ⟨cells, NC, Y⟩ := Cl.news (h₀ := s.heap) (Nat.le_refl _) fun n c hm => ⟨x.cell n c (lookup_of_mem_nodup (cellsFrom_names scope.names 0 (s.heap.objs.size + 1) [] [] rfl ▸ hnd) hm), x.above n c hm⟩
  exact h h₁ tk cells x.toInCall.keep x.toInCall.ns NC Y
/-- a def whose locals lie in cells, entered on a calm stack; what it may turn is laid off -/
theorem enterX {p : Program} {loose : List Str} {K : Frag} {mean : ExcName → Option Value} {mg mb : Str → Option Value} {h₀ : Heap}
    {name qual : Str} {params : Arguments} {body : List Stmt} {scope : Scope} {dV kV doc pm cdv ct : Value} {an : Option Addr} {fo : Obj} {f : Addr} {args : Args} {binds : List (Str × Value)}
    (mods : List (Addr × Obj)) (hroom : A.depth < recursionLimit) (X : K.In h₀) (T : Top p loose mean mg mb h₀) (st : h₀.StaysIn s.heap)
    (hmods : ∀ q ∈ mods, s.heap.get? q.1 = some q.2 ∧ h₀.get? q.1 = none)
    (ho : s.heap.get? f = some fo) (hd : fo.data = .func (fnX name qual params body scope [] dV kV doc pm an cdv ct)) (hcd : s.heap.CodeRec cdv qual)
    (hbind : BindsTo s (fnX name qual params body scope [] dV kV doc pm an cdv ct) args binds)
    (hkind : ∀ n, ∀ x ∈ binds, scope.names.lookup x.1 = some .local ∨ (scope.names.lookup x.1 = some .cell ∧ ((cellsFrom n scope.names []).lookup x.1).isSome = true))
    (hnd : ((cellsFrom 0 scope.names []).map (·.1)).Nodup)
    (h : ∀ g L h₁ tk cells, L = s.heap.objs.size → (∀ b o, g.get? b = some o → s.heap.get? b = some o) → (∀ b o, s.heap.get? b = some o → b ∉ mods.map (·.1) → g.get? b = some o) → h₀.StaysIn g →
      Fr g L h₁ (bindL (envOfC qual scope L f cdv).kindOf binds fun _ => none) → News g L h₁ (cells ++ mods) → CellsAre (bindC (envOfC qual scope L f cdv).kindOf binds fun _ => none) (cellsFrom (L + 1) scope.names []) cells → K.In g → Top p loose mean mg mb g →
      (∀ p ∈ mods, p.1 < L) →
      wpC (model prog w) (A.deeper (envOfC qual scope L f cdv)) (execs body (envOfC qual scope L f cdv))
        (fun fl s' => R (.ok (.ret (match fl with | .ret v => v | _ => .none))) s')
        (fun e s' => wpAny (model prog w) (A.deeper (envOfC qual scope L f cdv)) (leaving (envOfC qual scope L f cdv) e) (fun _ s'' => R (.error e) s'') (fun e' s'' => R (.error e') s'') s')
        { s with heap := h₁, toks := tk })
    (hco : scope.isCoroutine = false := by rfl) (hgen : scope.isGenerator = false := by rfl) (hk : scope.kind = .function := by rfl) : codeC (model prog w) A (.call (.ref f) args) R s := by
  refine codeC_call_cells (T.nolimit.keeps st) ho hd hcd hroom hbind hkind hnd (fun h₁ tk cells hk₁ hns NC Y => ?_) hco hgen hk
  have nm : ∀ b o, h₀.get? b = some o → b ∉ mods.map (·.1) := fun b o e q => by
    obtain ⟨p, hp, rfl⟩ := List.mem_map.mp q
    rw [(hmods p hp).2] at e; cases e
  obtain ⟨H, hH⟩ : ∃ H, H = hideAll s.heap (mods.map Prod.fst) := ⟨_, rfl⟩
  have st' : h₀.StaysIn H := fun b o e => hH ▸ hideAll_get _ (st b o e) (nm b o e)
  have T' : Top p loose mean mg mb H := T.keeps st'
  have X' : K.In H := X.keeps st'
  refine h H s.heap.objs.size h₁ tk cells rfl (fun b o e => of_hideAll (mods.map Prod.fst) (hH ▸ e)) (fun b o e n => hH ▸ hideAll_get _ e n) st'
    ⟨hns, fun b o e => hk₁ b o (of_hideAll (mods.map Prod.fst) (hH ▸ e)), Nat.le_of_eq (hH ▸ hideAll_size _ _)⟩ (fun p hp => ?_) Y X' T' (fun p hp => Heap.lt_size (hmods p hp).1)
  rcases List.mem_append.mp hp with hp | hp
  · refine ⟨(NC p hp).1, (NC p hp).2.1, ?_⟩
    cases q : H.get? p.1 with
    | none => rfl
    | some o => have := of_hideAll (mods.map Prod.fst) (hH ▸ q); rw [(NC p hp).2.2] at this; cases this
  · exact ⟨hk₁ _ _ (hmods p hp).1, Nat.ne_of_lt (Heap.lt_size (hmods p hp).1), hH ▸ hideAll_none _ (List.mem_map_of_mem hp)⟩
/-- the same, with the def told by the fragment -/
theorem enterXK {p : Program} {loose : List Str} {K : Frag} {mean : ExcName → Option Value} {mg mb : Str → Option Value} {h₀ : Heap}
    {name qual : Str} {params : Arguments} {body : List Stmt} {scope : Scope} {dV kV doc pm cdv ct oc : Value} {an od : Option Addr} {osl : Array (Option Value)} {f : Addr} {args : Args} {binds : List (Str × Value)}
    (mods : List (Addr × Obj)) (hroom : A.depth < recursionLimit) (X : K.In h₀) (T : Top p loose mean mg mb h₀) (st : h₀.StaysIn s.heap)
    (hmods : ∀ q ∈ mods, s.heap.get? q.1 = some q.2 ∧ h₀.get? q.1 = none)
    (ho : K.lookup f = some ⟨oc, od, .func (fnX name qual params body scope [] dV kV doc pm an cdv ct), osl⟩) (hcd : codeIn K cdv qual = true)
    (hbind : BindsTo s (fnX name qual params body scope [] dV kV doc pm an cdv ct) args binds)
    (hkind : ∀ n, ∀ x ∈ binds, scope.names.lookup x.1 = some .local ∨ (scope.names.lookup x.1 = some .cell ∧ ((cellsFrom n scope.names []).lookup x.1).isSome = true))
    (hnd : ((cellsFrom 0 scope.names []).map (·.1)).Nodup)
    (h : ∀ g L h₁ tk cells, L = s.heap.objs.size → (∀ b o, g.get? b = some o → s.heap.get? b = some o) → (∀ b o, s.heap.get? b = some o → b ∉ mods.map (·.1) → g.get? b = some o) → h₀.StaysIn g →
      Fr g L h₁ (bindL (envOfC qual scope L f cdv).kindOf binds fun _ => none) → News g L h₁ (cells ++ mods) → CellsAre (bindC (envOfC qual scope L f cdv).kindOf binds fun _ => none) (cellsFrom (L + 1) scope.names []) cells → K.In g → Top p loose mean mg mb g →
      (∀ p ∈ mods, p.1 < L) →
      wpC (model prog w) (A.deeper (envOfC qual scope L f cdv)) (execs body (envOfC qual scope L f cdv))
        (fun fl s' => R (.ok (.ret (match fl with | .ret v => v | _ => .none))) s')
        (fun e s' => wpAny (model prog w) (A.deeper (envOfC qual scope L f cdv)) (leaving (envOfC qual scope L f cdv) e) (fun _ s'' => R (.error e) s'') (fun e' s'' => R (.error e') s'') s')
        { s with heap := h₁, toks := tk })
    (hco : scope.isCoroutine = false := by rfl) (hgen : scope.isGenerator = false := by rfl) (hk : scope.kind = .function := by rfl) : codeC (model prog w) A (.call (.ref f) args) R s :=
  enterX mods hroom X T st hmods (st _ _ (X _ _ ho)) rfl (codeRec_of (X.keeps st) hcd) hbind hkind hnd h hco hgen hk
end
end
section
theorem sub_None_bytes : isSubtype (.type "NoneType") (.type "bytes") = pure false := by rw [isSubtype_type]; kernel_rfl
theorem gives_bytes_eq_none (b : Array UInt8) (t : Tok) : Gives (Builtin.«bytes.__eq__» ⟨[.bytes b t, .none], []⟩) (.val Value.notImplemented) := by
  refine .of_wp fun M A E s Q h => ?_
  obtain ⟨hp, g, d, tk, os⟩ := s
  have hs := sub_None_bytes
  wp_walk
  exact ⟨_, rfl, h⟩
theorem gives_none_eq_bytes (b : Array UInt8) (t : Tok) : Gives (Builtin.«NoneType.__eq__» ⟨[.none, .bytes b t], []⟩) (.val Value.notImplemented) := by
  refine .of_wp fun M A E s Q h => ?_
  obtain ⟨hp, g, d, tk, os⟩ := s
  wp_walk
  exact ⟨_, rfl, h⟩
section
variable {prog : Program} {w : World} {A : Around} {E : Value → Shared → Prop} {s : Shared} {Q : Value → Shared → Prop}
theorem eq_bytes_none {b : Array UInt8} {t : Tok} (h : Q (.bool false) s) : wpAny (model prog w) A (compareOp .Eq (.bytes b t) .none) Q E s := by
  show wpAny _ A (richCompare .Eq _ _) Q E s
  exact PySem.EqNone.wpAny_richCompare_eq_decline (k := false) (fun s' => typeIs_bytes s' b t) (fun _ => rfl) (by decide) sub_None_bytes FB.slot_bytes_eq PySem.F.slot_NoneType_eq_refl rfl
    (call_gives FB.slot_bytes_eq (typeIs_bytes s b t) FB.entry_bytes_eq (FB.args_bytes_eq_2 _ _) (gives_bytes_eq_none b t)
      ⟨rfl, call_gives PySem.F.slot_NoneType_eq_refl rfl PySem.F.entry_NoneType_eq (PySem.F.args_NoneType_eq_2 _ _) (gives_none_eq_bytes b t) ⟨rfl, h⟩⟩)
end
end
section
/-- one object of the ledger turned; the rest does not hold it -/
inductive UpdT (D : Addr) (oD : Obj) : List (Addr × Obj) → (Obj → List (Addr × Obj)) → Prop
  | rest {r} : (∀ p ∈ r, p.1 ≠ D) → UpdT D oD r (fun _ => r)
  | it {r f} : UpdT D oD r f → UpdT D oD ((D, oD) :: r) (fun o => (D, o) :: f o)
  | oth {a : Addr} {x : Obj} {r f} : @Ne Nat a D → UpdT D oD r f → UpdT D oD ((a, x) :: r) (fun o => (a, x) :: f o)
theorem UpdT.spec {D : Addr} {oD : Obj} {news : List (Addr × Obj)} {f : Obj → List (Addr × Obj)} (U : UpdT D oD news f) (o : Obj) : ∀ p ∈ f o, p = (D, o) ∨ (p ∈ news ∧ p.1 ≠ D) := by
  induction U with
  | rest h => exact fun p hp => .inr ⟨hp, h p hp⟩
  | it _ ih =>
    intro p hp
    rcases List.mem_cons.mp hp with rfl | hp
    · exact .inl rfl
    · exact (ih p hp).imp id fun q => ⟨.tail _ q.1, q.2⟩
  | oth h1 _ ih =>
    intro p hp
    rcases List.mem_cons.mp hp with rfl | hp
    · exact .inr ⟨.head _, h1⟩
    · exact (ih p hp).imp id fun q => ⟨.tail _ q.1, q.2⟩
theorem putT {g h h' : Heap} {L D : Addr} {m : Str → Option Value} {news : List (Addr × Obj)} {f : Obj → List (Addr × Obj)} {oD oD' : Obj} (F : Fr g L h m) (N : News g L h news)
    (mD : (D, oD) ∈ news) (U : UpdT D oD news f) (hs : ∀ b o, b ≠ D → h.get? b = some o → h'.get? b = some o) (hD : h'.get? D = some oD') : Fr g L h' m ∧ News g L h' (f oD') := by
  have z := N _ mD
  refine ⟨frE F (Ne.symm z.2.1) z.2.2 hs, fun p hp => ?_⟩
  rcases U.spec oD' p hp with rfl | ⟨q, n⟩
  · exact ⟨hD, z.2⟩
  · exact ⟨hs _ _ n (N p q).1, (N p q).2⟩
theorem appendT {prog : Program} {w : World} {A : Around} {E : Value → Shared → Prop} {s : Shared} {h₀ : Heap} {L D : Addr} {m : Str → Option Value} {news : List (Addr × Obj)} {f : Obj → List (Addr × Obj)} {its : List Value} {n : Nat} {x : Value} {Q : Value → Shared → Prop}
    (F : Fr h₀ L s.heap m) (N : News h₀ L s.heap news) (mD : (D, W.listOf its.toArray n) ∈ news) (U : UpdT D (W.listOf its.toArray n) news f) (hz : its.length ≤ 1000)
    (h : ∀ h', Fr h₀ L h' m → News h₀ L h' (f (W.listOf (its ++ [x]).toArray (n + 1))) → Q .none { s with heap := h' }) : wpAny (model prog w) A (call (.builtin "list.append") [.ref D, x]) Q E s := by
  refine append_at (its := its.toArray) (n := n) (hsz := by rw [sizeLine_eq, List.size_toArray]; omega) (N _ mD).1 fun h' hs ho' => ?_
  obtain ⟨F', N'⟩ := putT F N mD U (fun b o hb q => (hs.2 b hb).trans q) ho'
  rw [List.push_toArray] at N'
  exact h h' F' N'
abbrev llM (begin : Int) (t3 : Tok) (pa M O : Addr) (q : Option Value) (d : Array UInt8) (td : Tok) : Str → Option Value := fun y =>
  if y = "earlier" then q else if y = "offsets" then some (.ref O) else if y = "data" then some (.bytes d td) else if y = "met" then some (.ref M) else if y = "parts" then some (.ref pa) else if y = "begin" then some (.int begin t3) else none
theorem llaid_raw {w : World} {mean : ExcName → Option Value} {mg mb : Str → Option Value} {A : Around} {h₀ : Heap} {s : Shared} {R : Result → Shared → Prop} {pa : Addr} {xs : List Value} {e0 : Nat} {ps : List (Option (Array UInt8))} {begin : Int} {t3 : Tok} {sh : Bool}
    (hroom : A.depth + 4 < recursionLimit) (hun : A.units + 300 < cLine) (hh : A.handled = none) (X : (hd.heap_39 w.params).In h₀) (T : TT mean mg mb h₀) (st : h₀.StaysIn s.heap)
    (hp : s.heap.get? pa = some (W.listOf xs.toArray e0)) (hxs : PartsAre xs ps) (hl : ps.length ≤ 8) (hb0 : 0 ≤ begin) (hb1 : begin ≤ 65535)
    (hR1 : ∀ h' tk T O offs e1 st t, (∀ b o, s.heap.get? b = some o → h'.get? b = some o) → s.heap.get? T = none → s.heap.get? O = none → runW begin sh WS.init ps = some st → IntsAre offs st.offs → st.data.size ≤ 32 → offs.length ≤ 8 →
      h'.get? T = some { cls := .type "tuple", data := .seq #[.ref O, .bytes st.data t] } → h'.get? O = some (W.listOf offs.toArray e1) → R (.ok (.ret (.ref T))) { s with heap := h', toks := tk })
    (hR2 : ∀ h' tk, runW begin sh WS.init ps = none → (∀ b o, s.heap.get? b = some o → h'.get? b = some o) → R (.ok (.ret .none)) { s with heap := h', toks := tk }) :
    codeC (model PySem.Challenge.rw_nu0146_01.row.prog w) A (.call (.ref 109) ⟨[.int begin t3, .ref pa, .bool sh], []⟩) R s := by
  w_on
  have XS := X.keeps st
  refine' enterXK [] (binds := [("begin", .int begin t3), ("parts", .ref pa), ("is_shared", .bool sh)]) (by omega) X T st ?hm ?k6 ?k7 (BindsTo.of_eq ?k9) ?kk ?kn ?_ ?c2 ?c3 ?c4
  (case hm => exact fun _ h => nomatch h)
  (case k6 => k_is)
  (case k7 => k_is)
  (case k9 => rfl)
  (case kk => (intro n y hy; simp only [List.mem_cons, List.not_mem_nil, or_false] at hy; rcases hy with rfl | rfl | rfl <;> first | exact .inl rfl | exact .inr ⟨rfl, rfl⟩))
  (case kn => decide)
  (case c2 => rfl)
  (case c3 => rfl)
  (case c4 => rfl)
  intro g L' h₁ tk cells hL hg hg' st' F N Y KX T' _
  have F₁ : Fr g L' h₁ (fun y => if y = "parts" then some (.ref pa) else if y = "begin" then some (.int begin t3) else none) := fr_congr F (fun y => rfl)
  obtain ⟨o2, o1, rfl, hd2, hd1⟩ := CellsAre.two (n := "part") (c := L' + 1 + 1) (n' := "is_shared") (c' := L' + 1) Y
  replace hd1 : o1.data = .cell (some (.bool sh)) := hd1
  replace hd2 : o2.data = .cell none := hd2
  have hxl : xs.length = ps.length := hxs.len
  have gp : g.get? pa = some (W.listOf xs.toArray e0) := hg' _ _ hp (by simp)
  have lift : ∀ (h' : Heap) (m : Str → Option Value), Fr g L' h' m → ∀ b o, s.heap.get? b = some o → h'.get? b = some o := fun _ _ F' b o q => F'.keep b o (hg' b o q (by simp))
  have fresh : ∀ b, g.get? b = none → s.heap.get? b = none := fun b hb => by
    cases z : s.heap.get? b with
    | none => rfl
    | some o => rw [hg' b o z (by simp)] at hb; cases hb
  clear X T st hg' st' hg hp F Y XS
  simp only [List.cons_append, List.nil_append] at N
  try dsimp only
  try k_fold
  refine C_execs_cons (C_any ?_)
  k_steps
  rename_i O _ lO M _ lM DT hD F₂ N₂ lD
  refine unpackItemsN_ F₂ N₂ (News.isTup N₂ (.head _)) hh rfl ?_
  intro h₃ F₃ N₃
  k_steps
  rename_i h₄ F₄ N₄
  dsimp only at F₄ ⊢
  have N₅ : News g L' h₄ [(M, W.listOf #[] 0), (O, W.listOf #[] 0), (L' + 1 + 1, o2), (L' + 1, o1)] := fun p hp => N₄ p (.tail _ hp)
  clear lD N₄
  (try clear F₂); (try clear N₂); (try clear F₃); (try clear N₃)
  obtain ⟨lO1, lO2⟩ := lO
  obtain ⟨lM0, lM1, lM2⟩ := lM
  refine C_execs_cons (C_For ?_)
  k_steps
  rename News _ _ _ _ => N₆
  rename Fr _ _ _ _ => F₆
  refine wpAny_pyIter_list (items := xs.toArray) ⟨_, F₆.keep _ _ gp, rfl, _, rfl⟩ ?_
  obtain ⟨it, hite⟩ : ∃ it : Addr, it = h₄.objs.size := ⟨_, rfl⟩
  have hitO : (h₄.push { cls := .type "list_iterator", data := .fields #[.ref pa, .int 0 0] }).get? it = some { cls := .type "list_iterator", data := .fields #[.ref pa, .int 0 0] } := hite ▸ Heap.get?_push_size _ rfl
  obtain ⟨F₇, N₇, lI⟩ := ks_newsPush (s := { s with heap := h₄ }) F₆ N₆ hite hitO (fun b o e => Heap.get?_push_of_some _ e)
  dsimp only at F₇ N₇ lI ⊢
  rw [← hite]
  have hMI : @LT.lt Nat _ M it := lI (M, _) (.head _)
  have hOI : @LT.lt Nat _ O it := lI (O, _) (.tail _ (.head _))
  clear lI hitO hite N₆ F₆
  generalize h₄.push { cls := .type "list_iterator", data := .fields #[.ref pa, .int 0 0] } = h₅ at F₇ N₇ ⊢
  refine codeC_forLoopA (fun n s' => ∃ (h' : Heap) (tk : Nat) (q : Option Value) (td : Tok) (o2 : Obj) (i : Nat) (vs : List Value) (qs : List (Option (Array UInt8))) (offs : List Value) (e1 : Nat) (msv : List Value) (e2 : Nat) (st : WS) (oI : Obj) (tups : List (Addr × Obj)),
    s' = { s with heap := h', toks := tk } ∧ Fr g L' h' (llM begin t3 pa M O q st.data td) ∧ News g L' h' ((it, oI) :: (M, W.listOf msv.toArray e2) :: (O, W.listOf offs.toArray e1) :: (L' + 1 + 1, o2) :: (L' + 1, o1) :: tups) ∧ (∃ vc, o2.data = .cell vc) ∧
    (∀ (h : Heap) (a : Addr), h.get? a = some oI → h.IsListIter a pa i) ∧ (∀ p ∈ tups, (p.1 ≠ it ∧ p.1 ≠ M ∧ p.1 ≠ O) ∧ p.1 ≠ (L' + 1 + 1) ∧ p.1 ≠ (L' + 1)) ∧ (∀ h : Heap, (∀ p ∈ tups, h.get? p.1 = some p.2) → MetAre h msv st.met) ∧
    st.data.size ≤ 4 * i ∧ IntsAre offs st.offs ∧ offs.length = i ∧ msv.length ≤ i ∧ xs.drop i = vs ∧ PartsAre vs qs ∧ runW begin sh st qs = runW begin sh WS.init ps ∧ n = vs.length + 1 ∧ i + vs.length ≤ 8) ?turn (xs.length + 1) ?init
  case init =>
    refine ⟨h₅, _, none, tk, o2, 0, xs, ps, [], 0, [], 0, WS.init, _, [], rfl, ?_, N₇, ⟨_, hd2⟩, ?_, fun p hp => (nomatch hp), fun _ _ => .nil, Nat.le_refl _, .nil, rfl, Nat.le_refl _, rfl, hxs, rfl, rfl, by omega⟩
    · refine fr_congr F₇ fun y => ?_
      unfold llM
      by_cases h1 : y = "earlier"
      · subst h1; rfl
      · rw [if_neg h1]; rfl
    · exact fun h a e => ⟨_, e, rfl, rfl⟩
  case turn =>
    clear N₇ F₇
    intro I₁ R₁ hI₁ hR₁
    rintro n s' ⟨h', tk, q, td, o2, i, vs, qs, offs, e1, msv, e2, st, oI, tups, rfl, F, N, ⟨vc, hvc⟩, hI, hap, hmt, hd4, hi, hol, hml, hdr, hpa, hrun, rfl, hi8⟩
    have hit := hI _ _ (N _ (.head _)).1
    have hlst : h'.IsList pa xs.toArray := ⟨_, F.keep _ _ gp, rfl, _, rfl⟩
    have mI : (it, oI) ∈ ((it, oI) :: (M, W.listOf msv.toArray e2) :: (O, W.listOf offs.toArray e1) :: (L' + 1 + 1, o2) :: (L' + 1, o1) :: tups) := .head _
    have uI : ∀ o, UpdT it o ((it, o) :: (M, W.listOf msv.toArray e2) :: (O, W.listOf offs.toArray e1) :: (L' + 1 + 1, o2) :: (L' + 1, o1) :: tups) (fun o => (it, o) :: (M, W.listOf msv.toArray e2) :: (O, W.listOf offs.toArray e1) :: (L' + 1 + 1, o2) :: (L' + 1, o1) :: tups) :=
      fun o => .it (.oth (Nat.ne_of_lt hMI) (.oth (Nat.ne_of_lt hOI) (.oth (by omega) (.oth (by omega) (.rest fun p hp => (hap p hp).1.1)))))
    cases hpa with
    | nil =>
      simp only [List.length_nil, Nat.add_zero] at hi8
      refine wpAny_pyNext_list_end (items := xs.toArray) hh hit hlst ?_ fun h₆ he₆ => ?_
      · have : xs.length ≤ i := by simpa using hdr
        simp [this]
      have F₆ := frE F (Ne.symm (N _ mI).2.1) (N _ mI).2.2 he₆
      have N₆ : News g L' h₆ [(O, W.listOf offs.toArray e1)] := fun p hp => by
        have z := N p (.tail _ (.tail _ (by simp only [List.mem_cons, List.not_mem_nil, or_false] at hp; rw [hp]; exact .head _)))
        refine ⟨he₆ _ _ ?_ z.1, z.2⟩
        simp only [List.mem_cons, List.not_mem_nil, or_false] at hp
        rw [hp]; exact Nat.ne_of_lt hOI
      clear N F he₆ hlst hit
      refine hR₁ _ _ ?_
      show wpC _ _ _ _ _ _
      refine C_execs_cons (C_any ?_)
      unfold llM at F₆
      k_steps
      rename_i Tp hT F₇ N₇ _
      exact hR1 hT _ Tp O offs e1 st td (lift _ _ F₇) (fresh _ (N₇ _ (.head _)).2.2) (fresh _ (N₇ (O, _) (.tail _ (.head _))).2.2) hrun.symm hi (by omega) (by omega) (N₇ _ (.head _)).1 (N₇ (O, _) (.tail _ (.head _))).1
    | @cons v pp vs qs hpi hpr =>
      simp only [List.length_cons] at hi8
      have hlt : i < xs.length := by
        rcases Nat.lt_or_ge i xs.length with z | z
        · exact z
        · rw [List.drop_eq_nil_of_le z] at hdr; cases hdr
      have hx : xs[i]? = some v := by
        have := congrArg List.head? hdr
        rwa [List.head?_drop, List.head?_cons] at this
      have hdr' : xs.drop (i + 1) = vs := by
        have := congrArg List.tail hdr
        rwa [List.tail_drop, List.tail_cons] at this
      refine wpAny_pyNext_list_item (items := xs.toArray) hit hlst (by simpa using hx) fun h₆ hit₆ hs₆ => ?_
      obtain ⟨oI', hoI, hcI, hdI⟩ := hit₆
      have hI' : ∀ (h : Heap) (a : Addr), h.get? a = some oI' → h.IsListIter a pa (i + 1) := fun h a e => ⟨oI', e, hcI, hdI⟩
      obtain ⟨F₆, N₆⟩ := putT F N mI (uI oI) (fun b o hb q => (hs₆.2 b hb).trans q) hoI
      clear hs₆ hoI hcI hdI hI hit hlst N F
      refine wpAny_assign_Name (wpAny_storeName_cell (c := L' + 1 + 1) rfl rfl rfl ⟨_, (N₆ (L' + 1 + 1, o2) (.tail _ (.tail _ (.tail _ (.head _))))).1, hvc⟩ fun h₇ hc₇ hs₇ => ?_)
      obtain ⟨o2', ho2, hd2'⟩ := hc₇
      obtain ⟨F₇, N₇⟩ := putT (D := L' + 1 + 1) F₆ N₆ (.tail _ (.tail _ (.tail _ (.head _)))) (.oth (by omega) (.oth (by omega) (.oth (by omega) (.it (.oth (by omega) (.rest fun p hp => (hap p hp).2.1)))))) (fun b o hb q => (hs₇.2 b hb).trans q) ho2
      clear N₆ F₆ ho2 hs₇ mI uI
      dsimp only at F₇ N₇ ⊢
      refine C_execs_cons (C_any ?_)
      have cP : h₇.IsCell (L' + 1 + 1) (some v) := ⟨_, (N₇ (L' + 1 + 1, o2') (.tail _ (.tail _ (.tail _ (.head _))))).1, hd2'⟩
      have cS : h₇.IsCell (L' + 1) (some (.bool sh)) := ⟨_, (N₇ (L' + 1, o1) (.tail _ (.tail _ (.tail _ (.tail _ (.head _)))))).1, hd1⟩
      refine assign_pairs (eqPart sh pp) hh (by rfl) (by rfl) (by decide) (by rfl) (by decide) (by rfl) (by rfl) (by decide) (by decide) (by rfl) (by rfl) ?_ (by intro _; rfl)
      refine ldLoc F₇ (v := .ref M) (by rfl) ?_
      refine ⟨M, msv, st.met, e2, _, rfl, (N₇ (M, _) (.tail _ (.head _))).1, hmt _ (fun p hp => (N₇ p (.tail _ (.tail _ (.tail _ (.tail _ (.tail _ hp)))))).1), by rw [sizeLine_eq]; omega, F₇.ns, ?test, ?fin⟩
      case test =>
        intro C h₂ tk₂ m₂ bb tb E' hn₂ hone hk₂ hC
        rw [arm_isTrue_BoolOp]
        refine wpAny_allTrue_And_cons (wpAny_isTrue_Compare1 ?_)
        refine ldVarK hn₂ hone ?_
        refine ldCellK (c := L' + 1 + 1) (by rfl) (cP.keeps hk₂) ?_
        cases pp with
        | none =>
          obtain rfl : v = .none := hpi
          refine eq_bytes_none (wpAny_truthy_bool ?_)
          exact ⟨rfl, h₂, _, rfl, fun b o e => e⟩
        | some b =>
          obtain ⟨tb', rfl, _⟩ := hpi
          refine eq_bytes (wpAny_truthy_bool ?_)
          cases hbb : (bb.toList == b.toList) with
          | false => exact ⟨by show false = ((bb.toList == b.toList) && sh); rw [hbb]; rfl, h₂, _, rfl, fun b o e => e⟩
          | true =>
            refine wpAny_allTrue_And_cons (wpAny_isTrue_value (ldCellK (c := L' + 1) (by rfl) (cS.keeps hk₂) (wpAny_truthy_bool ?_)) (by rfl))
            cases sh with
            | false => exact ⟨by show false = ((bb.toList == b.toList) && false); rw [hbb]; rfl, h₂, _, rfl, fun b o e => e⟩
            | true => exact wpAny_allTrue_And_nil ⟨by show true = ((bb.toList == b.toList) && true); rw [hbb]; rfl, h₂, _, rfl, fun b o e => e⟩
      case fin =>
        intro D h₈ tk₈ ys e8 nD gD hys hn₈ hk₈
        have F₈ : Fr g L' h₈ (llM begin t3 pa M O (some (.ref D)) st.data td) := fr_congr (m := fun z => if z = "earlier" then some (.ref D) else llM begin t3 pa M O q st.data td z)
          ⟨hn₈, fun b o e => hk₈ b o (Nat.ne_of_lt (Nat.lt_of_lt_of_le (Heap.lt_size e) F₇.above)) (F₇.keep b o e), F₇.above⟩ (fun y => by unfold llM; by_cases h1 : y = "earlier" <;> simp [h1])
        have hDn : ∀ p ∈ ((it, oI') :: (M, W.listOf msv.toArray e2) :: (O, W.listOf offs.toArray e1) :: (L' + 1 + 1, o2') :: (L' + 1, o1) :: tups), p.1 ≠ D := fun p hp z => by
          have w := (N₇ p hp).1
          rw [z, nD] at w; cases w
        have gD' : g.get? D = none := by
          cases z : g.get? D with
          | none => rfl
          | some o => have := F₇.keep _ _ z; rw [nD] at this; cases this
        have hDL : D ≠ L' := fun z => by
          obtain ⟨o, _, _, ho, _⟩ := F₇.ns
          rw [z, ho] at nD; cases nD
        have N₈ : News g L' h₈ ((D, W.listOf ys.toArray e8) :: (it, oI') :: (M, W.listOf msv.toArray e2) :: (O, W.listOf offs.toArray e1) :: (L' + 1 + 1, o2') :: (L' + 1, o1) :: tups) := fun p hp => by
          rcases List.mem_cons.mp hp with rfl | hp
          · exact ⟨gD, hDL, gD'⟩
          · exact ⟨hk₈ _ _ (N₇ p hp).2.1 (N₇ p hp).1, (N₇ p hp).2⟩
        clear hk₈ hn₈ gD nD cP cS N₇ F₇
        show wpC _ _ _ _ _ _
        have nDO : @Ne Nat D O := Ne.symm (hDn (O, _) (.tail _ (.tail _ (.head _))))
        have nDM : @Ne Nat D M := Ne.symm (hDn (M, _) (.tail _ (.head _)))
        have nDI : @Ne Nat D it := Ne.symm (hDn (it, _) (.head _))
        have uO : ∀ x, UpdT O x ((D, W.listOf ys.toArray e8) :: (it, oI') :: (M, W.listOf msv.toArray e2) :: (O, x) :: (L' + 1 + 1, o2') :: (L' + 1, o1) :: tups) (fun o => (D, W.listOf ys.toArray e8) :: (it, oI') :: (M, W.listOf msv.toArray e2) :: (O, o) :: (L' + 1 + 1, o2') :: (L' + 1, o1) :: tups) :=
          fun o => .oth nDO (.oth (Nat.ne_of_gt hOI) (.oth (Nat.ne_of_gt lM0) (.it (.oth (Nat.ne_of_lt lO1) (.oth (Nat.ne_of_lt lO2) (.rest fun p hp => (hap p hp).1.2.2))))))
        have mO : ∀ x, (O, x) ∈ ((D, W.listOf ys.toArray e8) :: (it, oI') :: (M, W.listOf msv.toArray e2) :: (O, x) :: (L' + 1 + 1, o2') :: (L' + 1, o1) :: tups) := fun x => .tail _ (.tail _ (.tail _ (.head _)))
        unfold llM at F₈
        cases pp with
        | none =>
          obtain rfl : v = .none := hpi
          refine C_execs_cons (C_If (C_any ?_))
          k_steps
          refine C_execs_cons (C_any ?_)
          k_steps
          refine appendT (by assumption) (by assumption) (mO _) (uO _) (by omega) fun h₉ F₉ N₉ => ?_
          k_steps
          refine C_execs_nil (C_execs_nil ?_)
          exact ⟨vs.length + 1, by simp, hI₁ _ _ ⟨h₉, _, some (.ref D), td, o2', i + 1, vs, qs, _, e1 + 1, msv, e2, ⟨st.offs ++ [0], st.met, st.data⟩, oI', tups, rfl, F₉, fun p hp => N₉ p (.tail _ hp), ⟨_, hd2'⟩, hI', hap, hmt, by (show st.data.size ≤ _); omega,
            ints_append1 hi 0 _, by simp [hol], by omega, hdr', hpr, by rw [← hrun]; rfl, rfl, by omega⟩⟩
        | some b =>
          obtain ⟨tb, rfl, hbz⟩ := hpi
          refine C_execs_cons (C_If (C_any ?_))
          k_steps
          show wpC _ _ _ _ _ _
          refine C_execs_cons (C_If (C_any ?_))
          k_steps
          · rename_i Z h₉ F₉ N₉ lZ hne
            have he := of_decide_eq_true hne
            show wpC _ _ _ _ _ _
            have hes : early sh st (some b) = [] := he
            refine C_execs_cons (C_If (C_any ?_))
            k_steps
            · rename_i hgt
              have hnone : stepW begin sh st (some b) = none := stepW_none hes hgt
              refine C_execs_cons (C_any ?_)
              k_steps
              rename Fr _ _ _ _ => Fz
              exact hR₁ _ _ (hR2 _ _ (by rw [← hrun]; simp [runW, hnone]) (lift _ _ Fz))
            · rename_i hgt
              have hsome := stepW_some (begin := begin) hes hgt
              refine C_execs_nil ?_
              show wpC _ _ _ _ _ _
              refine C_execs_cons (C_any ?_)
              k_steps
              rename_i Tp h10 F10 N10 lT
              dsimp only at N10 ⊢
              obtain ⟨-, -, nTI, nTM, nTO, nT2, nT1, nTt⟩ := lT
              have nTt' : ∀ p ∈ tups, p.1 ≠ Tp := fun p hp => Nat.ne_of_lt (kst_ltOf nTt p hp)
              obtain ⟨tq, N11⟩ : ∃ tq, News g L' h10 ((it, oI') :: (M, W.listOf msv.toArray e2) :: (O, W.listOf offs.toArray e1) :: (L' + 1 + 1, o2') :: (L' + 1, o1) :: (Tp, tupO #[.int (begin + (st.data.size : Int)) tq, .bytes b tb]) :: tups) := ⟨_, fun p hp => by
                simp only [List.mem_cons] at hp
                rcases hp with h | h | h | h | h | h | h
                · rw [h]; exact N10 _ (.tail _ (.tail _ (.tail _ (.head _))))
                · rw [h]; exact N10 _ (.tail _ (.tail _ (.tail _ (.tail _ (.head _)))))
                · rw [h]; exact N10 _ (.tail _ (.tail _ (.tail _ (.tail _ (.tail _ (.head _))))))
                · rw [h]; exact N10 _ (.tail _ (.tail _ (.tail _ (.tail _ (.tail _ (.tail _ (.head _)))))))
                · rw [h]; exact N10 _ (.tail _ (.tail _ (.tail _ (.tail _ (.tail _ (.tail _ (.tail _ (.head _))))))))
                · rw [h]; exact N10 _ (.head _)
                · exact N10 _ (.tail _ (.tail _ (.tail _ (.tail _ (.tail _ (.tail _ (.tail _ (.tail _ h))))))))⟩
              clear N10
              refine appendT (by assumption) N11 (.tail _ (.head _)) (.oth (Nat.ne_of_gt hMI) (.it (.oth (Nat.ne_of_lt lM0) (.oth (Nat.ne_of_lt lM1) (.oth (Nat.ne_of_lt lM2) (.oth (Nat.ne_of_gt nTM) (.rest fun p hp => (hap p hp).1.2.1))))))) (by omega) fun h11 F11 N12 => ?_
              clear N11
              k_steps
              refine C_execs_cons (C_any ?_)
              k_steps
              refine appendT (by assumption) (by assumption) (.tail _ (.tail _ (.head _))) (.oth (Nat.ne_of_gt hOI) (.oth (Nat.ne_of_gt lM0) (.it (.oth (Nat.ne_of_lt lO1) (.oth (Nat.ne_of_lt lO2) (.oth (Nat.ne_of_gt nTO) (.rest fun p hp => (hap p hp).1.2.2))))))) (by omega) fun h12 F12 N13 => ?_
              k_steps
              refine C_execs_cons (C_any ?_)
              k_steps
              refine KBy.add_bytes (by omega) fun td' k' => ?_
              dsimp only
              k_steps
              rename Fr _ _ _ _ => F14
              rename News _ _ _ _ => N14
              refine C_execs_nil (C_execs_nil (C_execs_nil ?_))
              refine ⟨vs.length + 1, by simp, hI₁ _ _ ⟨_, _, some (.ref D), td', o2', i + 1, vs, qs, _, e1 + 1, _, e2 + 1, ⟨st.offs ++ [begin + (st.data.size : Int)], st.met ++ [(begin + (st.data.size : Int), b)], st.data ++ b⟩, oI', (Tp, tupO #[.int (begin + (st.data.size : Int)) tq, .bytes b tb]) :: tups, rfl, fr_congr F14 (fun y => ?_), N14, ⟨_, hd2'⟩, hI', ?_, ?_,
                by (show (st.data ++ b).size ≤ _); rw [Array.size_append]; omega, ints_append1 hi _ _, by simp [hol], by simp; omega, hdr', hpr, by rw [← hrun]; simp [runW, hsome], rfl, by omega⟩⟩
              · unfold llM
                by_cases h1 : y = "data"
                · subst h1; rfl
                · rw [if_neg h1]
                  by_cases h2 : y = "earlier"
                  · subst h2; rfl
                  · by_cases h3 : y = "offsets"
                    · subst h3; rfl
                    · simp only [if_neg h1, if_neg h2, if_neg h3]
              · intro p hp
                rcases List.mem_cons.mp hp with rfl | hp
                · exact ⟨⟨Nat.ne_of_gt nTI, Nat.ne_of_gt nTM, Nat.ne_of_gt nTO⟩, Nat.ne_of_gt nT2, Nat.ne_of_gt nT1⟩
                · exact hap p hp
              · intro h hh'
                exact (hmt h fun p hp => hh' p (.tail _ hp)).append (.cons (hh' _ (.head _)) .nil)
          · rename_i Z h₉ F₉ N₉ lZ hne
            obtain ⟨x, r, he⟩ := List.exists_cons_of_ne_nil (of_decide_eq_false hne)
            rw [he] at hys
            obtain ⟨tx, ys', rfl, hys'⟩ := hys.cons_inv
            refine C_execs_cons (C_any ?_)
            k_steps
            refine appendT (by assumption) (by assumption) (.tail _ (mO _)) (.oth (by omega) (uO _)) (by omega) fun h10 F10 N10 => ?_
            k_steps
            refine C_execs_nil (C_execs_nil (C_execs_nil ?_))
            exact ⟨vs.length + 1, by simp, hI₁ _ _ ⟨h10, _, some (.ref D), td, o2', i + 1, vs, qs, _, e1 + 1, msv, e2, ⟨st.offs ++ [x], st.met, st.data⟩, oI', tups, rfl, F10, fun p hp => N10 p (.tail _ (.tail _ hp)), ⟨_, hd2'⟩, hI', hap, hmt, by (show st.data.size ≤ _); omega,
              ints_append1 hi x _, by simp [hol], by omega, hdr', hpr, by rw [← hrun]; simp [runW, stepW_hit (show early sh st (some b) = x :: r from he)], rfl, by omega⟩⟩
end
section
theorem all_true : ∀ l : List Nat, (l.all fun _ => true) = true
  | [] => rfl
  | _ :: r => by rw [List.all_cons, all_true r]; rfl
section
variable {A : Around} {s : Shared}
theorem eqAt_bytes (b : Array UInt8) (t u : Tok) : PySem.SeqAt.EqAt A s (.bytes b t) (.bytes b u) true := fun prog w E Q hq =>
  (bytesKind prog w).eqBool (a := b.toList) (b := b.toList) (by simp [bytesKind, isBytes]) (by simp [bytesKind, isBytes]) (by simpa using hq)
theorem eqAt_ints {a b : Addr} {xs ys : List Value} {ns : List Int} (hne : a ≠ b) (ha : s.heap.IsList a xs.toArray) (hb : s.heap.IsList b ys.toArray) (hi : IntsAre xs ns) (hj : IntsAre ys ns) (hu : A.units + 64 < cLine) :
    PySem.SeqAt.EqAt A s (.ref a) (.ref b) true := PySem.SeqAt.EqAt.of_refs hne fun prog w E Q h => by
  show wpAny _ _ (compareOp .Eq (.ref a) (.ref b)) _ _ _
  exact ke_eq_ints ha hb hi hj hu (by simpa using h)
variable {prog : Program} {w : World} {E : Value → Shared → Prop} {Q : Value → Shared → Prop}
/-- two results of laying that agree -/
theorem ne_results {T1 T2 O1 O2 : Addr} {b : Array UInt8} {t1 t2 : Tok} {xs ys : List Value} {e1 e2 : Nat} {ns : List Int} (hO : O1 ≠ O2)
    (h1 : s.heap.get? T1 = some { cls := .type "tuple", data := .seq #[.ref O1, .bytes b t1] }) (h2 : s.heap.get? T2 = some { cls := .type "tuple", data := .seq #[.ref O2, .bytes b t2] })
    (g1 : s.heap.get? O1 = some (W.listOf xs.toArray e1)) (g2 : s.heap.get? O2 = some (W.listOf ys.toArray e2)) (hi : IntsAre xs ns) (hj : IntsAre ys ns) (hu : A.units + 70 < cLine) (h : Q (.bool false) s) :
    wpAny (model prog w) A (compareOp .NotEq (.ref T1) (.ref T2)) Q E s := by
  show wpAny _ _ (richCompare .NotEq (.ref T1) (.ref T2)) _ _ _
  refine PySem.SeqAt.RcNeAt.tuples (e := fun _ => true) ⟨_, h1, rfl, _, rfl⟩ ⟨_, h2, rfl, _, rfl⟩ (by omega) (fun j j1 j2 => ?_) prog w E Q (by rw [all_true]; exact h)
  match j, j1, j2 with
  | 0, _, _ => exact eqAt_ints hO ⟨_, g1, rfl, _, rfl⟩ ⟨_, g2, rfl, _, rfl⟩ hi hj (by rw [units_in1]; omega)
  | 1, _, _ => exact eqAt_bytes b t1 t2
  | (n + 2), j1, _ => exact absurd j1 (by simp)
/-- a list and its copy -/
theorem ne_copy {l1 l2 : Addr} {xs : List Value} {e1 e2 : Nat} (g1 : s.heap.get? l1 = some (W.listOf xs.toArray e1)) (g2 : s.heap.get? l2 = some (W.listOf xs.toArray e2)) (hu : A.units + 70 < cLine) (h : Q (.bool false) s) :
    wpAny (model prog w) A (compareOp .NotEq (.ref l1) (.ref l2)) Q E s := by
  show wpAny _ _ (richCompare .NotEq (.ref l1) (.ref l2)) _ _ _
  exact PySem.SeqAt.RcNeAt.lists (e := fun _ => true) ⟨_, g1, rfl, _, rfl⟩ ⟨_, g2, rfl, _, rfl⟩ rfl (by omega) (fun j j1 j2 => PySem.SeqAt.EqAt.same _) prog w E Q (by rw [all_true]; exact h)
end
end
section
theorem and_shift (n m : Nat) (h : m < 256) : (n * 256) &&& m = 0 := by
  apply Nat.eq_of_testBit_eq
  intro i
  rw [Nat.testBit_and, Nat.zero_testBit]
  rcases Nat.lt_or_ge i 8 with hi | hi
  · have : (n * 256).testBit i = false := by
      rw [Nat.mul_comm, show (256 : Nat) = 2 ^ 8 from rfl, Nat.testBit_two_pow_mul]
      simp; omega
    rw [this]; rfl
  · have : m.testBit i = false := Nat.testBit_lt_two_pow (Nat.lt_of_lt_of_le h (by rw [show (256 : Nat) = 2 ^ 8 from rfl]; exact Nat.pow_le_pow_right (by decide) hi))
    rw [this, Bool.and_false]
theorem or_sum {x k : Int} (hx : 0 ≤ x) (h0 : 0 ≤ k) (h1 : k < 256) : Builtin.bitOr (x * 2 ^ Int.toNat 8) k = x * 256 + k := by
  have e : x * 2 ^ Int.toNat 8 = x * 256 := rfl
  rw [e, bitOr_and, bitAnd_pp (by omega) h0]
  have : (x * 256).toNat = x.toNat * 256 := by omega
  rw [this, and_shift _ _ (by omega)]
  omega
theorem and_mask {x : Int} (hx : 0 ≤ x) : Builtin.bitAnd x 4294967295 = x % 4294967296 := by
  rw [bitAnd_pp hx (by decide)]
  have h : x.toNat &&& (4294967295 : Int).toNat = x.toNat % 4294967296 := Nat.and_two_pow_sub_one_eq_mod x.toNat 32
  rw [h]
  omega
section
variable {prog : Program} {w : World} {A : Around} {E : Value → Shared → Prop} {s : Shared}
theorem or_step {x k : Int} {t u : Tok} {Q : Value → Shared → Prop} (hx : 0 ≤ x) (h0 : 0 ≤ k) (h1 : k < 256) (h : Q (.int (x * 256 + k) s.toks) { s with toks := s.toks + 1 }) :
    wpAny (model prog w) A (binaryOp .BitOr (.int (x * 2 ^ Int.toNat 8) t) (.int k u)) Q E s := or_int (by rw [or_sum hx h0 h1]; exact h)
end
end
section
theorem room_raw {w : World} {mean : ExcName → Option Value} {mg mb : Str → Option Value} {A : Around} {h₀ : Heap} {s : Shared} {R : Result → Shared → Prop} {d : Array UInt8} {t u v : Tok} {at_ : Int}
    (hroom : A.depth + 1 < recursionLimit) (hun : A.units + 200 < cLine) (X : (hd.heap_39 w.params).In h₀) (T : TT mean mg mb h₀) (st : h₀.StaysIn s.heap)
    (h0 : 0 ≤ at_) (h1 : at_ + 4 ≤ d.size) (h2 : d.size ≤ 100)
    (hR : ∀ h' tk, (∀ b o, s.heap.get? b = some o → h'.get? b = some o) → R (.ok (.ret .none)) { s with heap := h', toks := tk }) :
    codeAny (model PySem.Challenge.rw_nu0146_01.row.prog w) A (.call (.ref 63) ⟨[.bytes d t, .int at_ u, .int 4 v], []⟩) R s := by
  w_on
  refine' enter [] (binds := [("data", .bytes d t), ("at", .int at_ u), ("count", .int 4 v)]) (by omega) X T st ?hm ?k6 ?k7 (BindsTo.of_eq ?k9) (locs ?kB) ?_ ?c2 ?c3 ?c4 ?c5
  (case k6 => k_is)
  (case hm => exact fun _ h => nomatch h)
  (case k7 => k_is)
  (case k9 => rfl)
  (case c5 => decide)
  (case kB => rfl)
  (case c2 => rfl)
  (case c3 => rfl)
  (case c4 => rfl)
  intro g L' h₁ hg hg' st' F N KX T'
  have lift : ∀ (h' : Heap) (m : Str → Option Value), Fr g L' h' m → ∀ b o, s.heap.get? b = some o → h'.get? b = some o := fun _ _ F' b o q => F'.keep b o (hg' b o q (by simp))
  clear X T st hg hg' st'
  try dsimp only at F
  try dsimp only
  try k_fold
  k_steps
  exact hR _ _ (lift _ _ F)
local macro_rules | `(tactic| walk_at "exec For Name Subscript cons nil") => `(tactic| (k_here; (rename Fr _ _ _ _ => lF'); (with_unfolding_all refine' For_invVF lF' ?k1 ?k2 ?_; (case k1 => exact rfl); (case k2 => exact rfl))))
local macro_rules | `(tactic| walk_at "binaryOp BitOr int int") => `(tactic| (refine or_step ?x1 ?x2 ?x3 ?_; (case x1 => omega); (case x2 => omega); (case x3 => omega)))
theorem number_raw {w : World} {mean : ExcName → Option Value} {mg mb : Str → Option Value} {A : Around} {h₀ : Heap} {s : Shared} {R : Result → Shared → Prop} {d : Array UInt8} {t u v : Tok} {at_ : Int} {ks : List Int} {k0 k1 k2 k3 : Int}
    (hroom : A.depth + 2 < recursionLimit) (hun : A.units + 210 < cLine) (hh : A.handled = none) (X : (hd.heap_39 w.params).In h₀) (T : TT mean mg mb h₀) (st : h₀.StaysIn s.heap)
    (h0 : 0 ≤ at_) (h1 : at_ + 4 ≤ d.size) (h2 : d.size ≤ 100) (hk : KBw.bInts d = ks) (hc : (ks.drop at_.toNat).take 4 = [k0, k1, k2, k3])
    (hR : ∀ h' tk t', (∀ b o, s.heap.get? b = some o → h'.get? b = some o) → R (.ok (.ret (.int (((k0 * 256 + k1) * 256 + k2) * 256 + k3) t'))) { s with heap := h', toks := tk }) :
    codeAny (model PySem.Challenge.rw_nu0146_01.row.prog w) A (.call (.ref 70) ⟨[.bytes d t, .int at_ u, .int 4 v], []⟩) R s := by
  w_on
  refine' enter [] (binds := [("data", .bytes d t), ("at", .int at_ u), ("count", .int 4 v)]) (by omega) X T st ?hm ?k6 ?k7 (BindsTo.of_eq ?k9) (locs ?kB) ?_ ?c2 ?c3 ?c4 ?c5
  (case k6 => k_is)
  (case hm => exact fun _ h => nomatch h)
  (case k7 => k_is)
  (case k9 => rfl)
  (case c5 => decide)
  (case kB => rfl)
  (case c2 => rfl)
  (case c3 => rfl)
  (case c4 => rfl)
  intro g L' h₁ hg hg' st' F N KX T'
  have lift : ∀ (h' : Heap) (m : Str → Option Value), Fr g L' h' m → ∀ b o, s.heap.get? b = some o → h'.get? b = some o := fun _ _ F' b o q => F'.keep b o (hg' b o q (by simp))
  clear X T st hg hg' st'
  try dsimp only at F
  try dsimp only
  try k_fold
  k_steps
  refine wpAny_call (room_raw (by simp only [depth_deeper]; omega) (by simp only [units_deeper]; omega) KX T' F.keep h0 h1 h2 fun h₂ tk₂ k₂ => ?_)
  have F₂ := F.keeps k₂
  have N₂ := News.nil (h₀ := g) (L := L') (h := h₂)
  clear F N
  dsimp only
  have hkl : ks.length = d.size := by rw [← hk, KBw.ints_length]
  have bnd : (0 ≤ k0 ∧ k0 < 256) ∧ (0 ≤ k1 ∧ k1 < 256) ∧ (0 ≤ k2 ∧ k2 < 256) ∧ (0 ≤ k3 ∧ k3 < 256) := by
    have all : ∀ k ∈ [k0, k1, k2, k3], 0 ≤ k ∧ k < 256 := fun k hm => by
      rw [← hc] at hm
      exact KBw.ints_in (hk ▸ List.mem_of_mem_drop (List.mem_of_mem_take hm))
    exact ⟨all _ (by simp), all _ (by simp), all _ (by simp), all _ (by simp)⟩
  obtain ⟨⟨b0, b0'⟩, ⟨b1, b1'⟩, ⟨b2, b2'⟩, b3, b3'⟩ := bnd
  k_steps
  rename_i kbcK
  have ksl : KBw.bInts (KBy.picked d (some at_) (some (at_ + 4))) = [k0, k1, k2, k3] := by
    rw [kbcK, ← hc]
    have e1 : clipAt ks.length at_ = at_.toNat := by
      have := clipAt_cast ks.length at_
      rw [if_neg (by omega)] at this
      omega
    have e2 : clipAt ks.length (at_ + 4) = at_.toNat + 4 := by
      have := clipAt_cast ks.length (at_ + 4)
      rw [if_neg (by omega)] at this
      omega
    rw [e1, e2, Nat.add_sub_cancel_left]
  clear kbcK
  generalize KBy.picked d (some at_) (some (at_ + 4)) = dd at ksl ⊢
  dsimp only
  rename Fr _ _ _ _ => F₅
  rename News _ _ _ _ => N₅
  refine iter_bytesUnr (l := [k0, k1, k2, k3]) hh F₅ N₅ ksl ?_
  intro I lI
  clear F₅ N₅
  k_steps
  rename Fr _ _ _ _ => F₆
  have e : (((0 * 256 + k0) * 256 + k1) * 256 + k2) * 256 + k3 = ((k0 * 256 + k1) * 256 + k2) * 256 + k3 := by omega
  rw [e]
  exact hR _ _ _ (lift _ _ F₆)
end
section
/-- the sum of numbers of four octets -/
def chk : List Int → Int
  | a :: b :: c :: d :: r => (((a * 256 + b) * 256 + c) * 256 + d) + chk r
  | _ => 0
abbrev csM (d : Array UInt8) (t : Tok) (fd : Array UInt8) (t2 : Tok) (p : Option Value) (tot : Int) (tt : Tok) : Str → Option Value := fun y =>
  if y = "at" then p else if y = "total" then some (.int tot tt) else if y = "filled" then some (.bytes fd t2) else List.lookup y ([("octets", .bytes d t)] : List (Str × Value)).reverse
theorem checksum_raw {w : World} {mean : ExcName → Option Value} {mg mb : Str → Option Value} {A : Around} {h₀ : Heap} {s : Shared} {R : Result → Shared → Prop} {d : Array UInt8} {t : Tok} {ks : List Int}
    (hroom : A.depth + 3 < recursionLimit) (hun : A.units + 220 < cLine) (hh : A.handled = none) (X : (hd.heap_39 w.params).In h₀) (T : TT mean mg mb h₀) (st : h₀.StaysIn s.heap)
    (h2 : d.size ≤ 13) (hk : KBw.bInts d = ks)
    (hR : ∀ h' tk t' r, (ks.length + r) % 4 = 0 → (∀ b o, s.heap.get? b = some o → h'.get? b = some o) → R (.ok (.ret (.int (chk (ks ++ List.replicate r 0) % 4294967296) t'))) { s with heap := h', toks := tk }) :
    codeC (model PySem.Challenge.rw_nu0146_01.row.prog w) A (.call (.ref 85) ⟨[.bytes d t], []⟩) R s := by
  w_on
  refine' enterC [] (binds := [("octets", .bytes d t)]) (by omega) X T st ?hm ?k6 ?k7 (BindsTo.of_eq ?k9) (locs ?kB) ?_ ?c2 ?c3 ?c4 ?c5
  (case k6 => k_is)
  (case hm => exact fun _ h => nomatch h)
  (case k7 => k_is)
  (case k9 => rfl)
  (case c5 => decide)
  (case kB => rfl)
  (case c2 => rfl)
  (case c3 => rfl)
  (case c4 => rfl)
  intro g L' h₁ hL hg hg' st' F N KX T'
  have lift : ∀ (h' : Heap) (m : Str → Option Value), Fr g L' h' m → ∀ b o, s.heap.get? b = some o → h'.get? b = some o := fun _ _ F' b o q => F'.keep b o (hg' b o q (by simp))
  clear X T st hg hg' st'
  try dsimp only at F
  try dsimp only
  try k_fold
  refine C_execs_cons (C_any ?_)
  k_steps
  have n0 := fmod_lo (-(d.size : Int)) 4 (by omega)
  have n4 := fmod_hi (-(d.size : Int)) 4 (by omega)
  refine bytes_of_int n0 (by omega) fun t1 tk1 => ?_
  dsimp only
  k_steps
  refine KBy.add_bytes (by rw [Array.size_replicate]; omega) fun t2 tk2 => ?_
  obtain ⟨q, hq4, hfs⟩ : ∃ q : Nat, q ≤ 4 ∧ (d ++ Array.replicate ((-(d.size : Int)).fmod 4).toNat 0).size = 4 * q := by
    have e := Int.fmod_add_mul_fdiv (-(d.size : Int)) 4
    refine ⟨(-((-(d.size : Int)).fdiv 4)).toNat, ?_, ?_⟩
    · omega
    · rw [Array.size_append, Array.size_replicate]; omega
  have hfk : KBw.bInts (d ++ Array.replicate ((-(d.size : Int)).fmod 4).toNat 0) = ks ++ List.replicate ((-(d.size : Int)).fmod 4).toNat 0 := by
    rw [KBw.ints_app hk rfl]
    congr 1
    simp [KBw.bInts]
  clear n0 n4
  generalize ((-(d.size : Int)).fmod 4).toNat = r at hfs hfk ⊢
  generalize d ++ Array.replicate r 0 = fd at hfs hfk ⊢
  dsimp only
  k_steps
  rename_i h₂ F₂ N₂
  dsimp only at F₂ ⊢
  refine C_execs_cons (C_any ?_)
  k_steps
  rename_i h₃ F₃ N₃
  dsimp only at F₃ ⊢
  refine C_execs_cons (C_For ?_)
  k_steps
  dsimp only at *
  rename_i F₄' N₄' h₄ tk₄ ta tb tc hrg F₄ N₄ k₄
  clear F₄' N₄' k₄ N₄
  have hkl : ks.length = d.size := by rw [← hk, KBw.ints_length]
  have hfl : (ks ++ List.replicate r 0).length = 4 * q := by rw [← hfk, KBw.ints_length, hfs]
  have hr4 : (ks.length + r) % 4 = 0 := by
    rw [List.length_append, List.length_replicate] at hfl; omega
  have fin : ∀ h' tk t', (∀ b o, s.heap.get? b = some o → h'.get? b = some o) → R (.ok (.ret (.int (chk (ks ++ List.replicate r 0) % 4294967296) t'))) { s with heap := h', toks := tk } := fun h' tk t' => hR h' tk t' r hr4
  generalize ks ++ List.replicate r 0 = fks at hfl hfk fin
  have hin : ∀ k ∈ fks, 0 ≤ k ∧ k < 256 := fun k hm => KBw.ints_in (hfk ▸ hm)
  have hq : q = 0 ∨ q = 1 ∨ q = 2 ∨ q = 3 ∨ q = 4 := by omega
  have hsm : Builtin.Range.small 0 (fd.size : Int) 4 = true := by
    rw [hfs]; rcases hq with rfl | rfl | rfl | rfl | rfl <;> decide
  have hrs : Builtin.Range.rangeSize 0 (fd.size : Int) 4 = (q : Int) := by
    rw [hfs]; rcases hq with rfl | rfl | rfl | rfl | rfl <;> decide
  refine wpAny_pyIter_range hrg hsm ?_
  rw [hrs]
  obtain ⟨it, hite⟩ : ∃ it : Addr, it = h₄.objs.size := ⟨_, rfl⟩
  have hitO : IsRangeIter (h₄.push { cls := .type "range_iterator", data := .fields #[rawInt 0, rawInt (q : Int), rawInt 4] }) it (0 + ((0 : Nat) : Int) * 4) ((q : Int) - ((0 : Nat) : Int)) 4 := by
    have := Heap.get?_push_size h₄ (o := { cls := .type "range_iterator", data := .fields #[rawInt 0, rawInt (q : Int), rawInt 4] }) rfl
    rw [hite]
    simpa [IsRangeIter] using this
  have hIL : it ≠ L' := by rw [hite]; exact Nat.ne_of_gt F₄.ns.lt
  have hIg : g.get? it = none := by
    cases z : g.get? it with
    | none => rfl
    | some o => have := Heap.lt_size (F₄.keep _ _ z); rw [hite] at this; exact absurd this (Nat.lt_irrefl _)
  have F₅ := F₄.push { cls := .type "range_iterator", data := .fields #[rawInt 0, rawInt (q : Int), rawInt 4] }
  dsimp only
  rw [← hite]
  clear hite hrg F₄
  generalize h₄.push { cls := .type "range_iterator", data := .fields #[rawInt 0, rawInt (q : Int), rawInt 4] } = h₅ at F₅ hitO ⊢
  have W : ∀ A' : Around, A'.handled = none → Walks PySem.Challenge.rw_nu0146_01.row.prog w A' it [it] [it] q _ _ := fun A' h => Walks.range h it 0 4 q
  refine codeC_forLoop (fun n s' => ∃ (h' : Heap) (tk : Nat) (p : Option Value) (i : Nat) (tot : Int) (tt : Tok), s' = { s with heap := h', toks := tk } ∧ Fr g L' h' (csM d t fd t2 p tot tt) ∧
    IsRangeIter h' it (0 + (i : Nat) * 4) ((q : Int) - (i : Nat)) 4 ∧ i ≤ q ∧ tot + chk (fks.drop (4 * i)) = chk fks ∧ 0 ≤ tot ∧ tot ≤ i * 4294967296 ∧ n = q + 1 - i) ?turn (q + 1) ?init
  case init =>
    refine ⟨h₅, _, none, 0, 0, tk2 + 1, rfl, fr_congr F₅ fun y => ?_, hitO, Nat.zero_le _, by rw [Nat.mul_zero, List.drop_zero, Int.zero_add], Int.le_refl _, by simp, rfl⟩
    unfold csM
    by_cases h1 : y = "at"
    · subst h1; rfl
    · rw [if_neg h1]
  case turn =>
    clear F₅ hitO
    rintro n s' ⟨h', tk, p, i, tot, tt, rfl, F, hit, hi, hsum, h0t, hbt, rfl⟩
    rcases Nat.lt_or_ge i q with hlt | hge
    · refine (W (A.deeper _) hh).item i { s with heap := h', toks := tk } _ _ hlt hit fun v h₆ tk₆ hv hit₆ k₆ => ?_
      obtain ⟨tv, rfl⟩ := hv
      have F₆ := frE F (Ne.symm hIL) hIg (fun b o hb e => k₆ b o (by simpa using hb) e)
      dsimp only
      unfold csM at F₆
      clear F
      have N₆ : News g L' h₆ [(it, _)] := fun p hp => by
        rcases List.mem_cons.mp hp with rfl | hp
        · exact ⟨hit₆, hIL, hIg⟩
        · cases hp
      k_steps
      have hex : ∃ k0 k1 k2 k3 rest, fks.drop (4 * i) = k0 :: k1 :: k2 :: k3 :: rest := by
        have hlen : (fks.drop (4 * i)).length = 4 * q - 4 * i := by rw [List.length_drop, hfl]
        match hm : fks.drop (4 * i) with
        | [] => rw [hm] at hlen; simp at hlen; omega
        | [_] => rw [hm] at hlen; simp at hlen; omega
        | [_, _] => rw [hm] at hlen; simp at hlen; omega
        | [_, _, _] => rw [hm] at hlen; simp at hlen; omega
        | k0 :: k1 :: k2 :: k3 :: rest => exact ⟨k0, k1, k2, k3, rest, rfl⟩
      obtain ⟨k0, k1, k2, k3, rest, hdr⟩ := hex
      have hdr' : fks.drop (4 * (i + 1)) = rest := by
        rw [show 4 * (i + 1) = 4 * i + 4 by omega, ← List.drop_drop, hdr]; rfl
      have bb : ∀ k ∈ [k0, k1, k2, k3], 0 ≤ k ∧ k < 256 := fun k hm => hin k (List.mem_of_mem_drop (i := 4 * i) (by rw [hdr]; simp only [List.mem_cons, List.not_mem_nil, or_false] at hm ⊢; omega))
      have b0 := bb k0 (by simp)
      have b1 := bb k1 (by simp)
      have b2 := bb k2 (by simp)
      have b3 := bb k3 (by simp)
      rename_i h₇ F₇ N₇
      dsimp only at F₇ ⊢
      refine C_execs_cons (C_any ?_)
      k_steps
      have hat : ((0 : Int) + (i : Nat) * 4).toNat = 4 * i := by omega
      refine wpAny_call (number_raw (k0 := k0) (k1 := k1) (k2 := k2) (k3 := k3) (by simp only [depth_deeper]; omega) (by simp only [units_deeper]; omega) hh KX T' F₇.keep (by omega) (by omega) (by omega) hfk (by rw [hat, hdr]; rfl) fun h₈ tk₈ t₈ k₈ => ?_)
      have F₈ := F₇.keeps k₈
      have N₈ := News.grown N₇ k₈
      clear F₇ N₇ k₈
      dsimp only
      k_steps
      rename Fr _ _ _ _ => F₉
      rename News _ _ _ _ => N₉
      refine C_execs_nil ?_
      dsimp only at F₉ N₉ ⊢
      refine ⟨q + 1 - (i + 1), by omega, _, _, some (.int (0 + (i : Nat) * 4) tv), i + 1, tot + ((((k0 * 256 + k1) * 256 + k2) * 256) + k3), tk₈, rfl, fr_congr F₉ (fun y => ?_), (N₉ _ (.head _)).1, hlt, ?_, by omega, ?_, rfl⟩
      · unfold csM
        by_cases h1 : y = "total"
        · subst h1; rfl
        · rw [if_neg h1]
          by_cases h2 : y = "at"
          · subst h2; rfl
          · simp only [if_neg h1, if_neg h2]
      · rw [hdr', ← hsum, hdr]
        show _ = tot + (_ + chk rest)
        rw [Int.add_assoc]
      · push_cast; omega
    · obtain rfl : i = q := Nat.le_antisymm hi hge
      refine (W (A.deeper _) hh).done { s with heap := h', toks := tk } _ _ hit fun h₆ tk₆ k₆ => ?_
      have F₆ := frE F (Ne.symm hIL) hIg (fun b o hb e => k₆ b o (by simpa using hb) e)
      have htot : tot = chk fks := by
        rw [List.drop_eq_nil_of_le (Nat.le_of_eq hfl)] at hsum
        rw [← hsum]; exact (Int.add_zero _).symm
      subst htot
      unfold csM at F₆
      show wpC _ _ _ _ _ _
      refine C_execs_cons (C_any ?_)
      dsimp only
      k_steps
      rename Fr _ _ _ _ => F₇
      rw [and_mask h0t]
      exact fin _ _ _ (lift _ _ F₇)
end
section
def Hold (p : Prop) : Prop := p
theorem hold {p : Prop} (h : Hold p) : p := h
def IntLike (ys : List Value) : Prop := ∃ is, IntsAre ys is
theorem IntLike.snoc {vs : List Value} {is : List Int} (h : IntsAre vs is) (i : Int) (t : Tok) : IntLike (vs ++ [.int i t]) := by
  refine ⟨is ++ [i], ?_⟩
  induction h with
  | nil => exact .cons _ _ .nil
  | cons _ _ _ ih => exact .cons _ _ ih
theorem nameG_B {M : Model} {A : Around} {E : Value → Shared → Prop} {s : Shared} {h₀ : Heap} {L : Addr} {m : Str → Option Value} {env : Env} {K : Frag} {mg mb : Str → Option Value} {p : Program} {loose : List Str} {x : Str} {pos : Pos} {v : Value} {Q : Value → Shared → Prop}
    (F : Fr h₀ L s.heap m) (X : K.In h₀) (T : TopRead p loose mg mb h₀)
    (e : nsIn K mainGlobals x = some none) (hv : bootBuiltins x = some v) (hn : x ≠ "__name__") (h : Q v s) (hg : env.globals = mainGlobals) (hb : env.builtins = builtinsNs) (hk : env.scope.kind = .function) (hx : env.kindOf x = some .globalImplicit) (hd : (x == ("__debug__" : Str)) = false) :
    wpAny M A (eval (.Name x pos) env) Q E s :=
  Name_function_global hk hx (loadGlobal_builtin (env := env) (by rw [hg]; exact T.g.keeps F.keep) (mg_none_of X T.g e) (by rw [hb]; exact T.b.keeps F.keep) ((T.builtins x hn).trans hv) h) hd
theorem nameG_V {M : Model} {A : Around} {E : Value → Shared → Prop} {s : Shared} {h₀ : Heap} {C : Addr} {m : Str → Option Value} {env : Env} {scope : Scope} {cl : List (Str × Addr)} {x : Str} {pos : Pos} {v : Value} {Q : Value → Shared → Prop}
    (F : Fr h₀ C s.heap m) (hv : m x = some v) (h : Q v s) (hk : (compEnvC scope cl C env).scope.kind = .function := by rfl) (hl : (compEnvC scope cl C env).kindOf x = some .local := by rfl) (hd : (x == ("__debug__" : Str)) = false := by decide) :
    wpAny M A (eval (.Name x pos) (compEnvC scope cl C env)) Q E s := ldVarK F.ns hv h hk hl hd
theorem nameG_C {M : Model} {A : Around} {E : Value → Shared → Prop} {s : Shared} {h₀ : Heap} {C L : Addr} {news : List (Addr × Obj)} {env : Env} {scope : Scope} {cl : List (Str × Addr)} {x : Str} {pos : Pos} {v : Value} {c : Addr} {o : Obj} {Q : Value → Shared → Prop}
    (N : News h₀ L s.heap news) (hc : cl.lookup x = some c) (hm : (c, o) ∈ news) (hv : o.data = .cell (some v)) (h : Q v s) (hk : (compEnvC scope cl C env).scope.kind = .function := by rfl) (hl : (compEnvC scope cl C env).kindOf x = some .cell := by rfl) (hd : (x == ("__debug__" : Str)) = false := by decide) :
    wpAny M A (eval (.Name x pos) (compEnvC scope cl C env)) Q E s := ldCellK hc ⟨_, N.get hm, hv⟩ h hk hl hd
end
section
local macro_rules | `(tactic| walk_at "eval ListComp") => `(tactic| refine hold ?_)
local macro_rules | `(tactic| walk_at "eval Name") => `(tactic| (k_here; k_inBlock; (with_reducible rename Fr _ _ _ _ => kF); k_dflt (first
  | (refine' nameG_V kF ?k1 ?_; (case k1 => assumption); k_whole)
  | (refine' nameG_B kF ?k1 ?k2 ?k3 ?k8 ?k9 ?_ ?k4 ?k10 ?k5 ?k6 ?k7; (case k4 => rfl); (case k10 => rfl); (case k5 => rfl); (case k6 => rfl); (case k7 => decide); (case k1 => k_asm); (case k2 => k_asm); (case k3 => k_is); (case k8 => boot_by_name); (case k9 => decide); k_whole))))
theorem pen_raw {w : World} {mean : ExcName → Option Value} {mg mb : Str → Option Value} {A : Around} {h₀ : Heap} {s : Shared} {R : Result → Shared → Prop} {pl : Addr} {xs : List Value} {ns : List Int}
    (hroom : A.depth + 1 < recursionLimit) (hun : A.units + 200 < cLine) (hh : A.handled = none) (X : (hd.heap_39 w.params).In h₀) (T : TT mean mg mb h₀) (st : h₀.StaysIn s.heap)
    (hL : s.heap.IsList pl xs.toArray) (hI : IntsAre xs ns) (hlen : ns.length ≤ 63)
    (hR : ∀ h' tk P C oP oC, (∀ b o, s.heap.get? b = some o → h'.get? b = some o) → s.heap.get? P = none → s.heap.get? C = none → h'.get? P = some oP → h'.get? C = some oC → PenO C oP oC → R (.ok (.ret (.ref P))) { s with heap := h', toks := tk }) :
    codeAny (model PySem.Challenge.rw_nu0146_01.row.prog w) A (.call (.ref 90) ⟨[.ref pl], []⟩) R s := by
  w_on
  refine' enter [] (binds := [("script", .ref pl)]) (by omega) X T st ?hm ?k6 ?k7 (BindsTo.of_eq ?k9) (locs ?kB) ?_ ?c2 ?c3 ?c4 ?c5
  (case k6 => k_is)
  (case hm => exact fun _ h => nomatch h)
  (case k7 => k_is)
  (case k9 => rfl)
  (case c5 => decide)
  (case kB => rfl)
  (case c2 => rfl)
  (case c3 => rfl)
  (case c4 => rfl)
  intro g L' h₁ hg hg' st' F N KX T'
  have lift : ∀ (h' : Heap) (m : Str → Option Value), Fr g L' h' m → ∀ b o, s.heap.get? b = some o → h'.get? b = some o := fun _ _ F' b o q => F'.keep b o (hg' b o q (by simp))
  have fresh : ∀ b, g.get? b = none → s.heap.get? b = none := fun b hb => by
    cases z : s.heap.get? b with
    | none => rfl
    | some o => rw [hg' b o z (by simp)] at hb; cases hb
  have hL' : g.IsList pl xs.toArray := by
    obtain ⟨o, ho, r⟩ := hL
    exact ⟨o, hg' _ _ ho (by simp), r⟩
  clear X T st hg st' hL
  try dsimp only at F
  try dsimp only
  try k_fold
  k_steps
  unfold Hold
  refine comp_inv (cl := []) [] (fun ys _ => IntLike ys) (fun _ _ _ h _ => h) (by rfl) (by decide) (by rfl) (by decide) (by rfl) ?_ (by intro _; rfl)
  k_steps
  rename_i D ws h₂ F₂ N₂ hI₂ _ hlen₂ _
  dsimp only
  refine wpAny_pyIter_list (News.isList N₂ (.head _)) ?_
  obtain ⟨it, hite⟩ : ∃ it : Addr, it = h₂.objs.size := ⟨_, rfl⟩
  have hlt : D < h₂.objs.size := Heap.lt_size (N₂ _ (.head _)).1
  have hitO : (h₂.push { cls := .type "list_iterator", data := .fields #[.ref D, .int 0 0] }).get? h₂.objs.size = some { cls := .type "list_iterator", data := .fields #[.ref D, .int 0 0] } := Heap.get?_push_size _ rfl
  refine ⟨h₂.objs.size, [h₂.objs.size, D], [h₂.objs.size], ws.toArray.size, (fun i v => ws.toArray[i]? = some v), (fun i h => h.IsListIter h₂.objs.size D i ∧ h.IsList D ws.toArray), rfl, Walks.list (A := A.deeper _) hh _ D (Nat.ne_of_lt hlt) ws.toArray, ?sz, ⟨⟨_, hitO, rfl, rfl⟩, (News.isList N₂ (.head _)).at fun o e => Heap.get?_push_of_some _ e⟩, ?fp, (fun b hb => nomatch hb), ⟨[], .nil⟩, ?elt, ?fin⟩
  case sz => rw [List.size_toArray, hI₂.length, sizeLine_eq]; omega
  case fp =>
    intro b hb
    show b < (h₂.push _).objs.size
    rw [Heap.size_push]
    rcases List.mem_cons.mp hb with rfl | hb
    · exact Nat.lt_succ_self _
    · rw [List.mem_singleton.mp hb]; exact Nat.lt_succ_of_lt hlt
  case elt =>
    intro C ys v h₃ tk₃ m₃ E' hC hys hP hn hm hK hk₃
    obtain ⟨is, his⟩ := hK
    obtain ⟨n, -, hv⟩ := hI₂.areOf.get ys.length v (by simpa using hP)
    obtain ⟨t, rfl⟩ := ItemKind.int_is hv
    have F₃ : Fr g C h₃ m₃ := ⟨hn, fun b o e => hk₃ b o (fun z => by
      have := Heap.lt_size (F₂.keep b o e)
      rw [List.mem_singleton.mp z] at this; exact Nat.lt_irrefl _ this) (fun z => nomatch z) (Heap.get?_push_of_some _ (F₂.keep b o e)), Nat.le_trans F₂.above (Nat.le_trans (Nat.le_of_lt F₂.ns.lt) (Nat.le_trans (by
        show h₂.objs.size ≤ (h₂.push _).objs.size
        rw [Heap.size_push]; exact Nat.le_succ _) hC))⟩
    have N₃ : News g C h₃ [] := fun p hp => nomatch hp
    clear F₂ N₂ hk₃ hn
    k_steps
    exact IntLike.snoc his _ _
  case fin =>
    intro D₃ h₃ tk₃ ys e₃ nD hys hK gD hk₃
    obtain ⟨is, his⟩ := hK
    rw [List.size_toArray, hI₂.length] at hys
    have up : ∀ b o, h₂.get? b = some o → h₃.get? b = some o := fun b o e => hk₃ b o (fun z => by
      have := Heap.lt_size e
      rw [List.mem_singleton.mp z] at this; exact Nat.lt_irrefl _ this) (fun z => nomatch z) (Heap.get?_push_of_some _ e)
    have F₃ := F₂.keeps up
    have hD2 : h₂.get? D₃ = none := by
      cases z : h₂.get? D₃ with
      | none => rfl
      | some o => rw [Heap.get?_push_of_some _ z] at nD; cases nD
    have gD3 : g.get? D₃ = none := by
      cases z : g.get? D₃ with
      | none => rfl
      | some o => rw [F₂.keep _ _ z] at hD2; cases hD2
    have hDL : D₃ ≠ L' := fun z => by
      obtain ⟨o, _, _, ho, _⟩ := F₂.ns
      rw [z, ho] at hD2; cases hD2
    have N₃ : News g L' h₃ [(D₃, W.listOf ys.toArray e₃)] := fun p hp => by
      rcases List.mem_cons.mp hp with rfl | hp
      · exact ⟨gD, hDL, gD3⟩
      · cases hp
    clear hk₃ nD gD up F₂ N₂ hD2
    k_steps
    rename_i P h₄ F₄ N₄ _
    exact hR _ _ P D₃ _ _ (lift _ _ F₄) (fresh _ (N₄ _ (.head _)).2.2) (fresh _ gD3) (N₄ _ (.head _)).1 (N₄ (D₃, _) (.tail _ (.head _))).1 ⟨ys, is, 0, 0, _, _, 0, e₃, rfl, rfl, his, by rw [← his.length]; omega⟩
end
section
/-- octets made one by one -/
def Octs (n : Nat) (ys : List Value) : Prop := ∃ is : List Int, IntsAre ys is ∧ (∀ k ∈ is, 0 ≤ k ∧ k < 256) ∧ ys.length = n
theorem Octs.snoc {ys : List Value} {is : List Int} (h : IntsAre ys is) (b : ∀ k ∈ is, 0 ≤ k ∧ k < 256) {i : Int} {t : Tok} (h0 : 0 ≤ i) (h1 : i < 256) : ∃ is' : List Int, IntsAre (ys ++ [.int i t]) is' ∧ (∀ k ∈ is', 0 ≤ k ∧ k < 256) := by
  refine ⟨is ++ [i], ?_, ?_⟩
  · induction h with
    | nil => exact .cons _ _ .nil
    | cons _ _ _ ih => exact .cons _ _ (ih fun k hk => b k (.tail _ hk))
  · intro k hk
    rcases List.mem_append.mp hk with hk | hk
    · exact b k hk
    · rw [List.mem_singleton.mp hk]; exact ⟨h0, h1⟩
/-- a comprehension over a range, whose element turns the pen -/
theorem comp_pen {prog : Program} {w : World} {A : Around} {E : Value → Shared → Prop} {env : Env} {s : Shared} {elt iter : Expr} {x : Str} {px : Pos} {scope : Scope} {cl : List (Str × Addr)} {pos : Pos} {Q : Value → Shared → Prop} {P C : Addr} {g : Heap} {L : Addr} (hh : A.handled = none)
    (hclos : closureFor scope env = pure cl) (hcell : ∀ y ∈ scope.names, y.2 ≠ .cell) (hkind : scope.kind = .function)
    (hnames : ∀ y ∈ scope.names, y.2 = .local → scope.names.lookup y.1 = some .local) (hx : scope.names.lookup x = some .local)
    (h : wpAny (model prog w) A (eval iter env) (fun xv s₁ => Hold (∃ r v ta tb tc m news oP oC f, xv = .ref r ∧ IsRange s₁.heap r 0 v 1 ta tb tc ∧ 0 ≤ v ∧ v ≤ 13 ∧ Fr g L s₁.heap m ∧ News g L s₁.heap news ∧ (P, oP) ∈ news ∧ (C, oC) ∈ news ∧ PenO C oP oC ∧ Upd2 P C oP oC news f ∧
      (∀ C' h₃ tk₃ m₃ oP oC E' (Q' : Value → Shared → Prop), g.objs.size ≤ C' → h₃.Ns C' m₃ → (∀ b o, b ≠ P → b ≠ C → s₁.heap.get? b = some o → h₃.get? b = some o) → h₃.get? P = some oP → h₃.get? C = some oC → PenO C oP oC →
        (∀ h₄ tk₄ k t oP' oC', 0 ≤ k → k < 256 → Off P C h₃ h₄ → h₄.get? P = some oP' → h₄.get? C = some oC' → PenO C oP' oC' → Q' (.int k t) { s₁ with heap := h₄, toks := tk₄ }) →
        wpAny (model prog w) A (eval elt (compEnvC scope cl C' env)) Q' E' { s₁ with heap := h₃, toks := tk₃ }) ∧
      (∀ D h' tk ys is e oP' oC', Fr g L h' m → News g L h' ((D, W.listOf ys.toArray e) :: f oP' oC') → (∀ p ∈ f oP' oC', p.1 ≠ D) → PenO C oP' oC' → IntsAre ys is → (∀ k ∈ is, 0 ≤ k ∧ k < 256) → ys.length ≤ 13 → (ys.length : Int) = v → Q (.ref D) { s₁ with heap := h', toks := tk }))) E s)
    (hs : ∀ x, foldedSetIterable iter env x = pure x := by intro _; rfl) :
    wpAny (model prog w) A (eval (.ListComp elt [⟨.Name x px, iter, [], 0⟩] scope pos) env) Q E s := by
  refine comp_inv (cl := cl) [P, C] (fun ys h => ∃ oP oC, PenO C oP oC ∧ h.get? P = some oP ∧ h.get? C = some oC ∧ ∃ is : List Int, IntsAre ys is ∧ ∀ k ∈ is, 0 ≤ k ∧ k < 256)
    (fun ys h h' hK hk => by
      obtain ⟨oP, oC, hp, gP, gC, r⟩ := hK
      exact ⟨oP, oC, hp, hk P (by simp) _ gP, hk C (by simp) _ gC, r⟩) hclos hcell hkind hnames hx (wpAny_mono h (fun xv s₁ h₁ => ?_) fun _ _ e => e) hs
  obtain ⟨r, v, ta, tb, tc, m, news, oP, oC, f, rfl, hrg, h0, h13, F, N, mP, mC, hp, U, helt, hQ⟩ := h₁
  have hsm : Builtin.Range.small 0 v 1 = true := by
    have hall : ∀ n : Fin 14, Builtin.Range.small 0 (n.val : Int) 1 = true := by decide
    have := hall ⟨v.toNat, by omega⟩
    simpa [Int.toNat_of_nonneg h0] using this
  have hrs : Builtin.Range.rangeSize 0 v 1 = v := by
    have hall : ∀ n : Fin 14, Builtin.Range.rangeSize 0 (n.val : Int) 1 = (n.val : Int) := by decide
    have := hall ⟨v.toNat, by omega⟩
    simpa [Int.toNat_of_nonneg h0] using this
  refine wpAny_pyIter_range hrg hsm ?_
  rw [hrs]
  obtain ⟨n, rfl⟩ := Int.eq_ofNat_of_zero_le h0
  obtain ⟨it, hite⟩ : ∃ it : Addr, it = s₁.heap.objs.size := ⟨_, rfl⟩
  have hitO : IsRangeIter (s₁.heap.push { cls := .type "range_iterator", data := .fields #[rawInt 0, rawInt (n : Int), rawInt 1] }) it (0 + ((0 : Nat) : Int) * 1) ((n : Int) - ((0 : Nat) : Int)) 1 := by
    have := Heap.get?_push_size s₁.heap (o := { cls := .type "range_iterator", data := .fields #[rawInt 0, rawInt (n : Int), rawInt 1] }) rfl
    rw [hite]
    simpa [IsRangeIter] using this
  have up : ∀ b o, s₁.heap.get? b = some o → (s₁.heap.push { cls := .type "range_iterator", data := .fields #[rawInt 0, rawInt (n : Int), rawInt 1] }).get? b = some o := fun b o e => Heap.get?_push_of_some _ e
  have ob : ∀ b o, s₁.heap.get? b = some o → b ∉ [it] := fun b o e z => by
    have := Heap.lt_size e
    rw [List.mem_singleton.mp z, hite] at this; exact Nat.lt_irrefl _ this
  have sz : ∀ b o, s₁.heap.get? b = some o → b < (s₁.heap.push { cls := .type "range_iterator", data := .fields #[rawInt 0, rawInt (n : Int), rawInt 1] }).objs.size := fun b o e => Heap.lt_size (up b o e)
  have itlt : it < (s₁.heap.push { cls := .type "range_iterator", data := .fields #[rawInt 0, rawInt (n : Int), rawInt 1] }).objs.size := by
    rw [Heap.size_push, hite]; exact Nat.lt_succ_self _
  have old : ∀ b, (s₁.heap.push { cls := .type "range_iterator", data := .fields #[rawInt 0, rawInt (n : Int), rawInt 1] }).get? b = none → s₁.heap.get? b = none := fun b e => by
    cases z : s₁.heap.get? b with
    | none => rfl
    | some o => rw [up b o z] at e; cases e
  have zP := N _ mP
  have zC := N _ mC
  rw [← hite]
  dsimp only
  generalize hg5 : s₁.heap.push { cls := .type "range_iterator", data := .fields #[rawInt 0, rawInt (n : Int), rawInt 1] } = h₅ at hitO up sz itlt old ⊢
  refine ⟨it, [it], [it], n, _, _, rfl, Walks.range hh it 0 1 n, by rw [sizeLine_eq]; omega, hitO, (fun b hb => by rw [List.mem_singleton.mp hb]; exact itlt), ?mod, ⟨oP, oC, hp, up _ _ zP.1, up _ _ zC.1, [], .nil, fun _ h => nomatch h⟩, ?elt, ?fin⟩
  case mod =>
    intro b hb
    rcases List.mem_cons.mp hb with rfl | hb
    · exact ⟨sz _ _ zP.1, ob _ _ zP.1⟩
    · rw [List.mem_singleton.mp hb]; exact ⟨sz _ _ zC.1, ob _ _ zC.1⟩
  case elt =>
    intro C' ys v₂ h₃ tk₃ m₃ E' hC' hlt hP hn hm hK hk₃
    obtain ⟨oP₃, oC₃, hp₃, gP, gC, is, his, hb⟩ := hK
    refine helt C' h₃ tk₃ m₃ oP₃ oC₃ E' _ (Nat.le_trans F.above (Nat.le_trans (Nat.le_of_lt F.ns.lt) (Nat.le_trans (Nat.le_of_lt (hite ▸ itlt)) hC'))) hn (fun b o n1 n2 e => hk₃ b o (ob b o e) (by simp [n1, n2]) (up b o e)) gP gC hp₃ fun h₄ tk₄ k t oP' oC' h0 h1 off gP' gC' hp' => ?_
    obtain ⟨is', his', hb'⟩ := Octs.snoc his hb (t := t) h0 h1
    exact ⟨h₄, tk₄, rfl, ⟨oP', oC', hp', gP', gC', is', his', hb'⟩, fun b o hb e => off b o (fun z => hb (by simp [z])) (fun z => hb (by simp [z])) e⟩
  case fin =>
    intro D h' tk ys e nD hys hK gD hk'
    obtain ⟨oP', oC', hp', gP', gC', is, his, hb⟩ := hK
    have off : Off P C s₁.heap h' := fun b o n1 n2 e => hk' b o (ob b o e) (by simp [n1, n2]) (up b o e)
    obtain ⟨F', N'⟩ := offK F N mP mC U off gP' gC'
    have hD1 := old D nD
    have gDn : g.get? D = none := by
      cases z : g.get? D with
      | none => rfl
      | some o => rw [F.keep _ _ z] at hD1; cases hD1
    have hDL : D ≠ L := fun z => by
      obtain ⟨o, _, _, ho, _⟩ := F.ns
      rw [z, ho] at hD1; cases hD1
    have hnD : ∀ p ∈ f oP' oC', p.1 ≠ D := fun p hp z => by
      rcases U.spec oP' oC' p hp with rfl | rfl | ⟨q, _⟩
      · have := zP.1; dsimp only at z; rw [z, hD1] at this; cases this
      · have := zC.1; dsimp only at z; rw [z, hD1] at this; cases this
      · have := (N p q).1; rw [z, hD1] at this; cases this
    refine hQ D h' tk ys is e oP' oC' F' (fun p hp => ?_) hnD hp' his hb (by omega) (by omega)
    rcases List.mem_cons.mp hp with rfl | hp
    · exact ⟨gD, hDL, gDn⟩
    · exact N' p hp
end
section
abbrev riO (n i : Nat) : Obj := { cls := .type "range_iterator", data := .fields #[rawInt (0 + (i : Int) * 1), rawInt ((n : Int) - (i : Int)), rawInt 1] }
theorem iter_range {prog : Program} {w : World} {A : Around} {E : Value → Shared → Prop} {s : Shared} {Q : Value → Shared → Prop} {g : Heap} {L r : Addr} {v : Int} {ta tb tc : Tok} {m : Str → Option Value} {news : List (Addr × Obj)}
    (hrg : IsRange s.heap r 0 v 1 ta tb tc) (h0 : 0 ≤ v) (h13 : v ≤ 13) (F : Fr g L s.heap m) (N : News g L s.heap news)
    (h : ∀ it h₅ n, v = ((n : Nat) : Int) → Fr g L h₅ m → News g L h₅ ((it, riO n 0) :: news) → (∀ p ∈ news, @LT.lt Nat _ p.1 it) → (∀ b o, s.heap.get? b = some o → h₅.get? b = some o) → @LT.lt Nat _ L it → Q (.ref it) { s with heap := h₅ }) :
    wpAny (model prog w) A (pyIter (.ref r)) Q E s := by
  have hsm : Builtin.Range.small 0 v 1 = true := by
    have hall : ∀ n : Fin 14, Builtin.Range.small 0 (n.val : Int) 1 = true := by decide
    have := hall ⟨v.toNat, by omega⟩
    simpa [Int.toNat_of_nonneg h0] using this
  have hrs : Builtin.Range.rangeSize 0 v 1 = v := by
    have hall : ∀ n : Fin 14, Builtin.Range.rangeSize 0 (n.val : Int) 1 = (n.val : Int) := by decide
    have := hall ⟨v.toNat, by omega⟩
    simpa [Int.toNat_of_nonneg h0] using this
  refine wpAny_pyIter_range hrg hsm ?_
  rw [hrs]
  obtain ⟨n, rfl⟩ := Int.eq_ofNat_of_zero_le h0
  have up : ∀ b o, s.heap.get? b = some o → (s.heap.push { cls := .type "range_iterator", data := .fields #[rawInt 0, rawInt (n : Int), rawInt 1] }).get? b = some o := fun b o e => Heap.get?_push_of_some _ e
  have hit : (s.heap.push { cls := .type "range_iterator", data := .fields #[rawInt 0, rawInt (n : Int), rawInt 1] }).get? s.heap.objs.size = some (riO n 0) := by
    have := Heap.get?_push_size s.heap (o := { cls := .type "range_iterator", data := .fields #[rawInt 0, rawInt (n : Int), rawInt 1] }) rfl
    rw [this]
    simp [riO]
  have old : s.heap.get? s.heap.objs.size = none := Heap.get?_none_of_le (Nat.le_refl _)
  refine h _ _ n rfl (F.keeps up) (fun p hp => ?_) (fun p hp => Heap.lt_size (N p hp).1) up F.ns.lt
  rcases List.mem_cons.mp hp with rfl | hp
  · refine ⟨hit, Nat.ne_of_gt F.ns.lt, ?_⟩
    cases z : g.get? s.heap.objs.size with
    | none => rfl
    | some o => rw [F.keep _ _ z] at old; cases old
  · exact ⟨up _ _ (N p hp).1, (N p hp).2⟩
theorem newsE {g h h' : Heap} {L it : Addr} {o o' : Obj} {news : List (Addr × Obj)} (N : News g L h ((it, o) :: news)) (hit' : h'.get? it = some o') (k : ∀ b o, b ≠ it → h.get? b = some o → h'.get? b = some o) (hne : ∀ p ∈ news, p.1 ≠ it) : News g L h' ((it, o') :: news) := fun p hp => by
  rcases List.mem_cons.mp hp with rfl | hp
  · exact ⟨hit', (N _ (.head _)).2⟩
  · exact ⟨k _ _ (hne p hp) (N p (.tail _ hp)).1, (N p (.tail _ hp)).2⟩
theorem News.sub {g h : Heap} {L : Addr} {news news' : List (Addr × Obj)} (N : News g L h news) (hs : ∀ p ∈ news', p ∈ news) : News g L h news' := fun p hp => N p (hs p hp)
end
section
open Builtin in
theorem meets_enumB (x : Array UInt8) (t : Tok) :
    Meets (Builtin.«enumerate.__new__» ⟨[.type "enumerate", .bytes x t], []⟩) (fun _ R s =>
      R (.ok (.ret (.ref (s.heap.push { cls := .type "bytes_iterator", data := .fields #[.bytes x t, .int 0 0] }).objs.size)))
        { s with heap := (s.heap.push { cls := .type "bytes_iterator", data := .fields #[.bytes x t, .int 0 0] }).push { cls := .type "enumerate", data := .fields #[.none, .bool false, .ref s.heap.objs.size, rawInt 0, .none, .none] } }) :=
  .of_wp fun prog w A R s h => by
    obtain ⟨hp, g, d, tk, os⟩ := s
    have hsub := sub_enumerate
    wp_walk
    refine wpAny_stack_any fun st => wpAny_pure ?_
    split
    · rename_i c _ _ _ _ _
      cases (c == Value.type "enumerate")
      · wp_walk using KBw.pyIter_bytes
        exact ⟨_, rfl, h⟩
      · wp_walk using KBw.pyIter_bytes
        exact ⟨_, rfl, h⟩
    · wp_walk using KBw.pyIter_bytes
      exact ⟨_, rfl, h⟩
section
variable {prog : Program} {w : World} {A : Around} {E : Value → Shared → Prop} {s : Shared}
theorem call_enumB {x : Array UInt8} {t : Tok} {Q : Value → Shared → Prop}
    (h : ∀ h', IsEnum h' (s.heap.objs.size + 1) s.heap.objs.size 0 .none → KBw.IsBytesIter h' s.heap.objs.size x t 0 → h'.objs.size = s.heap.objs.size + 2 →
      (∀ b o, s.heap.get? b = some o → h'.get? b = some o) → Q (.ref (s.heap.objs.size + 1)) { s with heap := h' }) :
    wpAny (model prog w) A (call (.type "enumerate") [.bytes x t]) Q E s := by
  refine callType_new F.called_enumerate (by decide) (F.typeCall_enumerate_1 _) (F.newCall_enumerate_1 _) (fun obj => F.args_object_init_2 obj _) F.entry_enumerate_new
    (meets_enumB x t) ?_
  have hz : (s.heap.push { cls := .type "bytes_iterator", data := .fields #[.bytes x t, .int 0 0] }).objs.size = s.heap.objs.size + 1 := Heap.size_push ..
  show _ ∧ _
  rw [hz]
  have he : IsEnum ((s.heap.push { cls := .type "bytes_iterator", data := .fields #[.bytes x t, .int 0 0] }).push
      { cls := .type "enumerate", data := .fields #[.none, .bool false, .ref s.heap.objs.size, rawInt 0, .none, .none] }) (s.heap.objs.size + 1) s.heap.objs.size 0 .none := by
    have := Heap.get?_push_size (s.heap.push { cls := .type "bytes_iterator", data := .fields #[.bytes x t, .int 0 0] })
      (o := { cls := .type "enumerate", data := .fields #[.none, .bool false, .ref s.heap.objs.size, rawInt 0, .none, .none] }) rfl
    rw [hz] at this; exact this
  refine ⟨⟨_, he, rfl⟩, h _ he ⟨_, Heap.get?_push_of_some _ (Heap.get?_push_size _ rfl), rfl, rfl⟩ (by rw [Heap.size_push, hz]) fun b o y => Heap.get?_push_of_some _ (Heap.get?_push_of_some _ y)⟩
open KBw in
theorem nextB_item {it : Addr} {x : Array UInt8} {t : Tok} {i : Nat} {c : UInt8} {Q : Value → Shared → Prop} (hit : IsBytesIter s.heap it x t i) (hx : x[i]? = some c)
    (hQ : ∀ h', IsBytesIter h' it x t (i + 1) → Heap.SameBut it s.heap h' → Q (.int (c.toNat : Int) s.toks) { s with heap := h', toks := s.toks + 1 }) :
    wpAny (model prog w) A (Builtin.SmallTypes.nextOf (.ref it)) Q E s := by
  obtain ⟨o, ho, hc, hd⟩ := id hit
  unfold Builtin.SmallTypes.nextOf
  refine wpAny_bind (wpAny_callSpecial?_slot (name := PySem.Str.ofString "__next__") (iter_typeIs hit) slot_next
    (wpAny_call_entry slot_next (iter_typeIs hit) entry_next ?_ (args_next _)))
  show wpAny _ _ (field (.ref it) 0 >>= _) _ _ s
  refine wpAny_bind (wpAny_field ho hd (x := .bytes x t) rfl ?_)
  show wpAny _ _ (if (Value.bytes x t == Value.none) = true then _ else _) _ _ s
  rw [if_neg (show ¬ ((Value.bytes x t == Value.none) = true) from Bool.false_ne_true)]
  show wpAny _ _ (field (.ref it) 1 >>= _) _ _ s
  refine wpAny_bind (wpAny_field ho hd (x := .int i 0) rfl ?_)
  refine wpAny_bind (wpAny_of_eq (a := x) rfl ?_)
  simp only [Int.toNat_natCast, hx]
  refine wpAny_bind (wpAny_setField ho hd (by simp) (wpAny_bind (wpAny_mkInt (wpAny_pure ⟨_, rfl, wpAny_pure (hQ _ ?_ (Heap.SameBut.update ..))⟩))))
  exact ⟨_, Heap.get?_update_self _ ho (Obj.isFreed_of_fields (Obj.data_mapFields hd _)), (Obj.cls_mapFields ..).trans hc, by
    rw [Obj.data_mapFields hd]; simp [rawInt]⟩
open KBw in
theorem nextB_end {it : Addr} {x : Array UInt8} {t : Tok} {i : Nat} {Q : Value → Shared → Prop} (hh : A.handled = none) (hit : IsBytesIter s.heap it x t i) (hx : x[i]? = none)
    (hE : ∀ h' e, Heap.ExtBut it s.heap h' → (∃ o, h'.get? e = some o ∧ o.cls = .type "StopIteration") → E (.ref e) { s with heap := h' }) :
    wpAny (model prog w) A (Builtin.SmallTypes.nextOf (.ref it)) Q E s := by
  obtain ⟨o, ho, hc, hd⟩ := id hit
  unfold Builtin.SmallTypes.nextOf
  refine wpAny_bind (wpAny_callSpecial?_slot (name := PySem.Str.ofString "__next__") (iter_typeIs hit) slot_next
    (wpAny_call_entry slot_next (iter_typeIs hit) entry_next ?_ (args_next _)))
  show wpAny _ _ (field (.ref it) 0 >>= _) _ _ s
  refine wpAny_bind (wpAny_field ho hd (x := .bytes x t) rfl ?_)
  show wpAny _ _ (if (Value.bytes x t == Value.none) = true then _ else _) _ _ s
  rw [if_neg (show ¬ ((Value.bytes x t == Value.none) = true) from Bool.false_ne_true)]
  show wpAny _ _ (field (.ref it) 1 >>= _) _ _ s
  refine wpAny_bind (wpAny_field ho hd (x := .int i 0) rfl ?_)
  refine wpAny_bind (wpAny_of_eq (a := x) rfl ?_)
  simp only [Int.toNat_natCast, hx]
  refine wpAny_bind (wpAny_rule (wpAny_bind (wpAny_setField ho hd (by simp) ?_)))
  show wpAny _ _ (newExc (.type "StopIteration") [] >>= _) _ _ _
  refine wpAny_bind ?_
  simp only [newExc, newTuple]
  refine wpAny_bind (wpAny_newObj_type ?_ (by size_fits))
  refine wpAny_bind (m := firstArgMember _ _) (wpAny_of_eq (a := Value.none) (by first | rfl | (simp only [firstArgMember]; rfl)) ?_)
  refine wpAny_newObj_type ?_ (by size_fits)
  simp only [raiseNew]
  refine wpAny_bind (wpAny_handled ?_)
  first | rw [show A.in1.handled = none from hh] | rw [hh]
  refine wpAny_bind (wpAny_pure (wpAny_throw ?_))
  exact hE _ _ (((Heap.SameBut.update ..).extBut.push _).push _) ⟨_, Heap.get?_push_size _ rfl, rfl⟩
end
open KBw in
theorem drawsB {prog : Program} {w : World} {A : Around} (hh : A.handled = none) (it : Addr) (x : Array UInt8) (t : Tok) :
    Draws prog w A it [it] x.size (fun i v => ∃ c u, x[i]? = some c ∧ v = .int (c.toNat : Int) u) (fun i h => IsBytesIter h it x t i) where
  live := fun _ _ st => let ⟨o, ho, _⟩ := st; ⟨o, ho⟩
  frame := fun _ _ _ st hk => let ⟨o, ho, r⟩ := st; ⟨o, hk it (by simp) o ho, r⟩
  item := fun i s Q E hi st hQ => by
    refine nextB_item st (c := x[i]) (by simp [hi]) fun h' hit' hs' => ?_
    exact hQ _ h' (s.toks + 1) ⟨_, _, by simp [hi], rfl⟩ hit' hs'
  done := fun s Q E st hE => nextB_end hh st (by simp) hE
section
variable {prog : Program} {w : World} {A : Around} {s : Shared} {env : Env} {h₀ : Heap}
theorem enumB_loop {R : Result → Shared → Prop} {xi xc : Str} {pk pv pt : Pos} {x1 : Nat} {body : List Stmt} {e it : Addr} {x : Array UInt8} {t : Tok} {ks : List Int} {m : Str → Option Value} {news : List (Addr × Obj)} (hh : A.handled = none)
    (he : IsEnum s.heap e it 0 .none) (hst : KBw.IsBytesIter s.heap it x t 0) (hk : KBw.bInts x = ks) (hei : e ≠ it) (hLe : env.locals ≠ e) (hLi : env.locals ≠ it) (hne : h₀.get? e = none) (hni : h₀.get? it = none)
    (hn : ∀ p ∈ news, p.1 ≠ e ∧ p.1 ≠ it) (hxi : env.kindOf xi = some .local) (hxc : env.kindOf xc = some .local)
    (hp : (env.scope.kind == .class || (env.scope.kind == .module && env.locals != env.globals)) = false)
    (F : Fr h₀ env.locals s.heap m) (N : News h₀ env.locals s.heap news) (J : Nat → (Str → Option Value) → List (Addr × Obj) → Prop) (h0 : J 0 m news)
    (step : ∀ i k t₁ t₂ m₁ news₁ h₁ tk₁ own, ks[i]? = some k → 0 ≤ k → k < 256 → J i m₁ news₁ → news₁.map (·.1) = news.map (·.1) →
      Fr h₀ env.locals h₁ (fun y => if y = xc then some (.int k t₂) else if y = xi then some (.int i t₁) else m₁ y) → News h₀ env.locals h₁ (own ++ news₁) →
      wpAny (model prog w) A (execs body env) (LoopStep3 h₀ env.locals own news₁ (J (i + 1)) { s with heap := h₁, toks := tk₁ } (fun v s' => R (.ok (.ret v)) s') fun s' => R (.ok .next) s') (notedBy (model prog w) A env fun e s' => R (.error e) s') { s with heap := h₁, toks := tk₁ })
    (hR : ∀ h' tk m' news', Fr h₀ env.locals h' m' → News h₀ env.locals h' news' → news'.map (·.1) = news.map (·.1) → J ks.length m' news' → R (.ok .next) { s with heap := h', toks := tk }) :
    codeAny (model prog w) A (.forLoop (.Tuple [.Name xi pk, .Name xc pv] x1 pt) (.ref e) body [] env) R s := by
  subst hk
  have D := drawsB (prog := prog) (w := w) (A := A.in1) hh it x t
  refine codeAny_forLoop_frT (P2 := fun i v0 v1 => ∃ t, v0 = .int i t ∧ ∃ c u, x[i]? = some c ∧ v1 = .int (c.toNat : Int) u) hh (WalksT.enumerateD D e hei (by simpa using hei) (by simp)) ?_ hxi hxc hp ?_ ?_ ?_ ⟨⟨_, by simpa using he⟩, hst⟩ F N J h0 ?_ ?_
  · rintro i vals ⟨t, x, hPx, rfl⟩
    exact ⟨_, _, rfl, t, rfl, hPx⟩
  · intro hm
    rcases List.mem_cons.mp hm with z | hm
    · exact hLe z
    · exact hLi (List.mem_singleton.mp hm)
  · intro b hb
    rcases List.mem_cons.mp hb with rfl | hb
    · exact hne
    · rw [List.mem_singleton.mp hb]; exact hni
  · intro p hp hb
    rcases List.mem_cons.mp hb with z | hb
    · exact (hn p hp).1 z
    · exact (hn p hp).2 (List.mem_singleton.mp hb)
  · rintro i v0 v1 m₁ news₁ s₁ own ⟨h₁, tk₁, rfl⟩ _ ⟨t₁, rfl, c, u, hc, rfl⟩ hJ ha hsub F₁ N₁
    have hk := KBw.ints_get hc
    have hb := KBw.ints_in (List.mem_of_getElem? hk)
    exact step i _ t₁ u m₁ news₁ h₁ tk₁ own hk hb.1 hb.2 hJ ha F₁ N₁
  · rw [← KBw.ints_length] 
    exact hR
end
end
section
def chk' : List Int → Int
  | a :: b :: c :: d :: r => (((a * 256 + b) * 256 + c) * 256 + d) + chk' r
  | _ => 0
/-- the octet's weight by its place -/
def wt (i : Nat) : Int := 256 ^ (3 - i % 4)
def wsum (i : Nat) : List Int → Int
  | [] => 0
  | k :: r => k * wt i + wsum (i + 1) r
theorem wt_per (i : Nat) : wt (i + 4) = wt i := by unfold wt; rw [Nat.add_mod_right]
theorem wsum_per : ∀ (l : List Int) (i : Nat), wsum (i + 4) l = wsum i l
  | [], _ => rfl
  | k :: r, i => by
    show k * wt (i + 4) + wsum (i + 4 + 1) r = k * wt i + wsum (i + 1) r
    rw [wt_per, show i + 4 + 1 = (i + 1) + 4 by omega, wsum_per r (i + 1)]
theorem chk_zeros : ∀ r : Nat, chk' (List.replicate r 0) = 0
  | 0 => rfl
  | 1 => rfl
  | 2 => rfl
  | 3 => rfl
  | r + 4 => by
    show _ + chk' (List.replicate r 0) = 0
    rw [chk_zeros r]; rfl
theorem wt0 : wt 0 = 16777216 := by decide
theorem wt1 : wt 1 = 65536 := by decide
theorem wt2 : wt 2 = 256 := by decide
theorem wt3 : wt 3 = 1 := by decide
theorem chk_wsum : ∀ (ks : List Int) (r : Nat), (ks.length + r) % 4 = 0 → chk' (ks ++ List.replicate r 0) = wsum 0 ks
  | [], r, _ => chk_zeros r
  | [a], r, h => by
    obtain ⟨q, rfl⟩ : ∃ q, r = q + 3 := ⟨r - 3, by simp at h; omega⟩
    show (((a * 256 + 0) * 256 + 0) * 256 + 0) + chk' (List.replicate q 0) = a * wt 0 + 0
    rw [chk_zeros q, wt0]; omega
  | [a, b], r, h => by
    obtain ⟨q, rfl⟩ : ∃ q, r = q + 2 := ⟨r - 2, by simp at h; omega⟩
    show (((a * 256 + b) * 256 + 0) * 256 + 0) + chk' (List.replicate q 0) = a * wt 0 + (b * wt 1 + 0)
    rw [chk_zeros q, wt0, wt1]; omega
  | [a, b, c], r, h => by
    obtain ⟨q, rfl⟩ : ∃ q, r = q + 1 := ⟨r - 1, by simp at h; omega⟩
    show (((a * 256 + b) * 256 + c) * 256 + 0) + chk' (List.replicate q 0) = a * wt 0 + (b * wt 1 + (c * wt 2 + 0))
    rw [chk_zeros q, wt0, wt1, wt2]; omega
  | a :: b :: c :: d :: ks, r, h => by
    show (((a * 256 + b) * 256 + c) * 256 + d) + chk' (ks ++ List.replicate r 0) = a * wt 0 + (b * wt 1 + (c * wt 2 + (d * wt 3 + wsum (0 + 4) ks)))
    rw [wsum_per, chk_wsum ks r (by simp at h; omega), wt0, wt1, wt2, wt3]; omega
theorem wt_fmod (i : Nat) : (256 : Int) ^ (3 - (i : Int).fmod 4).toNat = wt i := by
  unfold wt
  have e : (i : Int).fmod 4 = ((i % 4 : Nat) : Int) := by
    rw [Int.fmod_eq_emod_of_nonneg _ (by decide)]; rfl
  rw [e]
  congr 1
  omega
theorem wt_bound (i : Nat) : 0 ≤ wt i ∧ wt i ≤ 16777216 := by
  unfold wt
  have h : i % 4 = 0 ∨ i % 4 = 1 ∨ i % 4 = 2 ∨ i % 4 = 3 := by omega
  rcases h with h | h | h | h <;> rw [h] <;> decide
/-- one turn of the sum -/
theorem tot_step {is : List Int} {i : Nat} {k tot : Int} (hki : is[i]? = some k) (hk0 : 0 ≤ k) (hk1 : k < 256) (hsum : tot + wsum i (is.drop i) = wsum 0 is) (h0 : 0 ≤ tot) (hb : tot ≤ i * 4294967296) :
    tot + k * 256 ^ (3 - (i : Int).fmod 4).toNat + wsum (i + 1) (is.drop (i + 1)) = wsum 0 is ∧ 0 ≤ tot + k * 256 ^ (3 - (i : Int).fmod 4).toNat ∧ tot + k * 256 ^ (3 - (i : Int).fmod 4).toNat ≤ ((i + 1 : Nat) : Int) * 4294967296 := by
  rw [wt_fmod]
  obtain ⟨w0, w1⟩ := wt_bound i
  have hm : k * wt i ≤ 255 * 16777216 := Int.mul_le_mul (by omega) w1 w0 (by decide)
  have hm0 : 0 ≤ k * wt i := Int.mul_nonneg hk0 w0
  refine ⟨?_, by omega, by push_cast; omega⟩
  have hlt : i < is.length := by
    rcases Nat.lt_or_ge i is.length with z | z
    · exact z
    · rw [List.getElem?_eq_none z] at hki; cases hki
  have hk : is[i] = k := by
    rw [List.getElem?_eq_getElem hlt] at hki
    injection hki
  rw [List.drop_eq_getElem_cons hlt, hk] at hsum
  rw [← hsum, Int.add_assoc]
  rfl
end
section
theorem eval_draw {w : World} {mean : ExcName → Option Value} {mg mb : Str → Option Value} {A : Around} {g : Heap} {s : Shared} {Q : Value → Shared → Prop} {E : Value → Shared → Prop} {P C C' L c : Addr} {m : Str → Option Value} {news : List (Addr × Obj)} {env : Env} {scope : Scope} {cl : List (Str × Addr)} {oP oC o1 : Obj} {p1 p2 p3 p4 : Pos} {k : Nat} {n : Int}
    (hroom : A.depth + 1 < recursionLimit) (hun : A.units + 200 < cLine) (X : (hd.heap_39 w.params).In g) (T : TT mean mg mb g)
    (F : Fr g C' s.heap m) (N : News g L s.heap news) (hc : cl.lookup (Str.ofString "pen") = some c) (hm1 : (c, o1) ∈ news) (hd1 : o1.data = .cell (some (.ref P))) (hg : env.globals = mainGlobals)
    (hk : (compEnvC scope cl C' env).scope.kind = .function) (hx : (compEnvC scope cl C' env).kindOf "_law_draw" = some .globalImplicit) (hx2 : (compEnvC scope cl C' env).kindOf "pen" = some .cell)
    (nP : g.get? P = none) (nC : g.get? C = none) (hP : s.heap.get? P = some oP) (hC : s.heap.get? C = some oC) (hp : PenO C oP oC) (hn : 0 < n) (hn2 : n ≤ 256)
    (hQ : ∀ h' tk v t oP' oC', 0 ≤ v → v < n → Off P C s.heap h' → h'.get? P = some oP' → h'.get? C = some oC' → PenO C oP' oC' → Q (.int v t) { s with heap := h', toks := tk }) :
    wpAny (model PySem.Challenge.rw_nu0146_01.row.prog w) A (eval (.Call (.Name "_law_draw" p1) [.Name "pen" p2, .Constant (.int n) k p3] [] p4) (compEnvC scope cl C' env)) Q E s := by
  w_on
  refine Call_Name rfl ?_
  refine nameG_K F X (topRead_of T) (v := .ref 97) (by k_is) ?_ hg hk hx (by decide)
  refine callWith_K X (by k_is) ?_ (by rfl) (by rfl)
  refine spliced_more ?_
  refine nameG_C N hc hm1 hd1 ?_ hk hx2
  refine spliced_more ?_
  refine wpAny_Constant_int ?_
  refine spliced_none ⟨X.keeps F.keep, ?_⟩
  refine wpAny_call (draw_raw hroom hun X T F.keep nP nC hP hC hp hn hn2 fun h' tk v t oP' oC' => hQ h' tk v t oP' oC')
theorem eval_pick {w : World} {mean : ExcName → Option Value} {mg mb : Str → Option Value} {A : Around} {g : Heap} {s : Shared} {Q : Value → Shared → Prop} {E : Value → Shared → Prop} {P C C' L c : Addr} {m : Str → Option Value} {news : List (Addr × Obj)} {env : Env} {scope : Scope} {cl : List (Str × Addr)} {oP oC o1 : Obj} {p1 p2 p3 p4 p5 p6 p7 p8 p9 p10 : Pos} {k1 k2 k3 : Nat}
    (hroom : A.depth + 2 < recursionLimit) (hun : A.units + 300 < cLine) (X : (hd.heap_39 w.params).In g) (T : TT mean mg mb g)
    (F : Fr g C' s.heap m) (N : News g L s.heap news) (hc : cl.lookup (Str.ofString "pen") = some c) (hm1 : (c, o1) ∈ news) (hd1 : o1.data = .cell (some (.ref P))) (hg : env.globals = mainGlobals)
    (hk : (compEnvC scope cl C' env).scope.kind = .function) (hx : (compEnvC scope cl C' env).kindOf "_law_draw" = some .globalImplicit) (hx1 : (compEnvC scope cl C' env).kindOf "_law_pick" = some .globalImplicit) (hx2 : (compEnvC scope cl C' env).kindOf "pen" = some .cell)
    (nP : g.get? P = none) (nC : g.get? C = none) (hP : s.heap.get? P = some oP) (hC : s.heap.get? C = some oC) (hp : PenO C oP oC)
    (hQ : ∀ h' tk v t oP' oC', 0 ≤ v → v < 256 → Off P C s.heap h' → h'.get? P = some oP' → h'.get? C = some oC' → PenO C oP' oC' → Q (.int v t) { s with heap := h', toks := tk }) :
    wpAny (model PySem.Challenge.rw_nu0146_01.row.prog w) A (eval (.Call (.Name "_law_pick" p1) [.Name "pen" p2, .List [.Constant (.int 255) k1 p3, .Constant (.int 0) k2 p4, .Call (.Name "_law_draw" p5) [.Name "pen" p6, .Constant (.int 256) k3 p7] [] p8] p9] [] p10) (compEnvC scope cl C' env)) Q E s := by
  w_on
  refine Call_Name rfl ?_
  refine nameG_K F X (topRead_of T) (v := .ref 104) (by k_is) ?_ hg hk hx1 (by decide)
  refine callWith_K X (by k_is) ?_ (by rfl) (by rfl)
  refine spliced_more ?_
  refine nameG_C N hc hm1 hd1 ?_ hk hx2
  refine spliced_more ?_
  refine wpAny_List ?_
  refine spliced_more ?_
  refine wpAny_Constant_int ?_
  refine spliced_more ?_
  refine wpAny_Constant_int ?_
  refine spliced_more ?_
  refine eval_draw (s := { s with toks := s.toks + 1 + 1 }) (by omega) (by omega) X T F N hc hm1 hd1 hg hk hx hx2 nP nC hP hC hp (by decide) (by decide) fun h₁ tk₁ v₁ t₁ oP₁ oC₁ v0 v1 off gP gC hp₁ => ?_
  refine spliced_none ⟨by rw [sizeLine_eq]; simp, ?_⟩
  have st : g.StaysIn h₁ := fun b o e => off b o (fun z => by rw [z, nP] at e; cases e) (fun z => by rw [z, nC] at e; cases e) (F.keep b o e)
  have up : ∀ b o, h₁.get? b = some o → (h₁.push { cls := .type "list", data := .seq ([.int 255 s.toks, .int 0 (s.toks + 1), .int v₁ t₁] : List Value).toArray }).get? b = some o := fun b o e => Heap.get?_push_of_some _ e
  have hS : (h₁.push { cls := .type "list", data := .seq ([.int 255 s.toks, .int 0 (s.toks + 1), .int v₁ t₁] : List Value).toArray }).get? h₁.objs.size = some (W.listOf ([.int 255 s.toks, .int 0 (s.toks + 1), .int v₁ t₁] : List Value).toArray 0) := Heap.get?_push_size _ rfl
  refine spliced_none ⟨X.keeps fun b o e => up b o (st b o e), ?_⟩
  refine wpAny_call (pick_raw hroom hun X T (fun b o e => up b o (st b o e)) nP nC ?nS (up _ _ gP) (up _ _ gC) hp₁ hS (Nat.ne_of_gt (Heap.lt_size gP)) (Nat.ne_of_gt (Heap.lt_size gC)) (by simp) (by simp) fun h' tk x oP' oC' hx off' gP' gC' hp' => ?_)
  case nS =>
    cases z : g.get? h₁.objs.size with
    | none => rfl
    | some o => exact absurd (Heap.lt_size (st _ _ z)) (Nat.lt_irrefl _)
  have off2 : Off P C s.heap h' := fun b o n1 n2 e => off' b o n1 n2 (up b o (off b o n1 n2 e))
  simp only [List.mem_cons, List.not_mem_nil, or_false] at hx
  rcases hx with rfl | rfl | rfl
  · exact hQ _ _ _ _ _ _ (by decide) (by decide) off2 gP' gC' hp'
  · exact hQ _ _ _ _ _ _ (by decide) (by decide) off2 gP' gC' hp'
  · exact hQ _ _ _ _ _ _ v0 v1 off2 gP' gC' hp'
end
section
theorem PartsAre.snoc {vs : List Value} {ps : List (Option (Array UInt8))} {v : Value} {p : Option (Array UInt8)} (h : PartsAre vs ps) (hv : PartIs v p) : PartsAre (vs ++ [v]) (ps ++ [p]) := by
  induction h with
  | nil => exact .cons hv .nil
  | cons a _ ih => exact .cons a ih
theorem PartsAre.mem {vs : List Value} {ps : List (Option (Array UInt8))} {v : Value} (h : PartsAre vs ps) (hm : v ∈ vs) : ∃ p, PartIs v p := by
  induction h with
  | nil => cases hm
  | cons a _ ih =>
    rcases List.mem_cons.mp hm with rfl | hm
    · exact ⟨_, a⟩
    · exact ih hm
theorem partBytes {is : List Int} {t : Tok} (h : is.length ≤ 4) : ∃ p, PartIs (.bytes (byteArr is) t) p := ⟨some (byteArr is), t, rfl, by rw [byteArr_size]; exact h⟩
theorem partNone : ∃ p, PartIs .none p := ⟨none, rfl⟩
/-- a list against the empty one -/
theorem ne_empty {prog : Program} {w : World} {A : Around} {E Q : Value → Shared → Prop} {s : Shared} {l1 l2 : Addr} {xs : List Value} {e1 e2 : Nat} (g1 : s.heap.get? l1 = some (W.listOf xs.toArray e1)) (g2 : s.heap.get? l2 = some (W.listOf #[] e2)) (hu : A.units + 70 < cLine)
    (h0 : xs.length = 0 → Q (.bool false) s) (h1 : 0 < xs.length → Q (.bool true) s) :
    wpAny (model prog w) A (compareOp .NotEq (.ref l1) (.ref l2)) Q E s := by
  show wpAny _ _ (richCompare .NotEq (.ref l1) (.ref l2)) _ _ _
  rcases Nat.eq_zero_or_pos xs.length with z | z
  · have := List.eq_nil_of_length_eq_zero z
    subst this
    exact PySem.SeqAt.RcNeAt.lists (e := fun _ => true) ⟨_, g1, rfl, _, rfl⟩ ⟨_, g2, rfl, _, rfl⟩ rfl (by omega) (fun j j1 j2 => absurd j1 (by simp)) prog w E Q (h0 rfl)
  · exact PySem.SeqAt.RcNeAt.lists_lengths ⟨_, g1, rfl, _, rfl⟩ ⟨_, g2, rfl, _, rfl⟩ (by simp; intro q; rw [q] at z; exact absurd z (Nat.lt_irrefl _)) (by omega) prog w E Q (h1 z)
theorem C_Compare {M : Model} {A : Around} {E : Value → Shared → Prop} {s : Shared} {env : Env} {l r : Expr} {op : CmpOp} {pos : Pos} {Q : Value → Shared → Prop}
    (h : wpC M A (eval l env) (fun a s₁ => wpAny M A (eval r env) (fun b s₂ => wpAny M A (compareOp op a b) Q E s₂) E s₁) E s)
    (hm : behindInMarks op r = false := by with_unfolding_all rfl) : wpC M A (eval (.Compare l [op] [r] pos) env) Q E s := fun Γ p hΓ c => by
  simp only [eval_Compare1, markedBehindIn_of_false hm, Sem.wp_bind', Sem.wp_holding, Sem.wp_cmd_standAt, Sem.wp_operate]
  exact Sem.wp_mono M Γ _ (fun a p₁ s₁ h₁ => Sem.wp_mono M Γ _ (fun b _ s₂ h₂ => h₂ Γ _ hΓ) (fun _ _ _ h' => h') _ _ (h₁ Γ p₁ hΓ)) (fun _ _ _ h' => h') _ _ (h Γ p hΓ c)
end
section
local macro_rules | `(tactic| walk_at "call ref") => `(tactic| (k_here; (with_reducible show wpAny _ _ (call (Value.ref 104) _ _) _ _ _); refine' pick_K (hp := ?dp) (F := ?dF) (N := ?dN) ?da ?db ?dc ?dX ?dT ?dU ?dn1 ?dn2 ?dm1 ?dm2 ?dr1 ?dr2 ?_; (case dp => k_asm); (case dF => k_asm); (case dN => k_asm); (case da => k_mem); (case db => k_mem); (case dc => k_mem); (case dX => k_asm); (case dT => k_asm); (case dU => walk_at "upd2"); (case dn1 => omega); (case dn2 => omega); (case dm1 => simp); (case dm2 => simp); (case dr1 => (simp only [depth_deeper]; omega)); (case dr2 => (simp only [units_deeper]; omega)); intro h' tk' x' oP' oC' F' N' hp' hx'; (try dsimp only at N')))
local macro_rules | `(tactic| walk_at "compareOp NotEq") => `(tactic| (k_here; refine hold ?_))
local macro_rules | `(tactic| walk_at "compareOp NotEq ref") => `(tactic| (k_here; refine hold ?_))
local macro_rules | `(tactic| walk_at "compareOp NotEq ref ref") => `(tactic| (k_here; refine hold ?_))
local macro_rules | `(tactic| walk_at "eval ListComp") => `(tactic| refine hold ?_)
local macro_rules | `(tactic| walk_at "subscriptTail") => `(tactic| (k_here; k_dflt (refine' item_some ?N ?m ?a ?b ?z ?_; (case N => k_asm); (case m => k_mem); (case a => omega); (case b => omega); (case z => omega)); intro x' hx'))
abbrev sixP : List (Option (Array UInt8)) := [some #[97, 98], none, some #[97, 98]]
theorem six_run : (runL 6 true LS.init sixP).map (fun st => (st.offs, st.out)) = some ([6, 0, 6], #[97, 98]) := by decide
local macro_rules | `(tactic| walk_at "call type:enumerate") => `(tactic| (k_here; refine hold ?_))
theorem chk_same : ∀ l : List Int, chk l = chk' l
  | [] => rfl
  | [_] => rfl
  | [_, _] => rfl
  | [_, _, _] => rfl
  | a :: b :: c :: d :: r => by
    show _ + chk r = _ + chk' r
    rw [chk_same r]
theorem last_eq {is : List Int} {r : Nat} {tot : Int} (htot : tot = wsum 0 is) (hr : (is.length + r) % 4 = 0) : (chk (is ++ List.replicate r 0) % 4294967296 == tot.fmod (2 ^ Int.toNat 32)) = true := by
  rw [chk_same, chk_wsum is r hr, ← htot, show ((2 : Int) ^ Int.toNat 32) = 4294967296 by decide, Int.fmod_eq_emod_of_nonneg _ (by decide)]
  exact beq_self_eq_true _
theorem frAt {g h : Heap} {L : Addr} {m : Str → Option Value} {x : Str} {v : Value} (F : Fr g L h m) (e : m x = some v) : Fr g L h (fun y => if y = x then some v else m y) :=
  fr_congr F fun y => by
    by_cases z : y = x
    · subst z; rw [if_pos rfl, e]
    · rw [if_neg z]
theorem law_raw {w : World} {mean : ExcName → Option Value} {mg mb : Str → Option Value} {A : Around} {s : Shared} {R : Result → Shared → Prop} {pl : Addr} {xs : List Value} {ns : List Int}
    (hroom : A.depth + 8 < recursionLimit) (hun : A.units + 700 < cLine) (hh : A.handled = none) (hfr : A.frames = some []) (X : (hd.heap_39 w.params).In s.heap) (T : TT mean mg mb s.heap)
    (hL : s.heap.IsList pl xs.toArray) (hI : IntsAre xs ns) (hlen : ns.length ≤ 63)
    (hR : ∀ h' tk, (∀ b o, s.heap.get? b = some o → h'.get? b = some o) → R (.ok (.ret (.bool true))) { s with heap := h', toks := tk }) :
    codeC (model PySem.Challenge.rw_nu0146_01.row.prog w) A (.call (.ref 121) ⟨[.ref pl], []⟩) R s := by
  w_on
  refine' enterXK [] (binds := [("script", .ref pl)]) (by omega) X T (fun _ _ e => e) ?hm ?k6 ?k7 (BindsTo.of_eq ?k9) ?kk ?kn ?_ ?c2 ?c3 ?c4
  (case hm => exact fun _ h => nomatch h)
  (case k6 => k_is)
  (case k7 => k_is)
  (case k9 => rfl)
  (case kk => (intro n y hy; simp only [List.mem_cons, List.not_mem_nil, or_false] at hy; rcases hy with rfl; first | exact .inl rfl | exact .inr ⟨rfl, rfl⟩))
  (case kn => decide)
  (case c2 => rfl)
  (case c3 => rfl)
  (case c4 => rfl)
  intro g L' h₁ tk cells hL' hg hg' st' F N Y KX T' _
  have F₁ : Fr g L' h₁ (fun y => if y = "script" then some (.ref pl) else none) := fr_congr F (fun y => rfl)
  obtain ⟨o1, rfl, hd1⟩ := CellsAre.one (n := "pen") (c := L' + 1) Y
  replace hd1 : o1.data = .cell none := hd1
  have hLg : g.IsList pl xs.toArray := by
    obtain ⟨o, ho, r⟩ := hL
    exact ⟨o, hg' _ _ ho (by simp), r⟩
  have lift : ∀ (h' : Heap) (m : Str → Option Value), Fr g L' h' m → ∀ b o, s.heap.get? b = some o → h'.get? b = some o := fun _ _ F' b o q => F'.keep b o (hg' b o q (by simp))
  clear X T st' hg hL F Y
  simp only [List.cons_append, List.nil_append] at N
  try dsimp only
  try k_fold
  refine C_execs_cons (C_any ?_)
  k_steps
  refine wpAny_call (pen_raw (by simp only [depth_deeper]; omega) (by simp only [units_deeper]; omega) hh KX T' F₁.keep (hLg.at fun o e => F₁.keep _ _ e) hI hlen fun h₂ tk₂ P C oP oC k₂ nP nC gP gC hp => ?_)
  have ne_of : ∀ b, h₁.get? b = none → b ≠ L' ∧ g.get? b = none ∧ b ≠ L' + 1 := fun b e => by
    refine ⟨fun z => ?_, ?_, fun z => ?_⟩
    · obtain ⟨o, _, _, ho, _⟩ := F₁.ns
      rw [z, ho] at e; cases e
    · cases z : g.get? b with
      | none => rfl
      | some o => rw [F₁.keep _ _ z] at e; cases e
    · have := (N _ (.head _)).1
      rw [z] at e; rw [e] at this; cases this
  have F₂ := F₁.keeps k₂
  dsimp only
  refine wpAny_storeName_cell (c := L' + 1) rfl rfl rfl ⟨_, k₂ _ _ (N _ (.head _)).1, hd1⟩ fun h₃ hc₃ hs₃ => ?_
  obtain ⟨o1', ho1, hd1'⟩ := hc₃
  have hPn := ne_of P nP
  have hCn := ne_of C nC
  have hN1 := N _ (.head _)
  have F₃ := frE (h' := h₃) F₂ (by omega : L' ≠ L' + 1) hN1.2.2 (fun b o hb q => (hs₃.2 b hb).trans q)
  have N₃ : News g L' h₃ [(L' + 1, o1'), (P, oP), (C, oC)] := fun p hp => by
    simp only [List.mem_cons, List.not_mem_nil, or_false] at hp
    rcases hp with rfl | rfl | rfl
    · exact ⟨ho1, hN1.2⟩
    · exact ⟨(hs₃.2 _ hPn.2.2).trans gP, hPn.1, hPn.2.1⟩
    · exact ⟨(hs₃.2 _ hCn.2.2).trans gC, hCn.1, hCn.2.1⟩
  have hPC : @Ne Nat P C := pen_ne hp gP gC
  have hPL : @Ne Nat (L' + 1) P := Ne.symm hPn.2.2
  have hCL : @Ne Nat (L' + 1) C := Ne.symm hCn.2.2
  clear hN1 hPn hCn ne_of N F₁ F₂ nP nC gP gC ho1 hs₃ k₂ hd1 hLg hI
  clear o1
  dsimp only
  refine C_execs_cons (C_For ?_)
  k_steps
  dsimp only at *
  rename_i F₄' N₄' h₄ tk₄ ta tb tc hrg F₄ N₄ k₄
  refine iter_range hrg (by decide) (by decide) F₄ N₄ fun it h₅ n hn F₅ N₅ hlt₅ _ hLit => ?_
  dsimp only
  clear hrg F₄ N₄ k₄ F₄' N₄'
  obtain rfl : n = 3 := by omega
  clear hn
  have hitL : @LT.lt Nat _ (L' + 1) it := hlt₅ (L' + 1, o1') (.head _)
  have hitP : @LT.lt Nat _ P it := hlt₅ (P, oP) (.tail _ (.head _))
  have hitC : @LT.lt Nat _ C it := hlt₅ (C, oC) (.tail _ (.tail _ (.head _)))
  clear hlt₅
  refine codeC_forLoopA (fun n s' => ∃ (h' : Heap) (tk : Nat) (m : Str → Option Value) (i : Nat) (oP oC : Obj), s' = { s with heap := h', toks := tk } ∧ Fr g L' h' m ∧ News g L' h' [(it, riO 3 i), (L' + 1, o1'), (P, oP), (C, oC)] ∧ PenO C oP oC ∧ i ≤ 3 ∧ n = 4 - i) ?turn 4 ?init
  case init => exact ⟨h₅, _, _, 0, oP, oC, rfl, F₅, N₅, hp, by decide, rfl⟩
  case turn =>
    clear F₅ N₅ hp
    clear oP oC
    intro I₁ R₁ hI₁ hR₁
    rintro n s' ⟨h', tk, m, i, oP, oC, rfl, F, N, hp, hi, rfl⟩
    have hit := (N _ (.head _)).1
    rcases Nat.lt_or_ge i 3 with hlt | hge
    · refine (Walks.range (A := A.deeper _) hh it 0 1 3).item i { s with heap := h', toks := tk } _ _ hlt hit fun v h₆ tk₆ hv hit₆ k₆ => ?_
      obtain ⟨tv, rfl⟩ := hv
      have F₆ := frE F (Nat.ne_of_lt hLit) (N _ (.head _)).2.2 (fun b o hb e => k₆ b o (by simpa using hb) e)
      have N₆ : News g L' h₆ [(it, riO 3 (i + 1)), (L' + 1, o1'), (P, oP), (C, oC)] := newsE N hit₆ (fun b o hb e => k₆ b o (by simpa using hb) e) (by
        simp only [List.forall_mem_cons]
        exact ⟨Nat.ne_of_lt hitL, Nat.ne_of_lt hitP, Nat.ne_of_lt hitC, fun _ h => nomatch h⟩)
      clear N F hit k₆ hit₆
      dsimp only
      k_steps
      rename_i h₇ F₇ N₇
      dsimp only at F₇ N₇ ⊢
      refine C_execs_cons (C_any ?_)
      k_steps
      rename_i pa _ lp h₈ F₈ N₈
      dsimp only at F₈ N₈ lp ⊢
      obtain ⟨hpi, hp1, hpP, hpC⟩ := lp
      refine C_execs_cons (C_For ?_)
      (try clear F₇); (try clear N₇); (try clear F₆); (try clear N₆)
      k_steps
      rename_i h₉ tk₉ v tv₉ oP₂ oC₂ F₉ N₉ hp₂ hv0 hv1 h₁₀ tk₁₀ ta₁ tb₁ tc₁ hrg F₁₀ N₁₀ k₁₀
      dsimp only at hrg F₁₀ N₁₀ ⊢
      refine iter_range hrg hv0 (by omega) F₁₀ N₁₀ fun it2 h₁₁ n2 hn F₁₁ N₁₁ hlt₁₁ _ hLit2 => ?_
      subst hn
      dsimp only
      clear hrg k₁₀ F₁₀ N₁₀ F₉ N₉ F₈ N₈
      have hi2a : @LT.lt Nat _ pa it2 := hlt₁₁ (pa, _) (.head _)
      have hi2i : @LT.lt Nat _ it it2 := hlt₁₁ (it, _) (.tail _ (.head _))
      have hi2L : @LT.lt Nat _ (L' + 1) it2 := hlt₁₁ (L' + 1, o1') (.tail _ (.tail _ (.head _)))
      have hi2P : @LT.lt Nat _ P it2 := hlt₁₁ (P, _) (.tail _ (.tail _ (.tail _ (.head _))))
      have hi2C : @LT.lt Nat _ C it2 := hlt₁₁ (C, _) (.tail _ (.tail _ (.tail _ (.tail _ (.head _)))))
      clear hlt₁₁
      refine codeC_forLoopA (fun n s' => ∃ (h' : Heap) (tk : Nat) (m : Str → Option Value) (j : Nat) (oP oC : Obj) (vs : List Value) (ps : List (Option (Array UInt8))) (e : Nat), s' = { s with heap := h', toks := tk } ∧ Fr g L' h' m ∧ m "parts" = some (.ref pa) ∧
        News g L' h' [(it2, riO n2 j), (pa, W.listOf vs.toArray e), (it, riO 3 (i + 1)), (L' + 1, o1'), (P, oP), (C, oC)] ∧ PenO C oP oC ∧ PartsAre vs ps ∧ vs.length = j ∧ j ≤ n2 ∧ n = n2 + 1 - j) ?turn2 (n2 + 1) ?init2
      case init2 => exact ⟨h₁₁, _, _, 0, oP₂, oC₂, [], [], 0, rfl, F₁₁, rfl, N₁₁, hp₂, .nil, rfl, Nat.zero_le _, rfl⟩
      case turn2 =>
        clear F₁₁ N₁₁ hp₂ hp
        intro I₂ R₂ hI₂ hR₂
        rintro n s' ⟨h', tk, m, j, oP, oC, vs, ps, e, rfl, F, hmp, N, hp, hpa, hvj, hj, rfl⟩
        have hit := (N _ (.head _)).1
        rcases Nat.lt_or_ge j n2 with hlt | hge
        · refine (Walks.range (A := A.deeper _) hh it2 0 1 n2).item j { s with heap := h', toks := tk } _ _ hlt hit fun v h₆ tk₆ hv hit₆ k₆ => ?_
          obtain ⟨tv, rfl⟩ := hv
          have F₆ := frAt (frE F (Nat.ne_of_lt hLit2) (N _ (.head _)).2.2 (fun b o hb e => k₆ b o (by simpa using hb) e)) hmp
          have N₆ : News g L' h₆ [(it2, riO n2 (j + 1)), (pa, W.listOf vs.toArray e), (it, riO 3 (i + 1)), (L' + 1, o1'), (P, oP), (C, oC)] := newsE N hit₆ (fun b o hb e => k₆ b o (by simpa using hb) e) (by
            simp only [List.forall_mem_cons]
            exact ⟨Nat.ne_of_lt hi2a, Nat.ne_of_lt hi2i, Nat.ne_of_lt hi2L, Nat.ne_of_lt hi2P, Nat.ne_of_lt hi2C, fun _ h => nomatch h⟩)
          clear N F hit k₆ hit₆ hmp
          dsimp only
          k_steps
          rename_i h₇ F₇ N₇
          dsimp only at F₇ N₇ ⊢
          (try clear F₆); (try clear N₆)
          refine C_execs_cons (C_any ?_)
          k_steps
          unfold Hold
          refine comp_pen (cl := [("pen", L' + 1)]) (P := P) (C := C) (g := g) (L := L') hh (by rfl) (by decide) (by rfl) (by decide) (by rfl) ?_ (by intro _; rfl)
          k_steps
          rename_i h₈ tk₈ v tv₈ oP₂ oC₂ F₈ N₈ hp₂ hv0 hv1 h₉ tk₉ ta₁ tb₁ tc₁ hrg F₉ N₉ k₉
          dsimp only at hrg F₉ N₉ ⊢
          refine ⟨_, v, _, _, _, _, _, oP₂, oC₂, _, rfl, hrg, hv0, by omega, F₉, N₉, .tail _ (.tail _ (.tail _ (.tail _ (.head _)))), .tail _ (.tail _ (.tail _ (.tail _ (.tail _ (.head _))))), hp₂, .oth (by omega) (by omega) (.oth (by omega) (by omega) (.oth (by omega) (by omega) (.oth (by omega) (by omega) (.pen (.cel .nil))))), ?elt, ?fin⟩
          case elt =>
            intro C' h₃ tk₃ m₃ oP₃ oC₃ E' Q' hC' hn hk₃ gP gC hp₃ hQ'
            have zP := N₉ (P, oP₂) (.tail _ (.tail _ (.tail _ (.tail _ (.head _)))))
            have zC := N₉ (C, oC₂) (.tail _ (.tail _ (.tail _ (.tail _ (.tail _ (.head _))))))
            have zL := N₉ (L' + 1, o1') (.tail _ (.tail _ (.tail _ (.head _))))
            have F₃ : Fr g C' h₃ m₃ := ⟨hn, fun b o q => hk₃ b o (fun z => by rw [z, zP.2.2] at q; cases q) (fun z => by rw [z, zC.2.2] at q; cases q) (F₉.keep b o q), hC'⟩
            have N₃ : News g L' h₃ [(L' + 1, o1')] := fun p hp => by
              simp only [List.mem_cons, List.not_mem_nil, or_false] at hp
              subst hp
              exact ⟨hk₃ _ _ hPL hCL zL.1, zL.2⟩
            exact eval_draw (by simp only [depth_deeper]; omega) (by simp only [units_deeper]; omega) KX T' F₃ N₃ (by rfl) (.head _) hd1' (by rfl) (by rfl) (by rfl) (by rfl) zP.2.2 zC.2.2 gP gC hp₃ (by decide) (by decide) fun h' tk v t oP' oC' h0 h1 => hQ' h' tk v t oP' oC' h0 (by omega)
          case fin =>
            intro D h' tk ys is e1 oP₄ oC₄ F₁₀ N₁₀ nD hp₄ hI₄ hb₄ hl₄ hlv
            clear hrg F₉ N₉ k₉ F₈ N₈
            refine spliced_none ?_
            refine call_bytes_ints (News.isList N₁₀ (.head _)) hI₄ hb₄ (by rw [sizeLine_eq]; omega) hh fun h₁₁ tb tk₁₁ k₁₁ => ?_
            have F₁₁ := F₁₀.keeps k₁₁
            have N₁₁ := News.grown N₁₀ k₁₁
            clear F₁₀ N₁₀ k₁₁
            dsimp only at F₁₁ N₁₁ ⊢
            k_steps
            rename_i h₁₂ F₁₂ N₁₂'
            dsimp only at F₁₂ N₁₂' ⊢
            (try clear F₁₁); (try clear N₁₁)
            have N₁₂ := News.sub N₁₂' fun p hp => List.Mem.tail _ hp
            clear N₁₂' nD
            refine C_execs_cons (C_any ?_)
            k_steps
            rename_i Lb h₁₃ F₁₃ N₁₃ lB
            dsimp only at F₁₃ N₁₃ lB ⊢
            (try clear F₁₂); (try clear N₁₂)
            obtain ⟨lB1, lB2, lB3, lB4, lB5, lB6⟩ := lB
            unfold Hold
            have hvl : vs.length ≤ 256 := by omega
            have hpb : ∃ p, PartIs (.bytes (byteArr is) tb) p := partBytes (by rw [← hI₄.length]; omega)
            refine ne_empty (News.get N₁₃ (.tail _ (.tail _ (.head _)))) (News.get N₁₃ (.head _)) (by simp only [units_deeper]; omega) (fun hz => ?_) (fun hpos => ?_)
            all_goals
              refine wpAny_truthy_bool ?_
              (try simp only [Bool.false_eq_true, if_false, if_true])
              k_steps
              rename_i Lc _ lC _ tkz xr oP₅ oC₅ hp₅ hx₅ h₁₄ F₁₄ N₁₄
              dsimp only at F₁₄ N₁₄ ⊢
              rw [List.push_toArray] at N₁₄
              obtain ⟨p, hpr⟩ : ∃ p, PartIs xr p := by
                simp only [List.mem_cons, List.not_mem_nil, or_false] at hx₅
                rcases hx₅ with rfl | rfl | rfl | rfl <;> first | exact hpb | exact partNone | exact hpa.mem (by assumption)
              refine C_execs_nil ?_
              exact ⟨n2 + 1 - (j + 1), by omega, hI₂ _ _ ⟨h₁₄, _, _, j + 1, oP₅, oC₅, vs ++ [xr], ps ++ [p], e + 1, rfl, F₁₄, rfl, News.sub N₁₄ fun p hp => .tail _ (.tail _ hp), hp₅, hpa.snoc hpr, by rw [List.length_append, hvj]; rfl, hlt, rfl⟩⟩
        · obtain rfl : j = n2 := Nat.le_antisymm hj hge
          refine (Walks.range (A := A.deeper _) hh it2 0 1 j).done { s with heap := h', toks := tk } _ _ hit fun h₆ tk₆ k₆ => ?_
          have F₆ := frAt (frE F (Nat.ne_of_lt hLit2) (N _ (.head _)).2.2 (fun b o hb e => k₆ b o (by simpa using hb) e)) hmp
          have N₆ : News g L' h₆ [(pa, W.listOf vs.toArray e), (it, riO 3 (i + 1)), (L' + 1, o1'), (P, oP), (C, oC)] := fun p hp => ⟨k₆ _ _ (by
            simp only [List.mem_cons, List.not_mem_nil, or_false] at hp ⊢
            rcases hp with rfl | rfl | rfl | rfl | rfl
            · exact Nat.ne_of_lt hi2a
            · exact Nat.ne_of_lt hi2i
            · exact Nat.ne_of_lt hi2L
            · exact Nat.ne_of_lt hi2P
            · exact Nat.ne_of_lt hi2C) (N p (.tail _ hp)).1, (N p (.tail _ hp)).2⟩
          clear N F hit k₆ hmp
          refine hR₂ _ _ ?_
          show wpC _ _ _ _ _ _
          dsimp only
          refine C_execs_cons (C_any ?_)
          k_steps
          rename_i Lp xb h₇ _ _ _ _ _ vsh _ _ _ hpz hs0 hs1 Tp h₈ F₈ N₈ lT
          refine unpackItemsN_ F₈ N₈ (News.isTup N₈ (.head _)) hh rfl ?_
          intro h₉ F₉ N₉
          dsimp only at *
          k_steps
          rename_i h₁₂ F₁₂ N₁₂
          rename _ ∈ _ => hxm
          obtain ⟨begin, t3, rfl, hb0, hb1⟩ : ∃ begin t3, xb = .int begin t3 ∧ 0 ≤ begin ∧ begin ≤ 65535 := by
            simp only [List.mem_cons, List.not_mem_nil, or_false] at hxm
            rcases hxm with rfl | rfl | rfl | rfl
            · exact ⟨_, _, rfl, by omega, by omega⟩
            · exact ⟨_, _, rfl, by omega, by omega⟩
            · exact ⟨_, _, rfl, by omega, by omega⟩
            · exact ⟨_, _, rfl, by omega, by omega⟩
          obtain ⟨oP₃, oC₃, hp₃, N₁₃⟩ : ∃ oP oC, PenO C oP oC ∧ News g L' h₁₂ [(pa, W.listOf vs.toArray e), (it, riO 3 (i + 1)), (L' + 1, o1'), (P, oP), (C, oC)] := ⟨_, _, hpz, News.sub N₁₂ fun p hp => .tail _ (.tail _ hp)⟩
          clear hxm N₁₂ hpz lT
          generalize decide (0 < vsh) = sh at F₁₂
          refine C_execs_cons (C_any ?_)
          k_steps
          rename_i kl ek _ lk h₁₄ F₁₄ N₁₄
          dsimp only at F₁₄ N₁₄ ⊢
          (try clear F₁₂); (try clear N₁₃)
          obtain ⟨hka, hki, hk1, hkP, hkC⟩ := lk
          have hps : ps.length ≤ 8 := by rw [← hpa.len]; omega
          refine C_execs_cons (C_If (C_isTrue_Or (C_isTrue_Compare (C_CallK 116 KX (by kernel_rfl) ?_))))
          k_steps
          · exact F₁₄.keep
          obtain ⟨oL, esL, epL, hoL, hdL, _⟩ := id F₁₄.ns
          have nL : g.get? L' = none := Heap.get?_none_of_le F₁₄.above
          have mP := N₁₄ (pa, _) (.tail _ (.head _))
          refine C_call (heard_raw (h₀ := g) (outer := [_]) (by simp only [depth_deeper]; omega) (by simp only [units_deeper]; omega) hh KX T' F₁₄.keep mP.1 hpa hps hb0 hb1 (by show Option.map _ _ = _; rw [hfr]; rfl)
            ⟨(fun z => by cases z), ⟨L', oL, rfl, nL, hoL, fun vs z => by rw [hdL] at z; cases z⟩, trivial⟩ ?ok ?bad)
          case' ok =>
            intro h' tk T1 O1 offs1 e1 st1 t1 k1 nT1 nO1 hr1 hi1 hz1 hn1 gT1 gO1
            have F15 := F₁₄.keeps k1
            have N15 := News.grown N₁₄ k1
            dsimp only
            refine C_CallK 109 KX (by kernel_rfl) ?_
            clear F₁₄ N₁₄
            k_steps
            · exact F15.keep
            refine C_call (llaid_raw (h₀ := g) (by simp only [depth_deeper]; omega) (by simp only [units_deeper]; omega) hh KX T' F15.keep (N15 (pa, _) (.tail _ (.head _))).1 hpa hps hb0 hb1 ?ok2 ?bad2)
            case bad2 =>
              intro h'' tk'' hr2 _
              rcases run_init begin sh ps with ⟨hl0, hw0⟩ | ⟨l', w', hl, hw, ho, hd⟩
              · rw [hl0] at hr1; cases hr1
              · rw [hw] at hr2; cases hr2
            case' ok2 =>
              intro h'' tk'' T2 O2 offs2 e2 st2 t2 k2 nT2 nO2 hr2 hi2 hz2 hn2 gT2 gO2
              obtain ⟨heo, hed⟩ : st1.offs = st2.offs ∧ st1.out = st2.data := by
                rcases run_init begin sh ps with ⟨hl0, hw0⟩ | ⟨l', w', hl, hw, ho, hd⟩
                · rw [hl0] at hr1; cases hr1
                · rw [hl] at hr1; rw [hw] at hr2; cases hr1; cases hr2; exact ⟨ho, hd⟩
              have F16 := F15.keeps k2
              have N16 := News.grown N15 k2
              dsimp only
              rw [heo] at hi1
              rw [hed] at gT1
              refine ne_results (fun z => by rw [z, nO2] at gO1; cases gO1) (k2 _ _ gT1) gT2 (k2 _ _ gO1) gO2 hi1 hi2 (by simp only [units_deeper]; omega) ?_
              clear F15 N15 gT1 gT2 gO1 gO2 hi1 hi2 nO2 nT2 nO1 nT1 k1 k2 mP hoL
          case' bad =>
            intro h' tk hr1 k1 hup
            have F15 : Fr g L' h' _ := ⟨hup.ns F₁₄.ns, fun b o q => k1 b o (F₁₄.keep b o q) (fun z => by
              have z' : b ∈ [L'] := z
              rw [List.mem_singleton.mp z', nL] at q; cases q), F₁₄.above⟩
            have N15 : News g L' h' [(kl, W.listOf vs.toArray ek), (pa, W.listOf vs.toArray e), (it, riO 3 (i + 1)), (L' + 1, o1'), (P, oP₃), (C, oC₃)] := fun p hp => ⟨k1 _ _ (N₁₄ p hp).1 (fun z => by
              have z' : p.1 ∈ [L'] := z
              exact (N₁₄ p hp).2.1 (List.mem_singleton.mp z')), (N₁₄ p hp).2⟩
            dsimp only
            refine C_CallK 109 KX (by kernel_rfl) ?_
            clear F₁₄ N₁₄
            k_steps
            · exact F15.keep
            refine C_call (llaid_raw (h₀ := g) (by simp only [depth_deeper]; omega) (by simp only [units_deeper]; omega) hh KX T' F15.keep (N15 (pa, _) (.tail _ (.head _))).1 hpa hps hb0 hb1 ?ok2 ?bad2)
            case ok2 =>
              intro h'' tk'' T2 O2 offs2 e2 st2 t2 k2 nT2 nO2 hr2 hi2 hz2 hn2 gT2 gO2
              rcases run_init begin sh ps with ⟨hl0, hw0⟩ | ⟨l', w', hl, hw, ho, hd⟩
              · rw [hw0] at hr2; cases hr2
              · rw [hl] at hr1; cases hr1
            case' bad2 =>
              intro h'' tk'' hr2 k2
              have F16 := F15.keeps k2
              have N16 := News.grown N15 k2
              dsimp only
              show wpAny _ _ (richCompare .NotEq .none .none) _ _ _
              refine PySem.SeqAt.RcNeAt.none_none _ _ _ _ ?_
              clear F15 N15 k1 k2 mP hoL
          all_goals
            refine wpAny_truthy_bool ?_
            (try dsimp only)
            (try simp only [if_false, Bool.false_eq_true])
            k_steps
          all_goals
            unfold Hold
            refine ne_copy (N16 (pa, _) (.tail _ (.head _))).1 (N16 (kl, _) (.head _)).1 (by simp only [units_deeper]; omega) ?_
            refine wpAny_truthy_bool ?_
            (try simp only [Bool.false_eq_true, if_false])
            refine C_execs_nil ?_
            show wpC _ _ _ _ _ _
            refine C_execs_nil ?_
            exact ⟨4 - (i + 1), by omega, hI₁ _ _ ⟨h'', _, _, i + 1, oP₃, oC₃, rfl, F16, News.sub N16 (fun p hp => .tail _ (.tail _ hp)), hp₃, by omega, rfl⟩⟩
    · obtain rfl : i = 3 := Nat.le_antisymm hi hge
      refine (Walks.range (A := A.deeper _) hh it 0 1 3).done { s with heap := h', toks := tk } _ _ hit fun h₆ tk₆ k₆ => ?_
      have F₆ := frE F (Nat.ne_of_lt hLit) (N _ (.head _)).2.2 (fun b o hb e => k₆ b o (by simpa using hb) e)
      have N₆ : News g L' h₆ [(L' + 1, o1'), (P, oP), (C, oC)] := fun p hp => ⟨k₆ _ _ (by
        simp only [List.mem_cons, List.not_mem_nil, or_false] at hp ⊢
        rcases hp with rfl | rfl | rfl
        · exact Nat.ne_of_lt hitL
        · exact Nat.ne_of_lt hitP
        · exact Nat.ne_of_lt hitC) (N p (.tail _ hp)).1, (N p (.tail _ hp)).2⟩
      clear N F hit k₆
      refine hR₁ _ _ ?_
      show wpC _ _ _ _ _ _
      dsimp only
      refine C_execs_cons (C_If (C_isTrue_Compare (C_CallK 78 KX (by kernel_rfl) ?_)))
      k_steps
      all_goals rename_i pb h₇ F₇ N₇ lb
      all_goals dsimp only at F₇ N₇ lb ⊢
      · exact F₇.keep
      have nL : g.get? L' = none := Heap.get?_none_of_le F₇.above
      obtain ⟨oL, esL, epL, hoL, hdL, _⟩ := id F₇.ns
      refine C_call (laid_raw (h₀ := g) (base := g) (outer := [_]) (ps := sixP) (xs := [.bytes #[97, 98] _, .none, .bytes #[97, 98] _]) (sh := true) (by simp only [depth_deeper]; omega) (by simp only [units_deeper]; omega) hh KX T' F₇.keep (N₇ _ (.head _)).1 (.cons ⟨_, rfl, by decide⟩ (.cons rfl (.cons ⟨_, rfl, by decide⟩ .nil))) (by decide) (by decide) (by decide) (.inr ⟨rfl, rfl⟩) (by show Option.map _ _ = _; rw [hfr]; rfl)
        ⟨(fun z => by cases z), ⟨L', oL, rfl, nL, hoL, fun vs z => by rw [hdL] at z; cases z⟩, trivial⟩ F₇.keep ?okS ?badS)
      case badS =>
        intro h' tk e a0 hr1
        have := six_run
        rw [hr1] at this; cases this
      case okS =>
        intro h' tk T1 O1 offs e1 st1 t1 k1 nT1 nO1 hr1 hi1 hz1 hn1 gT1 gO1
        have h6 := six_run
        rw [hr1] at h6
        injection h6 with h6
        injection h6 with h6o h6d
        rw [h6o] at hi1
        rw [h6d] at gT1
        have F₈ := F₇.keeps k1
        have fr : ∀ b, h₇.get? b = none → b ≠ L' ∧ g.get? b = none := fun b hb => by
          refine ⟨fun z => ?_, ?_⟩
          · rw [z, hoL] at hb; cases hb
          · cases z : g.get? b with
            | none => rfl
            | some o => rw [F₇.keep _ _ z] at hb; cases hb
        have N₈ : News g L' h' [(T1, { cls := .type "tuple", data := .seq #[.ref O1, .bytes #[97, 98] t1] }), (O1, W.listOf offs.toArray e1), (L' + 1, o1'), (P, oP), (C, oC)] := fun p hp => by
          rcases List.mem_cons.mp hp with rfl | hp
          · exact ⟨gT1, fr _ nT1⟩
          · rcases List.mem_cons.mp hp with rfl | hp
            · exact ⟨gO1, fr _ nO1⟩
            · exact News.grown N₇ k1 p (.tail _ hp)
        clear F₇ N₇ gT1 gO1 nT1 nO1 hr1 h6o h6d k1 hoL fr lb
        dsimp only
        refine C_any ?_
        k_steps
        dsimp only at *
        rename_i O2 _ lO T2 h₈ F₉ N₉ _
        unfold Hold
        refine ne_results (Nat.ne_of_lt lO.2.1) (News.get N₉ (.tail _ (.tail _ (.head _)))) (News.get N₉ (.head _)) (News.get N₉ (.tail _ (.tail _ (.tail _ (.head _))))) (News.get N₉ (.tail _ (.head _))) hi1 (.cons _ _ (.cons _ _ (.cons _ _ .nil))) (by simp only [units_deeper]; omega) ?_
        refine wpAny_truthy_bool ?_
        simp only [Bool.false_eq_true, if_false]
        refine C_execs_nil ?_
        have N₁₀ : News g L' h₈ [(L' + 1, o1'), (P, oP), (C, oC)] := News.sub N₉ fun p hp => .tail _ (.tail _ (.tail _ (.tail _ hp)))
        clear N₉ hi1 hz1 hn1
        show wpC _ _ _ _ _ _
        refine C_execs_cons (C_any ?_)
        k_steps
        unfold Hold
        refine comp_pen (cl := [("pen", L' + 1)]) (P := P) (C := C) (g := g) (L := L') hh (by rfl) (by decide) (by rfl) (by decide) (by rfl) ?_ (by intro _; rfl)
        k_steps
        rename_i h₉ tk₉ v tv₉ oP₂ oC₂ F₁₁ N₁₁ hp₂ hv0 hv1 h₁₂ tk₁₂ ta₁ tb₁ tc₁ hrg F₁₂ N₁₂ k₁₂
        dsimp only at hrg F₁₂ N₁₂ ⊢
        refine ⟨_, v, _, _, _, _, _, oP₂, oC₂, _, rfl, hrg, hv0, by omega, F₁₂, N₁₂, .tail _ (.head _), .tail _ (.tail _ (.head _)), hp₂, .oth (by omega) (by omega) (.pen (.cel .nil)), ?eltD, ?finD⟩
        case eltD =>
          intro C' h₃ tk₃ m₃ oP₃ oC₃ E' Q' hC' hn hk₃ gP gC hp₃ hQ'
          have zP := N₁₂ (P, oP₂) (.tail _ (.head _))
          have zC := N₁₂ (C, oC₂) (.tail _ (.tail _ (.head _)))
          have zL := N₁₂ (L' + 1, o1') (.head _)
          have F₃ : Fr g C' h₃ m₃ := ⟨hn, fun b o q => hk₃ b o (fun z => by rw [z, zP.2.2] at q; cases q) (fun z => by rw [z, zC.2.2] at q; cases q) (F₁₂.keep b o q), hC'⟩
          have N₃ : News g L' h₃ [(L' + 1, o1')] := fun p hp => by
            simp only [List.mem_cons, List.not_mem_nil, or_false] at hp
            subst hp
            exact ⟨hk₃ _ _ hPL hCL zL.1, zL.2⟩
          exact eval_pick (by simp only [depth_deeper]; omega) (by simp only [units_deeper]; omega) KX T' F₃ N₃ (by rfl) (.head _) hd1' (by rfl) (by rfl) (by rfl) (by rfl) (by rfl) zP.2.2 zC.2.2 gP gC hp₃ fun h' tk v t oP' oC' h0 h1 => hQ' h' tk v t oP' oC' h0 h1
        case finD =>
          intro D h' tk ys is e1 oP₄ oC₄ F₁₄ N₁₄ nD hp₄ hI₄ hb₄ hl₄ hlv
          clear hrg F₁₁ N₁₁ F₁₂ N₁₂ k₁₂
          refine spliced_none ?_
          refine call_bytes_ints (News.isList N₁₄ (.head _)) hI₄ hb₄ (by rw [sizeLine_eq]; omega) hh fun h₁₅ tb tk₁₅ k₁₅ => ?_
          have F₁₅ := F₁₄.keeps k₁₅
          have N₁₅ := News.grown N₁₄ k₁₅
          clear F₁₄ N₁₄ k₁₅
          dsimp only at F₁₅ N₁₅ ⊢
          k_steps
          rename_i h₁₆ F₁₆ N₁₆'
          dsimp only at F₁₆ N₁₆' ⊢
          (try clear F₁₅); (try clear N₁₅)
          have N₁₆ := News.sub N₁₆' fun p hp => List.Mem.tail _ hp
          clear N₁₆' nD
          refine C_execs_cons (C_any ?_)
          k_steps
          rename_i h₁₇ F₁₇ N₁₇
          dsimp only at F₁₇ N₁₇ ⊢
          (try clear F₁₆); (try clear N₁₆)
          refine C_execs_cons (C_For ?_)
          k_steps
          unfold Hold
          refine call_enumB fun h₁₈ he hbi hz₁₈ k₁₈ => ?_
          refine wpAny_pyIter_enum he ?_
          have F₁₈ := F₁₇.keeps k₁₈
          have N₁₈ := News.grown N₁₇ k₁₈
          have hLs : @LT.lt Nat _ L' h₁₇.objs.size := F₁₇.ns.lt
          have hnl : ∀ p ∈ [(L' + 1, o1'), (P, oP₄), (C, oC₄)], @LT.lt Nat _ p.1 h₁₇.objs.size := fun p hp => Heap.lt_size (N₁₇ p hp).1
          have hgn : ∀ b : Nat, h₁₇.objs.size ≤ b → g.get? b = none := fun b hb => by
            cases z : g.get? b with
            | none => rfl
            | some o => exact absurd (Heap.lt_size (F₁₇.keep _ _ z)) (Nat.not_lt.mpr hb)
          clear F₁₇ N₁₇ k₁₈ hz₁₈
          dsimp only at F₁₈ N₁₈ ⊢
          have hks : KBw.bInts (byteArr is) = is := KBa.ints_make hb₄
          have hil : is.length ≤ 13 := by rw [← hI₄.length]; exact hl₄
          refine codeC_any ?_
          refine enumB_loop (A := A.deeper _) hh he hbi hks (Nat.ne_of_gt (Nat.lt_succ_self _)) (Nat.ne_of_lt (Nat.lt_succ_of_lt hLs)) (Nat.ne_of_lt hLs) (hgn _ (Nat.le_succ _)) (hgn _ (Nat.le_refl _)) (fun p hp => ⟨Nat.ne_of_lt (Nat.lt_succ_of_lt (hnl p hp)), Nat.ne_of_lt (hnl p hp)⟩) (by rfl) (by rfl) (by rfl) F₁₈ N₁₈
            (fun i m _ => ∃ tot tt, m "total" = some (.int tot tt) ∧ m "data" = some (.bytes (byteArr is) tb) ∧ tot + wsum i (is.drop i) = wsum 0 is ∧ 0 ≤ tot ∧ tot ≤ i * 4294967296) ⟨0, _, rfl, rfl, by rw [List.drop_zero, Int.zero_add], Int.le_refl _, by simp⟩ ?_ ?_
          · clear F₁₈ N₁₈ hnl hgn hLs
            rintro i k t₁ t₂ m₁ news₁ h₁₉ tk₁ own hki hk0 hk1 ⟨tot, tt, hmt, hmd, hsum, h0t, hbt⟩ hnn F₁₉ N₁₉
            have F₂₀ := frAt F₁₉ (x := "total") (v := .int tot tt) hmt
            clear F₁₉
            have hi13 : i < is.length := by
              rcases Nat.lt_or_ge i is.length with z | z
              · exact z
              · rw [List.getElem?_eq_none z] at hki; cases hki
            have hi3 : i ≤ 12 := by omega
            have hbt2 : tot ≤ 60000000000 := by
              have : (i : Int) ≤ 12 := by omega
              omega
            obtain ⟨hA, hB, hD⟩ := tot_step hki hk0 hk1 hsum h0t hbt
            clear hsum hbt hki
            k_steps
            all_goals first | exact hA | exact hB | exact hD
          · intro h₁₉ tk₁₉ m₁ news₁ F₁₉ N₁₉ hnn hJ
            obtain ⟨tot, tt, hmt, hmd, hsum, h0t, hbt⟩ := hJ
            have htot : tot = wsum 0 is := by
              rw [List.drop_length] at hsum
              rw [← hsum]; exact (Int.add_zero _).symm
            clear hsum F₁₈ N₁₈
            have F₂₀ := frAt (frAt F₁₉ hmt) (x := "data") hmd
            clear F₁₉ hmt hmd
            have hbt2 : tot ≤ 60000000000 := by
              have : (is.length : Int) ≤ 13 := by omega
              omega
            show wpC _ _ _ _ _ _
            dsimp only
            refine C_execs_cons (C_Return (C_Compare (C_CallK 85 KX (by kernel_rfl) ?_)))
            k_steps
            · exact F₂₀.keep
            refine C_call (checksum_raw (h₀ := g) (d := byteArr is) (ks := is) (by simp only [depth_deeper]; omega) (by simp only [units_deeper]; omega) hh KX T' F₂₀.keep (by rw [byteArr_size]; omega) hks fun h₂₁ tk₂₁ t' r hr4 k₂₁ => ?_)
            have F₂₁ := F₂₀.keeps k₂₁
            clear F₂₀
            dsimp only
            k_steps
            rw [show (chk (is ++ List.replicate r 0) % 4294967296 == tot.fmod (2 ^ Int.toNat 32)) = true from last_eq htot hr4]
            exact hR _ _ (lift _ _ F₂₁)
end
section
theorem law_holds (law_raw : ∀ {w : World} {mean : ExcName → Option Value} {mg mb : Str → Option Value} {A : Around} {s : Shared} {R : Result → Shared → Prop} {pl : Addr} {xs : List Value} {ns : List Int}
    (hroom : A.depth + 8 < recursionLimit) (hun : A.units + 700 < cLine) (hh : A.handled = none) (hfr : A.frames = some []) (X : (hd.heap_39 w.params).In s.heap) (T : TT mean mg mb s.heap)
    (hL : s.heap.IsList pl xs.toArray) (hI : IntsAre xs ns) (hlen : ns.length ≤ 63)
    (hR : ∀ h' tk, (∀ b o, s.heap.get? b = some o → h'.get? b = some o) → R (.ok (.ret (.bool true))) { s with heap := h', toks := tk }),
    codeC (model PySem.Challenge.rw_nu0146_01.row.prog w) A (.call (.ref 121) ⟨[.ref pl], []⟩) R s) : PySem.Challenge.rw_nu0146_01.Holds := by
  refine hd ?_
  w_on
  k_fill
  intro w s₀ s₁ mg mb G Y fa o pm cd doc dV kV ho hd' hcd hD hmg hg args vals as hpre hlay hrd hwl hlo
  have KX := kIn_of Y
  refine Ground.open G ?_
  intro T B D TE TW
  have hfa := mg_of KX T.g (n := "law") (v := .ref 121) (by k_is)
  rw [hmg] at hfa
  injection hfa with hfa
  injection hfa with hfa
  subst hfa
  clear D TE TW hmg B ho hd' hcd hD
  wrow_args hpre hlay hrd hwl hlo
  (try clear hlo); (try clear hwl)
  rename_i ns _ _ _ _ _ _ _ pl xs _ hL _ _ _ hI _ hlen _
  refine C_call (law_raw (by decide) (by decide) rfl rfl KX T hL hI (by omega) fun h' tk k => ?_)
  dsimp only
  refine GoodW.toG ⟨.inl ⟨_, .bool true, [], rfl, ?er, .bool true, ?ep, ?eu⟩, k, rfl, hg⟩
  case eu => first | exact unshared_nil | exact fun h => absurd h (by decide)
  case er => exact raisesW_false (by wrow_none_raised)
  case ep => first | rfl | exact postW_of (by wrow_shape) (by wtm_val) (by str_meet; first | done | w_fin | rfl | decide)
end
end Mine
theorem PySem.Challenge.cw_nu0146_01_holds : PySem.Challenge.rw_nu0146_01.Holds := by
  exact Mine.law_holds Mine.law_raw
