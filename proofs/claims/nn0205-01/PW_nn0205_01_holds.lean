import PyProof.Rows.All
import Wide.All
import OpenK.AllK
import Wide.FinOn
import PySem.Challenge.RW_nn0205_01

set_option Elab.async false
local macro_rules | `(tactic| walk_at $s:str) => `(tactic| k_extra $s)
local macro_rules | `(tactic| k_ne) => `(tactic| (refine PySem.W.neN ?_; (try dsimp only); first | with_reducible assumption | (exact Ne.symm (by with_reducible assumption)) | (exact Nat.ne_of_lt (by omega -splitDisjunctions)) | (exact Nat.ne_of_gt (by omega -splitDisjunctions)) | omega))
section -- CLog
theorem Mine.plain_CLog : True := by w_top off; trivial
open PySem PySem.W PyProof.Rows PySem.Calls PySem.Spec
set_option maxRecDepth 100000
set_option linter.unusedVariables false
namespace Mine

/-- a code that no `exported` look can take for a reader's hold on a bytearray -/
def okCode : Code → Bool
  | .builtin id _ => !(Builtin.Bytes.decodersThatHold.contains id)
  | _ => true

structure Clean (Γ : PySem.Ctx) : Prop where
  code : okCode Γ.code = true
  below : ∀ x ∈ Γ.below, okCode x.1 = true

theorem Clean.enter {Γ : PySem.Ctx} (h : Clean Γ) {c : Code} (hc : okCode c = true) (hd : Option Value) (p : Pos) : Clean (Γ.enter c hd p) :=
  ⟨hc, fun x hx => by
    rcases List.mem_cons.mp hx with rfl | hx
    · exact h.code
    · exact h.below x hx⟩
theorem Clean.goto {Γ : PySem.Ctx} (h : Clean Γ) {c : Code} (hc : okCode c = true) : Clean (Γ.goto c) := ⟨hc, h.below⟩

abbrev nope : Value → Shared → Prop := fun _ _ => False

def wpC {α : Type} (M : Model) (A : Around) (t : Sem α) (Q : α → Shared → Prop) (s : Shared) : Prop :=
  ∀ Γ p, Γ.In A → Clean Γ → Sem.wp M Γ t (fun a _ s' => Q a s') (fun _ _ _ => False) p s

def codeC (M : Model) (A : Around) (c : Code) (R : Flow → Shared → Prop) (s : Shared) : Prop :=
  ∀ Γ p, Γ.code = c → Γ.Below A → Clean Γ → wpCode M Γ (fun r s' => match r with | .ok f => R f s' | .error _ => False) p s

section
variable {α β : Type} {M : Model} {A : Around} {s : Shared}

theorem c_of {t : Sem α} {Q : α → Shared → Prop} (h : wpAny M A t Q nope s) : wpC M A t Q s := fun Γ p hΓ _ => h Γ p hΓ
theorem codeC_of {c : Code} {R : Flow → Shared → Prop} (h : codeAny M A c (fun r s' => match r with | .ok f => R f s' | .error _ => False) s) : codeC M A c R s := fun Γ p hc hΓ _ => h Γ p hc hΓ
theorem c_mono {t : Sem α} {Q Q' : α → Shared → Prop} (h : wpC M A t Q s) (hQ : ∀ a s, Q a s → Q' a s) : wpC M A t Q' s :=
  fun Γ p hΓ hc => Sem.wp_mono M Γ t (fun a _ s => hQ a s) (fun _ _ _ x => x) p s (h Γ p hΓ hc)
theorem c_pure {a : α} {Q : α → Shared → Prop} (h : Q a s) : wpC M A (pure a) Q s := fun _ _ _ _ => h
theorem c_bind {m : Sem α} {f : α → Sem β} {Q : β → Shared → Prop} (h : wpC M A m (fun a s' => wpC M A (f a) Q s') s) : wpC M A (m >>= f) Q s := fun Γ p hΓ hc => by
  rw [Sem.wp_bind']
  exact Sem.wp_mono M Γ m (fun a p' s' h' => h' Γ p' hΓ hc) (fun _ _ _ h' => h') p s (h Γ p hΓ hc)
/-- the off-path step ahead of a bind -/
theorem c_bindO {m : Sem α} {f : α → Sem β} {Q : β → Shared → Prop} (h : wpAny M A m (fun a s' => wpC M A (f a) Q s') nope s) : wpC M A (m >>= f) Q s := c_bind (c_of h)
theorem c_holding {vs : List Value} {m : Sem α} {Q : α → Shared → Prop} (h : wpC M A m Q s) : wpC M A (holding vs m) Q s :=
  fun Γ p hΓ hc => by rw [Sem.wp_holding]; exact h Γ p hΓ hc
theorem c_keep {vs : List Value} {m : Sem α} {Q : α → Shared → Prop} (h : wpC M A m Q s) : wpC M A (m.keep vs) Q s :=
  fun Γ p hΓ hc => by rw [Sem.wp_keep]; exact h Γ p hΓ hc
theorem c_operate {vs : List Value} {m : Sem Value} {Q : Value → Shared → Prop} (h : wpC M A m Q s) : wpC M A (operate vs m) Q s :=
  fun Γ p hΓ hc => by rw [Sem.wp_operate]; exact h Γ p hΓ hc
theorem c_onRaise {m : Sem α} {k : Value → Sem Unit} {Q : α → Shared → Prop} (h : wpC M A m Q s) : wpC M A (m.onRaise k) Q s := fun Γ p hΓ hc => by
  rw [Sem.wp_onRaise]
  exact Sem.wp_mono M Γ m (fun _ _ _ h' => h') (fun _ _ _ h' => h'.elim) p s (h Γ p hΓ hc)
theorem c_standAt {pos : Pos} {Q : Unit → Shared → Prop} (h : Q () s) : wpC M A (standAt pos) Q s := fun _ _ _ _ => h
theorem c_rule {tag : String} {Q : Unit → Shared → Prop} (h : Q () s) : wpC M A (rule tag) Q s := fun _ _ _ _ => h
theorem c_point {Q : Unit → Shared → Prop} (h : Q () s) : wpC M A point Q s := fun _ _ _ _ => h
theorem c_of_in1 {t : Sem α} {Q : α → Shared → Prop} (h : wpC M A.in1 t Q s) : wpC M A t Q s :=
  fun Γ p hΓ hc => h Γ p ⟨hΓ.1, hΓ.2.1, hΓ.2.2.1, hΓ.2.2.2.1, Nat.le_succ_of_le hΓ.2.2.2.2⟩ hc

theorem codeC_mono {c : Code} {R R' : Flow → Shared → Prop} (h : codeC M A c R s) (hR : ∀ f s, R f s → R' f s) : codeC M A c R' s :=
  fun Γ p hc hΓ hk => wpCode_mono (fun r s' hr => by cases r with | ok f => exact hR f s' hr | error e => exact hr) (h Γ p hc hΓ hk)

theorem c_run {c : Code} {h : Option Value} {Q : Flow → Shared → Prop} (hk : okCode c = true) (hc : codeC M (A.mark h) c Q s) (hnb : h ≠ some byPass := by intro x; cases x) : wpC M A (run c h) Q s :=
  fun Γ p hΓ hcl => by
    rw [Sem.wp_run]
    exact wpCode_mono (fun r s' hr => by cases r with | ok f => exact hr | error e => exact hr) (hc _ p rfl (hΓ.enter c h p hnb) (hcl.enter hk h p))
theorem c_runOwn {c : Code} {env : Env} {h : Option Value} {Q : Flow → Shared → Prop} (hk : okCode c = true) (hc : codeC M (A.mark h) c Q s) (hnb : h ≠ some byPass := by intro x; cases x) : wpC M A (runOwn c env h) Q s := by
  unfold runOwn
  exact c_onRaise (c_run hk hc hnb)
theorem c_call {f : Value} {pos : List Value} {kw : List (Str × Value)} {Q : Value → Shared → Prop}
    (hc : codeC M A (.call f ⟨pos, kw⟩) (fun fl s' => match fl with | .ret v => Q v s' | _ => False) s) : wpC M A (call f pos kw) Q s := fun Γ p hΓ hcl => by
  unfold call
  rw [Sem.wp_runValue]
  refine wpCode_mono (fun r s' hr => ?_) (hc _ p rfl (hΓ.enter _ none p (by intro x; cases x)) (hcl.enter rfl none p))
  cases r with
  | error e => exact hr
  | ok f => cases f <;> exact hr

theorem codeC_of_tree {c : Code} {R : Flow → Shared → Prop}
    (h : wpC M (A.under c) (M.den c) (fun fin s' => match fin with | .done f => R f s' | .again c' => c'.quiet = true ∧ okCode c' = true ∧ codeC M A c' R s') s) : codeC M A c R s := fun Γ p hc hΓ hcl => by
  rw [wpCode_iff_wp, hc]
  refine Sem.wp_mono M Γ _ (fun fin p' s' h' => ?_) (fun _ _ _ h' => h') p s (h Γ p (hc ▸ hΓ.in) hcl)
  cases fin with
  | done f => exact h'
  | again c' => exact ⟨h'.1, h'.2.2 (Γ.goto c') p' rfl (hΓ.goto c') (hcl.goto h'.2.1)⟩
end

section
variable {prog : Program} {w : World} {A : Around} {s : Shared} {env : Env}

theorem c_execs_nil {Q : Flow → Shared → Prop} (h : Q .next s) : wpC (model prog w) A (execs [] env) Q s := fun _ _ _ _ => h
theorem c_execs_cons {st rest} {Q : Flow → Shared → Prop} (h : wpC (model prog w) A (exec st env) (fun f s' => match f with | .next => wpC (model prog w) A (execs rest env) Q s' | f => Q f s') s) :
    wpC (model prog w) A (execs (st :: rest) env) Q s := fun Γ p hΓ hc => by
  rw [execs_cons, Sem.wp_bind']
  refine Sem.wp_mono _ Γ _ (fun f p' s' h' => ?_) (fun _ _ _ h' => h') _ _ (h Γ p hΓ hc)
  cases f <;> first | exact h' Γ p' hΓ hc | exact h'
theorem c_execs_consO {st rest} {Q : Flow → Shared → Prop} (h : wpAny (model prog w) A (exec st env) (fun f s' => match f with | .next => wpC (model prog w) A (execs rest env) Q s' | f => Q f s') nope s) :
    wpC (model prog w) A (execs (st :: rest) env) Q s := c_execs_cons (c_of h)
theorem c_Return {e pos} {Q : Flow → Shared → Prop} (h : wpC (model prog w) A (eval e env) (fun v => Q (.ret v)) s) : wpC (model prog w) A (exec (.Return (some e) pos) env) Q s := fun Γ p hΓ hc => by
  simp only [exec_Return_some, Sem.wp_bind', Sem.wp_cmd_standAt, Sem.wp_pure']; exact h Γ _ hΓ hc
theorem c_Expr {e pos} {Q : Flow → Shared → Prop} (h : wpC (model prog w) A (eval e env) (fun _ => Q .next) s)
    (hi : interactive env = false := by rfl) (hs : swapsWith e none pos.line env = pure false := by rfl) : wpC (model prog w) A (exec (.Expr e pos) env) Q s := by
  rw [exec_Expr env e pos hi hs]
  exact c_bind (c_standAt (c_bind (c_mono h fun v s' h' => c_of (wpAny_dropValue h'))))
theorem c_Assign_Name {x pos' value pos} {Q : Flow → Shared → Prop} (h : wpC (model prog w) A (eval value env) (fun v s₁ => wpAny (model prog w) A (storeName env x v) (fun _ => Q .next) nope s₁) s)
    (hs : swapsWith value (some (.Name x pos')) pos.line env = pure false := by rfl) : wpC (model prog w) A (exec (.Assign [.Name x pos'] value pos) env) Q s := fun Γ p hΓ hc => by
  simp only [exec_Assign_Name env x pos' value pos hs, Sem.wp_bind', Sem.wp_cmd_standAt, Sem.wp_bindName, Sem.wp_pure']
  exact Sem.wp_mono _ Γ _ (fun v _ s₁ h₁ => h₁ Γ _ hΓ) (fun _ _ _ h' => h') _ _ (h Γ _ hΓ hc)
theorem c_Assign_Attribute {o attr pos' value pos} {Q : Flow → Shared → Prop}
    (h : wpC (model prog w) A (eval value env) (fun v s₁ => wpAny (model prog w) A (eval o env) (fun ov s₂ => wpAny (model prog w) A (setAttr ov attr v) (fun _ => Q .next) nope s₂) nope s₁) s)
    (hs : swapsWith value (some (.Attribute o attr pos')) pos.line env = pure false := by rfl) : wpC (model prog w) A (exec (.Assign [.Attribute o attr pos'] value pos) env) Q s := fun Γ p hΓ hc => by
  simp only [plainObj_exec_Assign_Attribute o attr pos' value pos hs, assign_Attribute, Sem.wp_bind', Sem.wp_holding, Sem.wp_cmd_standAt, Sem.wp_release, Sem.wp_pure']
  exact Sem.wp_mono _ Γ _ (fun v p₁ s₁ h₁ => Sem.wp_mono _ Γ _ (fun ov _ s₂ h₂ => h₂ Γ _ hΓ) (fun _ _ _ h' => h') _ _ (h₁ Γ p₁ hΓ)) (fun _ _ _ h' => h') _ _ (h Γ _ hΓ hc)
theorem c_If {test body orelse pos} {Q : Flow → Shared → Prop}
    (h : wpC (model prog w) A (isTrue test env (eval test env)) (fun b s₂ => if b then wpC (model prog w) A (execs body env) Q s₂ else wpC (model prog w) A (execs orelse env) Q s₂) s) :
    wpC (model prog w) A (exec (.If test body orelse pos) env) Q s := fun Γ p hΓ hc => by
  simp only [exec_If, Sem.wp_bind', Sem.wp_cmd_standAt]
  refine Sem.wp_mono _ Γ _ (fun b p₂ s₂ h₂ => ?_) (fun _ _ _ h' => h') _ _ (h Γ _ hΓ hc)
  cases b <;> exact h₂ Γ p₂ hΓ hc
theorem c_isTrue_Compare1 {l op r pos whole} {Q : Bool → Shared → Prop}
    (h : wpC (model prog w) A (eval l env) (fun a s₁ => wpAny (model prog w) A (eval r env) (fun b s₂ => wpAny (model prog w) A (compareOp op a b) (fun c s₃ => wpAny (model prog w) A (truthy c) Q nope s₃) nope s₂) nope s₁) s)
    (hm : ∀ t, markedBehindIn op r t = t := by intro _; rfl) :
    wpC (model prog w) A (isTrue (.Compare l [op] [r] pos) env whole) Q s := fun Γ p hΓ hc => by
  simp only [isTrue_Compare1, hm, Sem.wp_bind', Sem.wp_holding, Sem.wp_cmd_standAt, Sem.wp_operate]
  exact Sem.wp_mono _ Γ _ (fun a _ s₁ h₁ => Sem.wp_mono _ Γ _ (fun b _ s₂ h₂ => Sem.wp_mono _ Γ _ (fun c _ s₃ h₃ => h₃ Γ _ hΓ) (fun _ _ _ x => x) _ _ (h₂ Γ _ hΓ)) (fun _ _ _ x => x) _ _ (h₁ Γ _ hΓ)) (fun _ _ _ x => x) _ _ (h Γ _ hΓ hc)
theorem c_Compare1 {l op r pos} {Q : Value → Shared → Prop}
    (h : wpC (model prog w) A (eval l env) (fun a s₁ => wpAny (model prog w) A (eval r env) (fun b s₂ => wpAny (model prog w) A (compareOp op a b) Q nope s₂) nope s₁) s)
    (hm : ∀ t, markedBehindIn op r t = t := by intro _; rfl) :
    wpC (model prog w) A (eval (.Compare l [op] [r] pos) env) Q s := fun Γ p hΓ hc => by
  simp only [eval_Compare1, hm, Sem.wp_bind', Sem.wp_holding, Sem.wp_cmd_standAt, Sem.wp_operate]
  exact Sem.wp_mono _ Γ _ (fun a _ s₁ h₁ => Sem.wp_mono _ Γ _ (fun b _ s₂ h₂ => h₂ Γ _ hΓ) (fun _ _ _ x => x) _ _ (h₁ Γ _ hΓ)) (fun _ _ _ x => x) _ _ (h Γ _ hΓ hc)
/-- «a or b» as a test, the left on the path -/
theorem c_isTrue_Or2 {x y pos whole} {Q : Bool → Shared → Prop}
    (h : wpC (model prog w) A (isTrue x env (eval x env)) (fun b s₁ => if b then Q true s₁ else wpAny (model prog w) A (isTrue y env (eval y env)) Q nope s₁) s) :
    wpC (model prog w) A (isTrue (.BoolOp .Or [x, y] pos) env whole) Q s := by
  show wpC _ _ (isTrue x env (eval x env) >>= _) Q s
  refine c_bind (c_mono h fun b s₁ h₁ => ?_)
  cases b with
  | true => exact c_pure (by simpa using h₁)
  | false =>
    show wpC _ _ (isTrue y env (eval y env) >>= _) Q s₁
    refine c_bindO (wpAny_mono (by simpa using h₁) (fun c s₂ h₂ => ?_) fun _ _ x => x)
    cases c <;> exact c_pure h₂
end
end Mine
end -- CLog

section -- CLog2
theorem Mine.plain_CLog2 : True := by w_top off; trivial
open PySem PySem.W PyProof.Rows PySem.Calls PySem.Spec
set_option maxRecDepth 100000
set_option linter.unusedVariables false
namespace Mine

section
variable {prog : Program} {w : World} {A : Around} {s : Shared} {env : Env}

theorem c_CallO {func : Expr} {args : List Expr} {pos : Pos} {Q : Value → Shared → Prop}
    (h : wpAny (model prog w) A (eval func env) (fun f s₁ => wpC (model prog w) A (callWith pos f [] (backTo pos (starEach args env)) []) Q s₁) nope s)
    (he : eval (.Call func args [] pos) env = (do callWith pos (← eval func env) [] (backTo pos (starEach args env)) (backToKw pos (keywordEach [] env))) := by rfl) :
    wpC (model prog w) A (eval (.Call func args [] pos) env) Q s := by
  rw [he]; exact c_bindO h
theorem c_MethodCallO {o : Expr} {name : Str} {apos pos : Pos} {args : List Expr} {pl : Sem Bool} {Q : Value → Shared → Prop}
    (h : wpAny (model prog w) A (eval o env) (fun ov s₁ => wpAny (model prog w) A (getMethod ov name pl) (fun fx s₂ => wpC (model prog w) A (callWith pos fx.1 fx.2 (backTo pos (starEach args env)) []) Q s₂) nope s₁) nope s)
    (he : eval (.Call (.Attribute o name apos) args [] pos) env = (do
      let ov ← eval o env
      standAt apos.atName
      let (f, first) ← holding [ov] (getMethod ov name pl)
      callWith pos f first (backTo pos (starEach args env)) []) := by rfl) :
    wpC (model prog w) A (eval (.Call (.Attribute o name apos) args [] pos) env) Q s := by
  rw [he]
  refine c_bindO (wpAny_mono h (fun ov s₁ h₁ => c_bind (c_standAt (c_bindO (wpAny_holding (wpAny_mono h₁ (fun fx s₂ h₂ => ?_) fun _ _ x => x))))) fun _ _ x => x)
  exact h₂
theorem c_callWith {f : Value} {pos : Pos} {first : List Value} {P : Heap → Prop} {args : List (Bool × Sem Value)} {Q : Value → Shared → Prop} (hplain : args.any (·.1) = false)
    (hk : ∀ h, P h → ∃ k, (k = Keeper.frame ∨ k = Keeper.machine ∨ k = Keeper.boundFrame) ∧ Looks (model prog w) h (keeperOf f) k)
    (h : wpAny (model prog w) A (evalArgs f true args []) (fun a s₁ => P s₁.heap ∧ wpC (model prog w) A (call f (first ++ a.pos) a.kw) Q s₁) nope s) : wpC (model prog w) A (callWith pos f first args []) Q s := by
  unfold callWith
  refine c_bindO (wpAny_holding (wpAny_mono h (fun a s₁ h₁ => c_bind (c_standAt ?_)) fun _ _ x => x))
  obtain ⟨k, hk', L⟩ := hk _ h₁.1
  have hpl : (args.any (·.1) || ([] : List (Option Str × Sem Value)).any (·.1.isNone)) = false := by rw [hplain]; rfl
  simp only [hpl]
  refine c_bindO (L.here ?_)
  have tail : ∀ {t : Sem Value}, wpC (model prog w) A t Q s₁ → wpC (model prog w) A (t >>= fun r => holding [r] point >>= fun _ => pure r) Q s₁ :=
    fun ht => c_bind (c_mono ht (fun r s₂ hr => c_bind (c_holding (c_point (c_pure hr)))))
  have marked (mk : Value) : wpC (model prog w) A (callMarked mk f (first ++ a.pos) a.kw) Q s₁ := by unfold callMarked; exact c_keep h₁.2
  rcases hk' with rfl | rfl | rfl <;> dsimp only <;> first | exact tail h₁.2 | (split <;> first | exact tail h₁.2 | exact tail (marked _))
theorem c_callWith_K {K : Frag} {f : Value} {pos : Pos} {first : List Value} {h₀ : Heap} {e : Expr} {rest : List Expr} {Q : Value → Shared → Prop} (_X : K.In h₀) (hk : keepIn K f = true)
    (h : wpAny (model prog w) A (spliced (backTo pos (starEach (e :: rest) env))) (fun vs s₁ => K.In s₁.heap ∧ wpC (model prog w) A (call f (first ++ vs)) Q s₁) nope s)
    (he : starEach (e :: rest) env = (false, eval e env) :: starEach rest env := by rfl) (hplain : (backTo pos (starEach rest env)).any (·.1) = false := by rfl) :
    wpC (model prog w) A (callWith pos f first (backTo pos (starEach (e :: rest) env)) []) Q s := by
  rw [he] at h ⊢
  exact c_callWith (by show (false || (backTo pos (starEach rest env)).any (·.1)) = false; rw [hplain]; rfl) (keeps_K hk) (evalArgs_plain h)
theorem c_callWith_K0 {K : Frag} {f : Value} {pos : Pos} {first : List Value} {Q : Value → Shared → Prop} (X : K.In s.heap) (hk : keepIn K f = true) (h : wpC (model prog w) A (call f (first ++ [])) Q s) :
    wpC (model prog w) A (callWith pos f first (backTo pos (starEach [] env)) []) Q s := c_callWith rfl (keeps_K hk) (evalArgs_nil3 ⟨X, h⟩)
theorem keeps_pure {f : Value} (e : keeperOf f = pure Keeper.machine) (h : Heap) (_ : True) : ∃ k, (k = Keeper.frame ∨ k = Keeper.machine ∨ k = Keeper.boundFrame) ∧ Looks (model prog w) h (keeperOf f) k := ⟨_, .inr (.inl rfl), .of_pure e⟩
theorem c_callWith_B {id : String} {pos : Pos} {first : List Value} {e : Expr} {rest : List Expr} {Q : Value → Shared → Prop}
    (h : wpAny (model prog w) A (spliced (backTo pos (starEach (e :: rest) env))) (fun vs s₁ => wpC (model prog w) A (call (.builtin id) (first ++ vs)) Q s₁) nope s)
    (he : starEach (e :: rest) env = (false, eval e env) :: starEach rest env := by rfl) (hplain : (backTo pos (starEach rest env)).any (·.1) = false := by rfl) :
    wpC (model prog w) A (callWith pos (.builtin id) first (backTo pos (starEach (e :: rest) env)) []) Q s := by
  rw [he] at h ⊢
  exact c_callWith (by show (false || (backTo pos (starEach rest env)).any (·.1)) = false; rw [hplain]; rfl) (keeps_pure rfl) (evalArgs_plain (wpAny_mono h (fun _ _ x => ⟨trivial, x⟩) fun _ _ x => x))
theorem c_callWith_T0 {T : String} {pos : Pos} {Q : Value → Shared → Prop} (h : wpC (model prog w) A (call (.type T) []) Q s) :
    wpC (model prog w) A (callWith pos (.type T) [] (backTo pos (starEach [] env)) []) Q s := c_callWith rfl (keeps_pure rfl) (evalArgs_nil3 ⟨trivial, h⟩)
theorem c_Subscript {value slice pos} {Q : Value → Shared → Prop}
    (h : wpC (model prog w) A (eval value env) (fun o s₁ => wpAny (model prog w) A (eval slice env) (fun i s₂ => wpAny (model prog w) A (subscriptTail value slice o i) Q nope s₂) nope s₁) s) :
    wpC (model prog w) A (eval (.Subscript value slice pos) env) Q s := by
  rw [eval_Subscript]
  exact c_bind (c_mono h fun o s₁ h₁ => c_of (wpAny_bind (wpAny_holding (wpAny_mono h₁ (fun i s₂ h₂ => wpAny_bind (wpAny_standAt h₂)) fun _ _ x => x))))

theorem codeC_loop {c : Code} {R : Flow → Shared → Prop} (hq : c.quiet = true) (hk : okCode c = true) (I : Nat → Shared → Prop)
    (turn : ∀ n s, I n s → wpC (model prog w) (A.under c) ((model prog w).den c)
      (fun fin s' => match fin with | .done f => R f s' | .again c' => (c' = c ∧ ∃ m, m < n ∧ I m s') ∨ (c'.quiet = true ∧ okCode c' = true ∧ codeC (model prog w) A c' R s')) s)
    (n : Nat) (h : I n s) : codeC (model prog w) A c R s := by
  induction n using Nat.strongRecOn generalizing s with
  | ind n ih =>
    refine codeC_of_tree (c_mono (turn n s h) (fun fin s' hf => ?_))
    cases fin with
    | done f => exact hf
    | again c' =>
      rcases hf with ⟨rfl, m, hm, hI⟩ | hf
      · exact ⟨hq, hk, ih m hm hI⟩
      · exact hf
theorem codeC_while {test body env} {R : Flow → Shared → Prop} (I : Nat → Shared → Prop)
    (turn : ∀ n s, I n s → wpAny (model prog w) A (isTrue test env (eval test env)) (fun b s₂ =>
        if b then wpC (model prog w) A (execs body env) (fun f s₃ => match f with
            | .next | .cont => ∃ m, m < n ∧ I m s₃
            | .brk => R .next s₃
            | .ret v => R (.ret v) s₃) s₂
        else R .next s₂) nope s)
    (n : Nat) (h : I n s) : codeC (model prog w) A (.whileLoop test body [] env) R s := by
  refine codeC_loop rfl rfl I (fun n s hI => ?_) n h
  show wpC _ A ((whileTurn test body [] env).onRaise (fun x => do noteFrame x env; theTreesLotGoes x)) _ s
  refine c_onRaise ?_
  simp only [whileTurn]
  refine c_bindO (wpAny_mono (turn n s hI) (fun b s₂ h₂ => ?_) fun _ _ h' => h')
  cases b with
  | false =>
    simp only [Bool.false_eq_true, if_false] at h₂ ⊢
    exact c_bind (c_execs_nil (c_pure h₂))
  | true =>
    simp only [if_true] at h₂ ⊢
    refine c_bind (c_mono h₂ (fun f s₃ h₃ => ?_))
    cases f with
    | next => exact c_pure (.inl ⟨rfl, h₃⟩)
    | cont => exact c_pure (.inl ⟨rfl, h₃⟩)
    | brk => exact c_pure h₃
    | ret v => exact c_pure h₃
theorem c_While {test body pos} {Q : Flow → Shared → Prop} (h : codeC (model prog w) A (.whileLoop test body [] env) Q s) : wpC (model prog w) A (exec (.While test body [] pos) env) Q s := by
  rw [exec_While]; exact c_bind (c_standAt (c_runOwn rfl h))
theorem codeC_block_nil {env : Env} {R : Flow → Shared → Prop} (h : R .next s) : codeC (model prog w) A (.block [] env) R s := by
  refine codeC_of_tree ?_
  show wpC _ _ (do return Fin.done (← (execs [] env).onRaise (fun x => do noteFrame x env; theTreesLotGoes x))) _ _
  exact c_bind (c_onRaise (c_execs_nil (c_pure h)))
theorem codeC_for {target it body env} {R : Flow → Shared → Prop} (I : Nat → Shared → Prop)
    (turn : ∀ n s, I n s → wpAny (model prog w) A (pyNext it) (fun r s₁ => match r with
      | none => R .next s₁
      | some v => wpAny (model prog w) A (assign target env v) (fun _ s₂ => wpC (model prog w) A (execs body env) (fun f s₃ => match f with
          | .next | .cont => ∃ m, m < n ∧ I m s₃
          | .brk => R .next s₃
          | .ret v => R (.ret v) s₃) s₂) nope s₁) nope s)
    (n : Nat) (h : I n s) (ht : ∀ v, letOwnedTupleGo target it v = pure () := by intro _; rfl) : codeC (model prog w) A (.forLoop target it body [] env) R s := by
  refine codeC_loop rfl rfl I (fun n s hI => ?_) n h
  show wpC _ _ ((forTurn target it body [] env).onRaise (fun x => do noteFrame x env; theTreesLotGoes x)) _ s
  refine c_onRaise ?_
  simp only [forTurn]
  refine c_bind (c_standAt (c_bind (c_onRaise (c_of (wpAny_mono (turn n s hI) (fun r s₁ h₁ => ?_) fun _ _ x => x)))))
  cases r with
  | none => exact c_pure (.inr ⟨rfl, rfl, codeC_block_nil h₁⟩)
  | some v =>
    refine c_bindO (wpAny_of_eq (ht v) ?_)
    refine c_bindO (wpAny_mono h₁ (fun _ s₂ h₂ => c_bind (c_mono h₂ fun f s₃ h₃ => ?_)) fun _ _ x => x)
    cases f with
    | next => exact c_pure (.inl ⟨rfl, h₃⟩)
    | cont => exact c_pure (.inl ⟨rfl, h₃⟩)
    | brk => exact c_pure h₃
    | ret v => exact c_pure h₃
theorem c_For {target iter body pos} {Q : Flow → Shared → Prop}
    (h : wpAny (model prog w) A (eval iter env) (fun x s₁ => wpAny (model prog w) A (pyIter x) (fun it s₂ => codeC (model prog w) A (.forLoop target it body [] env) Q s₂) nope s₁) nope s)
    (hs : ∀ x, foldedSetIterable iter env x = pure x := by intro _; rfl) : wpC (model prog w) A (exec (.For target iter body [] pos) env) Q s := by
  rw [exec_For]
  exact c_bind (c_standAt (c_bindO (wpAny_mono h (fun x s₁ h₁ => c_bindO (wpAny_of_eq (hs x) (c_bind (c_standAt (c_bindO (wpAny_holding
    (wpAny_mono h₁ (fun it s₂ h₂ => c_runOwn rfl h₂) fun _ _ h' => h'))))))) fun _ _ h' => h')))

theorem codeC_func {body env} {R : Flow → Shared → Prop} (h : wpC (model prog w) (A.deeper env) (execs body env) (fun f s' => R (.ret (match f with | .ret v => v | _ => .none)) s') s) :
    codeC (model prog w) A (.func body env) R s := by
  refine codeC_of_tree ?_
  show wpC _ (A.deeper env) (do point; match ← (execs body env).onRaise (leaving env) with | .ret v => ret v | _ => ret .none) _ s
  refine c_bind (c_point (c_bind (c_onRaise (c_mono h (fun f s' h' => ?_)))))
  cases f <;> exact c_pure h'
theorem codeC_call_function {R : Flow → Shared → Prop} {a : Addr} {args : Args} {o : Obj} {fd : FuncData} {body : List Stmt} (hroom : A.depth < recursionLimit)
    (ho : s.heap.get? a = some o)
    (hd' : o.data = .func fd) (hco : fd.scope.isCoroutine = false) (hgen : fd.scope.isGenerator = false) (hbody : fd.body = .stmts body) (hcd : s.heap.CodeRec fd.code fd.qualname)
    (h : wpAny (model prog w) A.in1 (bindArgs fd args) (fun binds s₁ =>
      wpAny (model prog w) A.in1 (newFunctionEnv fd.scope fd.globals fd.closure binds (fd.qualname ++ ".<locals>.") (some a) fd.code none fd.builtins)
        (fun env s₂ => s₂.heap.NoLimit ∧ codeC (model prog w) A (.func body env) R s₂) nope s₁) nope s) :
    codeC (model prog w) A (.call (.ref a) args) R s := by
  refine codeC_of_tree ?_
  show wpC _ A.in1 (callAny (.ref a) args) _ s
  simp only [callAny]
  refine c_bindO (wpAny_load ho ?_)
  obtain ⟨c, oc, vs, tq, hc, hoc, hdc, hq⟩ := hcd
  simp only [hd', callFunction, hco, hgen, hbody, hc]
  rw [hc] at h
  refine c_bindO (m := field (.ref c) 1) (wpAny_field hoc hdc hq (c_bind (c_pure ?_)))
  exact c_bindO (wpAny_mono h (fun binds s₁ h₁ => c_bindO (wpAny_mono h₁ (fun env s₂ h₂ => c_bindO (wpAny_enterFrame h₂.1 hroom
    (c_pure (And.intro rfl (And.intro rfl h₂.2))))) fun _ _ h' => h')) fun _ _ h' => h')
theorem codeC_call_def {R : Flow → Shared → Prop} {a : Addr} {o : Obj} {fd : FuncData} {body : List Stmt} {args : Args} {binds : List (Str × Value)}
    (hroom : A.depth < recursionLimit) (ho : s.heap.get? a = some o) (hdata : o.data = .func fd) (hlim : s.heap.NoLimit) (hcd : s.heap.CodeRec fd.code fd.qualname)
    (hbody : fd.body = .stmts body) (hbind : BindsTo s fd args binds)
    (hcell : ∀ x ∈ fd.scope.names, x.2 ≠ .cell) (hloc : ∀ x ∈ binds, fd.scope.names.lookup x.1 = some .local)
    (h : ∀ h₀, h₀.Ns s.heap.objs.size (fun x => binds.reverse.lookup x) → (∀ b o, s.heap.get? b = some o → h₀.get? b = some o) →
      wpC (model prog w) (A.deeper (callEnv fd s.heap.objs.size a)) (execs body (callEnv fd s.heap.objs.size a)) (fun f s' => R (.ret (match f with | .ret v => v | _ => .none)) s')
        { s with heap := h₀, toks := s.toks + binds.length })
    (hco : fd.scope.isCoroutine = false := by rfl) (hgen : fd.scope.isGenerator = false := by rfl) (hk : fd.scope.kind = .function := by rfl) :
    codeC (model prog w) A (.call (.ref a) args) R s := by
  refine codeC_call_function hroom ho hdata hco hgen hbody hcd (hbind _ _ _ _ ?_)
  refine wpAny_newFunctionEnv hcell hloc (fun h₀ hns₀ hsb₀ => ⟨hlim.fresh _ hsb₀, codeC_func (h h₀ hns₀ fun b o e => ?_)⟩) hk
  exact hsb₀.extBut b o (Nat.ne_of_lt (Heap.lt_size e)) (Heap.get?_push_of_some _ e)
end
end Mine
end -- CLog2

section -- CLog3
theorem Mine.plain_CLog3 : True := by w_top off; trivial
open PySem PySem.W PyProof.Rows PySem.Calls PySem.Spec
set_option maxRecDepth 100000
set_option linter.unusedVariables false
namespace Mine

namespace BA
theorem mro : mroOf (.type "bytearray") = pure [.type "bytearray", .type "object"] := by rw [mroOf_type]; kernel_rfl
theorem lookup_new : typeLookup (.type "bytearray") "__new__" = pure (some (.builtin "bytearray.__new__")) := by rw [typeLookup_type, builtinLookup_eq_fast]; kernel_rfl
theorem slot_init : Slot "bytearray" "__init__" "bytearray.__init__" :=
  .of (owner := "bytearray") (n := "__init__") (by rw [typeLookup_type, builtinLookup_eq_fast]; kernel_rfl) (by decide +kernel) (by decide +kernel) (by decide +kernel)
    (by first | exact .inl (by decide +kernel) | exact .inr (by decide +kernel)) (by rw [isSubtype_type]; kernel_rfl)
theorem slot_append : Slot "bytearray" "append" "bytearray.append" :=
  .of (owner := "bytearray") (n := "append") (by rw [typeLookup_type, builtinLookup_eq_fast]; kernel_rfl) (by decide +kernel) (by decide +kernel) (by decide +kernel)
    (by first | exact .inl (by decide +kernel) | exact .inr (by decide +kernel)) (by rw [isSubtype_type]; kernel_rfl)
theorem sub_self : isSubtype (.type "bytearray") (.type "bytearray") = pure true := by rw [isSubtype_type]; kernel_rfl
theorem called : TypeCalled "bytearray" "bytearray.__new__" "bytearray.__init__" :=
  ⟨by decide +kernel, by decide +kernel, ⟨_, _, mro⟩, madeBy_type mro lookup_new (by decide +kernel), by decide +kernel, by rw [isSubtype_type]; kernel_rfl, slot_init⟩
theorem typeCall : checkTypeCall "bytearray" ⟨[], []⟩ = pure () := by kernel_rfl
theorem newCall : checkBuiltinCall "bytearray.__new__" ⟨[.type "bytearray"], []⟩ = pure () := by kernel_rfl
theorem entry_new : entryFor table "bytearray.__new__" = some Builtin.«list.__new__» := by
  exact entryFor_alias (id' := "list.__new__") (by kernel_rfl) rfl (by decide +kernel) (by kernel_rfl)
theorem plain_new : plainId "bytearray.__new__" = true := by decide +kernel
theorem entry_init : entryFor table "bytearray.__init__" = some Builtin.«bytearray.__init__» := entryFor_of_tree (by kernel_rfl)
theorem entry_append : entryFor table "bytearray.append" = some Builtin.«bytearray.append» := entryFor_of_tree (by kernel_rfl)
theorem args_init (a : Value) : argsOk "bytearray.__init__" ⟨[a], []⟩ := by unfold argsOk; kernel_rfl
theorem args_append (a b : Value) : argsOk "bytearray.append" ⟨[a, b], []⟩ := by unfold argsOk; kernel_rfl
theorem type_append : typeOf (.builtin "bytearray.append") = pure (.type "method_descriptor") := by show builtinType _ = _; rw [builtinType_eq_fast]; kernel_rfl
theorem plainAttrs : PlainAttrs "bytearray" :=
  ⟨⟨"bytearray.__getattribute__", by rw [typeLookup_type, builtinLookup_eq_fast]; kernel_rfl, by decide +kernel⟩, by rw [typeLookup_type, builtinLookup_eq_fast]; kernel_rfl⟩
theorem release : typeLookup (.type "bytearray") "__release_buffer__" = pure (some (.builtin "bytearray.__release_buffer__")) := by rw [typeLookup_type, builtinLookup_eq_fast]; kernel_rfl
set_option maxRecDepth 1000000 in
set_option maxHeartbeats 4000000 in
theorem owner_new : ("bytearray.__new__".splitOn ".__new__").headD "" = "bytearray" := by simp +decide [String.splitOn, String.splitOnAux]
end BA
end Mine
end -- CLog3

section -- CLog4
theorem Mine.plain_CLog4 : True := by w_top off; trivial
open PySem PySem.W PyProof.Rows PySem.Calls PySem.Spec
set_option maxRecDepth 100000
set_option linter.unusedVariables false
namespace Mine

section
variable {prog : Program} {w : World} {A : Around} {s : Shared} {env : Env}

theorem codeC_builtin_at {id : String} {args : Args} {b : Builtin} {R : Flow → Shared → Prop} (hk : okCode (.builtin id args) = true) (hb : entryFor table id = some b)
    (h : wpC (model prog w) (A.under (.builtin id args)) (b args) (fun fin s' => match fin with | .done f => R f s' | .again c' => c'.quiet = true ∧ okCode c' = true ∧ codeC (model prog w) A c' R s') s) :
    codeC (model prog w) A (.builtin id args) R s := by
  refine codeC_of_tree ?_
  show wpC _ _ (match entryFor table id with | some b => b args | none => unsupported ((withoutEnding? id "#data").getD id)) _ s
  rw [hb]; exact h
theorem codeC_call_builtin {id : String} {args : Args} {b : Builtin} {R : Flow → Shared → Prop} (hq : (Code.builtin id args).quiet = true) (hk : okCode (.builtin id args) = true) (hb : entryFor table id = some b)
    (h : wpAny (model prog w) A.in1 (checkBuiltinCall id args) (fun _ s₁ => wpC (model prog w) (A.under (.builtin id args)) (b args)
      (fun fin s' => match fin with | .done f => R f s' | .again c' => c'.quiet = true ∧ okCode c' = true ∧ codeC (model prog w) A c' R s') s₁) nope s) :
    codeC (model prog w) A (.call (.builtin id) args) R s := by
  refine codeC_of_tree ?_
  show wpC _ A.in1 (do checkBuiltinCall id args; again (.builtin id args)) _ s
  exact c_bindO (wpAny_mono h (fun _ s₁ h₁ => c_pure (And.intro hq (And.intro hk (codeC_builtin_at hk hb h₁)))) fun _ _ x => x)

theorem exported_off (self : Value) (c : Code) (p : Pos) (hg : c.isGuard = false) (hk : okCode c = true) :
    (match ((c, p) : Code × Pos) with
    | (.builtin "bytearray.__contains__" ⟨v :: _, _⟩, _) | (.builtin "bytearray.__mod__" ⟨v :: _, _⟩, _)
    | (.builtin "bytearray.__rmod__" ⟨_ :: v :: _, _⟩, _) | (.builtin "_struct.pack_into.held" ⟨v :: _, _⟩, _) => Builtin.Bytes.sameRef v self
    | (.builtin "bytearray.find.held" ⟨_ :: _ :: held, _⟩, _) => held.any (Builtin.Bytes.sameRef self)
    | (.builtin id ⟨v :: _, _⟩, _) => Builtin.Bytes.sameRef v self && Builtin.Bytes.decodersThatHold.contains id
    | _ => false) = false := by
  split
  case h_1 h => cases h; exact absurd hg (by simp [Code.isGuard, guardIds])
  case h_2 h => cases h; exact absurd hg (by simp [Code.isGuard, guardIds])
  case h_3 h => cases h; exact absurd hg (by simp [Code.isGuard, guardIds])
  case h_4 h => cases h; exact absurd hg (by simp [Code.isGuard, guardIds])
  case h_5 h => cases h; exact absurd hg (by simp [Code.isGuard, guardIds])
  case h_6 h =>
    cases h
    simp only [okCode, Bool.not_eq_true'] at hk
    rw [hk, Bool.and_false]
  case h_7 => rfl

theorem no_guard {Γ : PySem.Ctx} (hg : Γ.code.guards ++ guardsOf Γ.below = []) (p : Pos) : ∀ x ∈ (Γ.code, p) :: Γ.below, x.1.isGuard = false := by
  obtain ⟨h1, h2⟩ := List.append_eq_nil_iff.mp hg
  intro x hx
  rcases List.mem_cons.mp hx with rfl | hx
  · cases q : Γ.code.isGuard with
    | false => rfl
    | true => simp [Code.guards, q] at h1
  · cases q : x.1.isGuard with
    | false => rfl
    | true =>
      exfalso
      have : x.1 ∈ guardsOf Γ.below := List.mem_filter.mpr ⟨List.mem_map_of_mem hx, q⟩
      rw [h2] at this; cases this

theorem c_exported {self : Value} {Q : Bool → Shared → Prop} (hg : A.guards = some []) (h : Q false s) : wpC (model prog w) A (Builtin.Bytes.exported self) Q s := fun Γ p hΓ hc => by
  have e := hΓ.2.2.2.1 _ hg
  have hn := no_guard e p
  have hk : ∀ x ∈ (Γ.code, p) :: Γ.below, okCode x.1 = true := by
    intro x hx
    rcases List.mem_cons.mp hx with rfl | hx
    · exact hc.code
    · exact hc.below x hx
  unfold Builtin.Bytes.exported
  show Q (((Γ.code, p) :: Γ.below).any _) s
  rw [List.any_eq_false.mpr ?_]
  · exact h
  · rintro ⟨c, q⟩ hx
    exact fun e => Bool.false_ne_true ((exported_off self c q (hn _ hx) (hk _ hx)).symm.trans e)

abbrev baObj (b : Array UInt8) : Obj := { cls := .type "bytearray", data := .bytearray b }

theorem c_exportsOr {S : Addr} {b : Array UInt8} {Q : Bool → Shared → Prop} (hg : A.guards = some []) (hS : s.heap.get? S = some (baObj b)) (h : Q false s) :
    wpC (model prog w) A (Builtin.Bytes.exported (.ref S) <||> (do return decide ((← Builtin.Bytes.exportsOf (.ref S)) > 0))) Q s := by
  show wpC _ _ (Builtin.Bytes.exported (.ref S) >>= _) _ s
  refine c_bind (c_exported hg ?_)
  show wpC _ _ (Builtin.Bytes.exportsOf (.ref S) >>= _) _ s
  refine c_bindO ?_
  show wpAny _ _ (load S >>= _) _ _ s
  refine wpAny_bind (wpAny_load hS ?_)
  exact wpAny_pure (c_pure h)

theorem wpAny_baWrite {S : Addr} {b : Array UInt8} {f : Array UInt8 → Array UInt8} {Q : Unit → Shared → Prop} {E : Value → Shared → Prop} (hS : s.heap.get? S = some (baObj b)) (hz : (f b).size ≤ sizeLine)
    (h : Q () { s with heap := s.heap.update S (Obj.mapBytearray f) }) : wpAny (model prog w) A (Builtin.Bytes.write (.ref S) f) Q E s := by
  show wpAny _ _ (updateBytearray S f) _ _ _
  unfold updateBytearray
  refine wpAny_bind (wpAny_load hS ?_)
  show wpAny _ _ (update S (Obj.mapBytearray f) >>= fun _ => lookBehind S) _ _ _
  refine wpAny_bind (wpAny_update hS ?_)
  have hS₂ : (s.heap.update S (Obj.mapBytearray f)).get? S = some (baObj (f b)) := Heap.get?_update_self (Obj.mapBytearray f) hS rfl
  refine wpAny_lookBehind hS₂ ?_ h
  show (if (f b).size > sizeLine then some "bytearray:memory" else none) = none
  rw [if_neg (Nat.not_lt.mpr hz)]

theorem c_append {S : Addr} {n : Int} {t : Tok} {b : Array UInt8} {Q : Value → Shared → Prop} (hS : s.heap.get? S = some (baObj b)) (h0 : 0 ≤ n) (h1 : n < 256) (hz : b.size + 1 ≤ sizeLine) (hg : A.guards = some [])
    (h : Q .none { s with heap := s.heap.update S (Obj.mapBytearray (·.push n.toNat.toUInt8)) }) : wpC (model prog w) A (call (.builtin "bytearray.append") [.ref S, .int n t]) Q s := by
  have hT : s.TypeIs (.ref S) "bytearray" := ⟨_, hS, rfl⟩
  refine c_call (codeC_call_builtin (plainId_quiet BA.slot_append.plain _) (by show (!(Builtin.Bytes.decodersThatHold.contains "bytearray.append")) = true; decide +kernel) BA.entry_append (BA.slot_append.check _ _ _ _ _ _ _ _ hT (BA.args_append _ _) ?_))
  rw [Around.under_plainId BA.slot_append.plain _]
  unfold Builtin.«bytearray.append»
  refine c_bindO (wpAny_of_eq (a := (Value.ref S, Value.int n t)) rfl ?_)
  refine c_bindO ?_
  show wpAny _ _ (asIndex (.int n t) >>= _) _ _ _
  refine wpAny_bind (wpAny_of_eq (rfl : asIndex (.int n t) = pure n) ?_)
  refine bm_if_false (by simp only [Bool.or_eq_false_iff, decide_eq_false_iff_not]; (first | omega -splitDisjunctions | omega)) ?_
  refine wpAny_pure ?_
  refine c_bind ?_
  unfold Builtin.Bytes.checkResize
  refine c_bind (c_exportsOr (A := A.in1) hg hS ?_)
  refine c_pure ?_
  refine c_bindO (wpAny_baWrite hS (by simpa using hz) ?_)
  exact c_pure h
end
end Mine
end -- CLog4

section -- CLog5
theorem Mine.plain_CLog5 : True := by w_top off; trivial
open PySem PySem.W PyProof.Rows PySem.Calls PySem.Spec
set_option maxRecDepth 100000
set_option linter.unusedVariables false
namespace Mine

section
variable {prog : Program} {w : World} {A : Around} {s : Shared} {env : Env}

theorem c_if_false {α : Type} {M : Model} {c : Bool} {a b : Sem α} {Q : α → Shared → Prop} (hc : c = false) (h : wpC M A b Q s) : wpC M A (if c = true then a else b) Q s := by
  subst hc; exact h
theorem ba_same (h : Heap) : (h.push (baObj #[])).update h.objs.size (Obj.mapBytearray fun _ => #[]) = h.push (baObj #[]) := by
  obtain ⟨objs, l⟩ := h
  simp only [Heap.push, Heap.update]
  congr 1
  apply Array.ext
  · simp
  · intro i h1 h2
    rw [Array.getElem_modify]
    split
    · rename_i e
      subst e
      simp [Obj.mapBytearray]
    · rfl

theorem ba_code_new {R : Result → Shared → Prop}
    (h : R (.ok (.ret (.ref s.heap.objs.size))) { s with heap := s.heap.push (baObj #[]) }) :
    codeAny (model prog w) A (.call (.builtin "bytearray.__new__") ⟨[.type "bytearray"], []⟩) R s := by
  refine codeAny_of_tree ?_
  show wpAny _ A.in1 (do checkBuiltinCall "bytearray.__new__" ⟨[.type "bytearray"], []⟩; again (.builtin "bytearray.__new__" ⟨[.type "bytearray"], []⟩)) _ _ s
  refine wpAny_bind (wpAny_of_eq BA.newCall (wpAny_pure ⟨plainId_quiet BA.plain_new _, codeAny_builtin_stack BA.entry_new rfl fun p st => ?_⟩))
  rw [Around.under_plainId BA.plain_new _]
  have hsub := BA.sub_self
  have hown := BA.owner_new
  obtain ⟨hp, g, d, tk, os⟩ := s
  simp only [hown]
  wp_walk
  exact h

theorem ba_bindOptional : Builtin.Bytes.bindOptional "bytearray.__init__" "bytearray" ["source", "encoding", "errors"] [] [] = pure [none, none, none] := by kernel_rfl
theorem ba_ends : ("bytearray.__release_buffer__".endsWith ("." ++ "__release_buffer__")) = true := by decide +kernel
theorem ba_drop : ("bytearray.__release_buffer__".dropRight ("__release_buffer__".length + 1)) = "bytearray" := by decide +kernel

theorem ba_ownRelease {E : Value → Shared → Prop} {S : Addr} {Q : Bool → Shared → Prop} (hT : s.TypeIs (.ref S) "bytearray") (h : Q false s) : wpAny (model prog w) A (Builtin.Bytes.ownRelease (.ref S)) Q E s := by
  unfold Builtin.Bytes.ownRelease Builtin.Bytes.slotIsOwn
  refine wpAny_bind (wpAny_bind (wpAny_specialOf hT BA.release ?_))
  show wpAny _ _ (if (!("bytearray.__release_buffer__".endsWith ("." ++ "__release_buffer__"))) = true then _ else _) _ _ _
  rw [ba_ends]
  refine bm_if_false rfl ?_
  show wpAny _ _ (isInstance _ (.type ("bytearray.__release_buffer__".dropRight ("__release_buffer__".length + 1)))) _ _ _
  rw [ba_drop]
  exact wpAny_isInstance hT BA.sub_self (wpAny_pure h)

theorem ba_init {S : Addr} {R : Flow → Shared → Prop} (hg : A.guards = some []) (hS : s.heap.get? S = some (baObj #[])) (h : R (.ret .none) { s with heap := s.heap.update S (Obj.mapBytearray fun _ => #[]) }) :
    codeC (model prog w) A (.call (.builtin "bytearray.__init__") ⟨[.ref S], []⟩) R s := by
  have hT : s.TypeIs (.ref S) "bytearray" := ⟨_, hS, rfl⟩
  refine codeC_call_builtin (plainId_quiet BA.slot_init.plain _) (by show (!(Builtin.Bytes.decodersThatHold.contains "bytearray.__init__")) = true; decide +kernel) BA.entry_init (BA.slot_init.check _ _ _ _ _ _ _ _ hT (BA.args_init _) ?_)
  rw [Around.under_plainId BA.slot_init.plain _]
  unfold Builtin.«bytearray.__init__»
  refine c_bindO (ba_ownRelease hT ?_)
  show wpC _ _ (Builtin.Bytes.bindOptional "bytearray.__init__" "bytearray" ["source", "encoding", "errors"] [] [] >>= _) _ _
  refine c_bindO (wpAny_of_eq ba_bindOptional ?_)
  refine c_bindO (wpAny_of_eq (a := ()) rfl ?_)
  refine c_bindO (wpAny_of_eq (a := ()) rfl ?_)
  refine c_bind (c_exportsOr (A := A.in1) hg hS ?_)
  refine c_bindO (wpAny_baWrite hS (Nat.zero_le _) ?_)
  exact c_pure h

theorem c_new_bytearray {Q : Value → Shared → Prop} (hg : A.guards = some []) (h : Q (.ref s.heap.objs.size) { s with heap := s.heap.push (baObj #[]) }) : wpC (model prog w) A (call (.type "bytearray") []) Q s := by
  refine c_call (codeC_of_tree ?_)
  show wpC _ _ (callAny (.type "bytearray") _) _ _
  refine c_pure ⟨Code.quiet_builtin _ (by decide +kernel), (by show (!(Builtin.Bytes.decodersThatHold.contains "type.__call__")) = true; decide +kernel), codeC_builtin_at (by show (!(Builtin.Bytes.decodersThatHold.contains "type.__call__")) = true; decide +kernel) F.entry_type_call ?_⟩
  rw [Around.under_plain (weight_type_call_type "bytearray" [] []) (units_type_call_type "bytearray" [] [])]
  obtain ⟨c, tl, hmro⟩ := BA.called.mro
  have hmade := BA.called.made
  have hsub := BA.called.sub
  have h1 := BA.called.notType
  have h2 := BA.called.canCreate
  unfold Builtin.«type.__call__»
  simp only [h1, Bool.false_eq_true, if_false]
  refine c_if_false h2 ?_
  refine c_bindO (wpAny_of_eq BA.typeCall ?_)
  refine c_bindO (wpAny_of_eq hmro ?_)
  refine c_if_false rfl ?_
  refine c_bindO (wpAny_of_eq hmade ?_)
  refine c_bind (c_pure ?_)
  refine c_bindO (wpAny_holding (wpAny_call (ba_code_new ?_)))
  have hS : (s.heap.push (baObj #[])).get? s.heap.objs.size = some (baObj #[]) := Heap.get?_push_size _ rfl
  have hT : Shared.TypeIs { s with heap := s.heap.push (baObj #[]) } (.ref s.heap.objs.size) "bytearray" := ⟨_, hS, rfl⟩
  refine c_bindO (wpAny_isInstance hT hsub ?_)
  refine c_if_false rfl ?_
  refine c_bind (c_holding ?_)
  unfold callSpecial?
  refine c_bindO (wpAny_specialOf hT BA.slot_init.lookup ?_)
  refine c_holding ?_
  refine c_bindO (wpAny_of_eq (BA.slot_init.bind (.ref s.heap.objs.size)) ?_)
  refine c_bind (c_call (ba_init (A := A.in1) hg hS ?_))
  refine c_pure ?_
  refine c_if_false (by decide) ?_
  refine c_pure ?_
  have e : (s.heap.push (baObj #[])).update s.heap.objs.size (Obj.mapBytearray fun _ => #[]) = s.heap.push (baObj #[]) := ba_same _
  show Q _ _
  rw [e]
  exact h
end
end Mine
end -- CLog5

section -- CLog6
theorem Mine.plain_CLog6 : True := by w_top off; trivial
open PySem PySem.W PyProof.Rows PySem.Calls PySem.Spec
set_option maxRecDepth 100000
set_option maxHeartbeats 4000000
set_option linter.unusedVariables false
namespace Mine

section
variable {prog : Program} {w : World} {A : Around} {s : Shared} {env : Env} {K : Frag} {C x : Addr} {h₀ : Heap} {L : Addr} {m : Str → Option Value} {news : List (Addr × Obj)}

theorem c_lk {α β : Type} {M : Model} {t : Sem α} {r : α} {f : α → Sem β} {Q : β → Shared → Prop} (x : Looks M s.heap t r) (h : wpC M A (f r) Q s) : wpC M A (t >>= f) Q s := c_bindO (x.here h)

theorem c_make {rest : List Value} {kw : List (Str × Value)} {fI : Addr} {Q : Value → Shared → Prop} (F : Fr h₀ L s.heap m) (N : News h₀ L s.heap news) (X₀ : K.In h₀) (hm : makesIn K C = true)
    (hi : findIn K (.ref C) "__init__" = some (some (.ref fI))) (hf : isFn K (.ref fI) = true)
    (h : ∀ x dx h', Fr h₀ L h' m → News h₀ L h' ((x, instObj C dx) :: (dx, dictOf [] 0) :: news) → (∀ p ∈ news, p.1 < dx) → dx < x →
      codeC (model prog w) (A.under (.builtin "type.__call__" ⟨.ref C :: rest, kw⟩)) (.call (.ref fI) ⟨.ref x :: rest, kw⟩) (fun fl s' => match fl with | .ret v => v = .none ∧ Q (.ref x) s' | _ => False) { s with heap := h' }) :
    wpC (model prog w) A (call (.ref C) rest kw) Q s := by
  have X := X₀.keeps F.keep
  have hf' : typeIn K (.ref fI) = some (.type "function") := beq_iff_eq.mp hf
  have Y := makes_of (M := model prog w) X hm
  have hiL := looks_findIn (M := model prog w) X hi
  obtain ⟨hh, g, d, t, os⟩ := s
  have Y' := Y
  obtain ⟨⟨oc, od, cd, sl, hC, e1, e2, e4⟩, made, base, self, top, call, typ⟩ := Y
  have kk : okCode (.builtin "type.__call__" ⟨.ref C :: rest, kw⟩) = true := by show (!(Builtin.Bytes.decodersThatHold.contains "type.__call__")) = true; decide +kernel
  refine c_call (codeC_of_tree ?_)
  show wpC _ _ (callAny (.ref C) _) _ _
  unfold callAny
  refine c_bindO (wpAny_load hC ?_)
  show wpC _ _ (callAny.viaDunder (.ref C) _) _ _
  unfold callAny.viaDunder
  refine c_lk call ?_
  dsimp only
  rw [tc_bind]
  refine c_bind (c_pure (c_bind (c_pure ?_)))
  refine c_pure (a := Fin.again (.call (.builtin "type.__call__") ⟨.ref C :: rest, kw⟩)) ⟨rfl, rfl, ?_⟩
  refine codeC_call_builtin (Code.quiet_builtin _ (by decide +kernel)) kk entry_typeCall (check_slot tc_kind tc_split typ (tc_args _ _ _) ?_)
  unfold Builtin.«type.__call__»
  have hmr : Looks (model prog w) hh (mroOf (.ref C)) cd.mro := ((Looks.ld (part := none) hC).andThen .now).andThen .now
  refine c_if_false rfl ?_
  refine c_lk hmr ?_
  refine c_if_false e4 ?_
  refine c_lk made ?_
  refine c_bind (c_pure ?_)
  have k : ∀ b o, hh.get? b = some o → ((hh.push emptyDict).push (instObj C hh.objs.size)).get? b = some o := fun b o e => Heap.get?_push_of_some _ (Heap.get?_push_of_some _ e)
  refine c_bindO (wpAny_holding (wpAny_call (new_K Y' hiL (.inl rfl) ?_)))
  have hx : ((hh.push emptyDict).push (instObj C hh.objs.size)).get? (hh.objs.size + 1) = some (instObj C hh.objs.size) := by heap_get
  have t1 : Looks (model prog w) ((hh.push emptyDict).push (instObj C hh.objs.size)) (typeOf (.ref (hh.objs.size + 1))) (.ref C) := (Looks.ld hx).andThen .now
  have s1 : Looks (model prog w) ((hh.push emptyDict).push (instObj C hh.objs.size)) (isInstance (.ref (hh.objs.size + 1)) (.ref C)) true := t1.andThen (self.keeps k)
  have i1 : Looks (model prog w) ((hh.push emptyDict).push (instObj C hh.objs.size)) (specialOf (.ref (hh.objs.size + 1)) "__init__") (some (.ref fI)) := t1.andThen (hiL.keeps k)
  have b1 := (bind_fn (M := model prog w) X (.ref (hh.objs.size + 1)) hf').keeps k
  refine c_lk s1 ?_
  refine c_if_false rfl ?_
  refine c_bind (c_holding ?_)
  unfold callSpecial?
  refine c_lk i1 ?_
  refine c_holding ?_
  refine c_lk b1 ?_
  have N' := (N.push F emptyDict).push (F.push _) (instObj C hh.objs.size)
  rw [Heap.size_push] at N'
  refine c_bind (c_call (codeC_mono (h _ hh.objs.size _ ((F.push _).push _) N' (fun p hp => Heap.lt_size (N p hp).1) (Nat.lt_succ_self _)) fun fl s' z => ?_))
  rcases fl with _ | _ | _ | v <;> first | exact z.elim | skip
  obtain ⟨rfl, z⟩ := z
  exact c_pure (c_if_false (by decide) (c_pure z))

theorem codeC_def {A₀ : Around} {base : Heap} {p : Program} {loose : List Str} {mean : ExcName → Option Value} {mg mb : Str → Option Value} {outer : List Env} {R : Flow → Shared → Prop} {name qual : Str} {params : Arguments} {body : List Stmt} {scope : Scope} {dV kV doc pm cdv ct oc : Value} {an od : Option Addr} {osl : Array (Option Value)} {f : Addr} {args : Args} {binds : List (Str × Value)}
    (B : Below A₀ base outer h₀) (F : Fr h₀ L s.heap m) (X₀ : K.In h₀) (N : News h₀ L s.heap news) (T : Top p loose mean mg mb h₀) (hA : A.frames = some (env :: outer)) (hf : env.frame = some L) (hke : env.scope.kind = .function)
    (ho : K.lookup f = some ⟨oc, od, .func (fnOf name qual params body scope dV kV doc pm an cdv ct), osl⟩) (hcd : codeIn K cdv qual = true) (hroom : A.depth < recursionLimit)
    (hbind : BindsTo s (fnOf name qual params body scope dV kV doc pm an cdv ct) args binds) (hloc : ∀ y ∈ binds, scope.names.lookup y.1 = some .local)
    (h : ∀ g L' h₁, Fr h₀ L g m → Fr g L' h₁ (fun y => binds.reverse.lookup y) → News g L' h₁ news → Below A base (env :: outer) g → K.In g → Top p loose mean mg mb g →
      wpC (model prog w) (A.deeper (envOf qual scope L' f cdv)) (execs body (envOf qual scope L' f cdv))
        (fun fl s' => LeaveK h₀ L m g (fun r s' => match r with | .ok fl => R fl s' | .error _ => False) (match fl with | .ret v => v | _ => .none) s')
        { s with heap := h₁, toks := s.toks + binds.length })
    (hco : scope.isCoroutine = false) (hgen : scope.isGenerator = false) (hk : scope.kind = .function)
    (hcell : ∀ x ∈ scope.names, x.2 ≠ .cell) : codeC (model prog w) A (.call (.ref f) args) R s := by
  obtain ⟨FG, BG, st, lv⟩ := groundX (R := fun r s' => match r with | .ok fl => R fl s' | .error _ => False) B F N hA hf hke
  refine codeC_call_def (fd := fnOf name qual params body scope dV kV doc pm an cdv ct) (body := body) (binds := binds) hroom ((X₀.keeps F.keep) _ _ ho) rfl (T.nolimit.keeps F.keep) (codeRec_of (X₀.keeps F.keep) hcd) rfl hbind hcell hloc (fun h₁ hns hk₁ => ?_) hco hgen hk
  exact c_mono (h _ s.heap.objs.size h₁ FG ⟨hns, fun b o e => hk₁ b o (of_hideAll _ e), Nat.le_of_eq (hideAll_size _ _)⟩
    (fun p hp => ⟨hk₁ _ _ (N p hp).1, Nat.ne_of_lt (Heap.lt_size (N p hp).1), hideAll_none _ (List.mem_map_of_mem hp)⟩) BG (X₀.keeps st) (T.keeps st)) (fun fl s' hl => lv _ _ hl)

theorem enter_smallC {g : Heap} {p : Program} {loose : List Str} {mean : ExcName → Option Value} {mg mb : Str → Option Value}
    {small : List (Addr × Obj)} {R : Flow → Shared → Prop} {name qual : Str} {params : Arguments} {body : List Stmt} {scope : Scope} {dV kV doc pm cdv ct oc : Value} {an od : Option Addr} {osl : Array (Option Value)} {f : Addr} {args : Args} {binds : List (Str × Value)}
    (X : K.In g) (T : Top p loose mean mg mb g) (hs : g.StaysIn s.heap) (hz : g.objs.size ≤ s.heap.objs.size) (hN : ∀ q ∈ small, s.heap.get? q.1 = some q.2 ∧ g.get? q.1 = none)
    (ho : K.lookup f = some ⟨oc, od, .func (fnOf name qual params body scope dV kV doc pm an cdv ct), osl⟩) (hcd : codeIn K cdv qual = true) (hroom : A.depth < recursionLimit)
    (hbind : BindsTo s (fnOf name qual params body scope dV kV doc pm an cdv ct) args binds) (hloc : ∀ y ∈ binds, scope.names.lookup y.1 = some .local)
    (h : ∀ L' h₁, Fr g L' h₁ (fun y => binds.reverse.lookup y) → News g L' h₁ small → (∀ q ∈ small, q.1 < L') → s.heap.objs.size ≤ L' →
      wpC (model prog w) (A.deeper (envOf qual scope L' f cdv)) (execs body (envOf qual scope L' f cdv))
        (fun fl s' => R (.ret (match fl with | .ret v => v | _ => .none)) s')
        { s with heap := h₁, toks := s.toks + binds.length })
    (hco : scope.isCoroutine = false) (hgen : scope.isGenerator = false) (hk : scope.kind = .function)
    (hcell : ∀ x ∈ scope.names, x.2 ≠ .cell) : codeC (model prog w) A (.call (.ref f) args) R s :=
  codeC_call_def (fd := fnOf name qual params body scope dV kV doc pm an cdv ct) (body := body) (binds := binds) hroom ((X.keeps hs) _ _ ho) rfl (T.nolimit.keeps hs) (codeRec_of (X.keeps hs) hcd) rfl hbind hcell hloc
    (fun h₁ hns hk₁ => h s.heap.objs.size h₁ ⟨hns, fun b o e => hk₁ b o (hs b o e), hz⟩ (fun q hq => ⟨hk₁ _ _ (hN q hq).1, Nat.ne_of_lt (Heap.lt_size (hN q hq).1), (hN q hq).2⟩) (fun q hq => Heap.lt_size (hN q hq).1) (Nat.le_refl _)) hco hgen hk

theorem ba_append_news {S : Addr} {b : Array UInt8} {n : Int} {t : Tok} {news' : List (Addr × Obj)} {Q : Value → Shared → Prop} (F : Fr h₀ L s.heap m) (N : News h₀ L s.heap news) (U : Upd S (baObj b) (baObj (b.push n.toNat.toUInt8)) news news') (h0 : 0 ≤ n) (h1 : n < 256) (hz : b.size + 1 ≤ sizeLine) (hg : A.guards = some [])
    (h : ∀ h', Fr h₀ L h' m → News h₀ L h' news' → Q .none { s with heap := h' }) : wpC (model prog w) A (call (.builtin "bytearray.append") [.ref S, .int n t]) Q s := by
  obtain ⟨pre, post, rfl, rfl, h1', h2'⟩ := U.split
  have hS := (N (S, baObj b) (by simp)).1
  refine c_append hS h0 h1 hz hg ?_
  obtain ⟨F', N'⟩ := news_upd (f := Obj.mapBytearray (·.push n.toNat.toUInt8)) (o' := baObj (b.push n.toNat.toUInt8)) F N h1' h2' rfl rfl
  exact h _ F' N'
theorem ba_new_news {Q : Value → Shared → Prop} (F : Fr h₀ L s.heap m) (N : News h₀ L s.heap news) (hg : A.guards = some [])
    (h : ∀ S h', Fr h₀ L h' m → News h₀ L h' ((S, baObj #[]) :: news) → (∀ p ∈ news, p.1 < S) → Q (.ref S) { s with heap := h' }) : wpC (model prog w) A (call (.type "bytearray") []) Q s :=
  c_new_bytearray hg (h _ _ (F.push _) (N.push F _) fun p hp => Heap.lt_size (N p hp).1)
theorem ba_method {S : Addr} {b : Array UInt8} {pl : Sem Bool} {Q : Value × List Value → Shared → Prop} {E : Value → Shared → Prop} (N : News h₀ L s.heap news) (hm : (S, baObj b) ∈ news) (h : Q (.builtin "bytearray.append", [.ref S]) s) :
    wpAny (model prog w) A (getMethod (.ref S) "append" pl) Q E s :=
  getMethod_builtin ⟨_, (N _ hm).1, rfl⟩ BA.plainAttrs BA.slot_append BA.type_append (fun a e => by cases e; exact ⟨_, (N _ hm).1, rfl⟩) h
end
end Mine
end -- CLog6

section -- BaBytes
theorem Mine.plain_BaBytes : True := by w_top off; trivial
open PySem PySem.W PyProof.Rows PySem.Calls PySem.Spec
set_option maxRecDepth 100000
set_option linter.unusedVariables false
set_option linter.deprecated false
namespace Mine
namespace BA
theorem no_bytes : typeLookup (.type "bytearray") "__bytes__" = pure none := by rw [typeLookup_type, builtinLookup_eq_fast]; kernel_rfl
theorem noIndex : typeLookup (.type "bytearray") "__index__" = pure none := by rw [typeLookup_type, builtinLookup_eq_fast]; kernel_rfl
theorem buffer : typeLookup (.type "bytearray") "__buffer__" = pure (some (.builtin "bytearray.__buffer__")) := by rw [typeLookup_type, builtinLookup_eq_fast]; kernel_rfl
end BA
theorem bab_ends : ("bytearray.__buffer__".endsWith ("." ++ "__buffer__")) = true := by decide +kernel
theorem bab_drop : ("bytearray.__buffer__".dropRight ("__buffer__".length + 1)) = "bytearray" := by decide +kernel
section
variable {prog : Program} {w : World} {A : Around} {s : Shared} {E : Value → Shared → Prop}

theorem ba_slotIsOwn {S : Addr} {Q : Bool → Shared → Prop} (hT : s.TypeIs (.ref S) "bytearray") (h : Q true s) : wpAny (model prog w) A (Builtin.Bytes.slotIsOwn (.ref S) "__buffer__") Q E s := by
  unfold Builtin.Bytes.slotIsOwn
  refine wpAny_bind (wpAny_specialOf hT BA.buffer ?_)
  show wpAny _ _ (if (!("bytearray.__buffer__".endsWith ("." ++ "__buffer__"))) = true then _ else _) _ _ _
  rw [bab_ends]
  refine bm_if_false rfl ?_
  show wpAny _ _ (isInstance _ (.type ("bytearray.__buffer__".dropRight ("__buffer__".length + 1)))) _ _ _
  rw [bab_drop]
  exact wpAny_isInstance hT BA.sub_self h

theorem ba_bytes_new {S : Addr} {b : Array UInt8} {Q : Value → Shared → Prop} (hS : s.heap.get? S = some (baObj b)) (hz : b.size ≤ sizeLine)
    (hQ : ∀ t k, Q (.bytes b t) { s with toks := k }) :
    codeAny (model prog w) A (.call (.builtin "bytes.__new__") ⟨[.type "bytes", .ref S], []⟩) (wants Q E) s := by
  have hT : s.TypeIs (.ref S) "bytearray" := ⟨_, hS, rfl⟩
  refine codeAny_of_tree ?_
  show wpAny _ A.in1 (do checkBuiltinCall "bytes.__new__" ⟨[.type "bytes", .ref S], []⟩; again (.builtin "bytes.__new__" ⟨[.type "bytes", .ref S], []⟩)) _ _ s
  refine wpAny_bind (wpAny_of_eq (F.bm_newCall _) (wpAny_pure ⟨plainId_quiet F.bm_plain _, codeAny_builtin F.bm_entry ?_⟩))
  rw [Around.under_plainId F.bm_plain _]
  unfold Builtin.«bytes.__new__»
  refine wpAny_bind (wpAny_of_eq (a := true) rfl ?_)
  refine bm_if_false rfl ?_
  refine wpAny_bind (wpAny_of_eq F.bm_sub ?_)
  refine bm_if_false rfl ?_
  refine wpAny_bind (wpAny_of_eq (F.bm_bind _) ?_)
  refine wpAny_bind (wpAny_of_eq (a := ()) rfl ?_)
  refine wpAny_bind (wpAny_of_eq (a := ()) rfl ?_)
  refine bm_if_false rfl ?_
  refine wpAny_bind (wpAny_specialOf hT BA.no_bytes ?_)
  refine wpAny_bind (wpAny_bind ?_)
  show wpAny _ _ (load S >>= _) _ _ _
  refine wpAny_bind (wpAny_load hS ?_)
  refine wpAny_pure (wpAny_pure ?_)
  refine bm_if_false rfl ?_
  refine wpAny_bind (wpAny_specialOf hT BA.noIndex ?_)
  refine bm_if_true rfl ?_
  refine wpAny_bind ?_
  unfold Builtin.Bytes.buffer?
  refine wpAny_bind (wpAny_specialOf hT BA.buffer ?_)
  refine wpAny_bind (ba_slotIsOwn hT ?_)
  refine bm_if_false rfl ?_
  refine wpAny_bind (wpAny_specialOf hT BA.buffer ?_)
  refine wpAny_bind (ba_ownRelease hT ?_)
  refine bm_if_false rfl ?_
  refine wpAny_bind ?_
  unfold Builtin.Bytes.payload Builtin.Bytes.payload?
  refine wpAny_bind (wpAny_bind (wpAny_load hS ?_))
  refine wpAny_pure (wpAny_pure ?_)
  refine wpAny_pure ?_
  refine wpAny_bind (wpAny_rule ?_)
  refine wpAny_bind (wpAny_mkBytes ?_ hz)
  show wpAny _ _ (if (Value.type "bytes" == Value.type "bytes") = true then _ else _) _ _ _
  refine bm_if_true (by decide) ?_
  exact wpAny_pure (hQ _ _)
theorem call_bytes_ba {S : Addr} {b : Array UInt8} {Q : Value → Shared → Prop} (hS : s.heap.get? S = some (baObj b)) (hz : b.size ≤ sizeLine)
    (hQ : ∀ t k, Q (.bytes b t) { s with toks := k }) : wpAny (model prog w) A (call (.type "bytes") [.ref S]) Q E s := by
  refine callType_codes (Q₁ := fun obj s₁ => s₁.TypeIs obj "bytes" ∧ Q obj s₁) F.bm_called (F.bm_typeCall _) F.entry_object_init
    (ba_bytes_new hS hz fun t k => ⟨PySem.W.typeIs_bytes _ _ _, hQ t k⟩) fun obj s₁ h₁ => ?_
  exact ⟨h₁.1, F.args_object_init_2 obj _, object_init_meets F.bm_called.init.lookup F.bm_called.made (by decide) prog w A.in1 _ s₁ ⟨h₁.1, rfl, h₁.2⟩⟩
theorem bytes_ba_news {h₀ : Heap} {L : Addr} {news : List (Addr × Obj)} {S : Addr} {b : Array UInt8} {Q : Value → Shared → Prop} (N : News h₀ L s.heap news) (hm : (S, baObj b) ∈ news) (hz : b.size ≤ sizeLine)
    (hQ : ∀ t k, Q (.bytes b t) { s with toks := k }) : wpAny (model prog w) A (call (.type "bytes") [.ref S]) Q E s := call_bytes_ba (N _ hm).1 hz hQ
end
end Mine
end -- BaBytes

section -- MathA
theorem Mine.plain_MathA : True := by w_top off; trivial
open PySem
set_option linter.unusedVariables false
namespace Mine

theorem bitOr_nat (a b : Nat) : Builtin.bitOr (a : Int) (b : Int) = ((a ||| b : Nat) : Int) := by
  unfold Builtin.bitOr
  have h1 : ∀ n : Nat, Builtin.bitNot (n : Int) = -(n : Int) - 1 := fun n => by unfold Builtin.bitNot; (first | omega -splitDisjunctions | omega)
  have h2 : ∀ n : Nat, Builtin.bitNot (-(n : Int) - 1) = (n : Int) := fun n => by unfold Builtin.bitNot; (first | omega -splitDisjunctions | omega)
  rw [h1, h1]
  have d : ∀ n : Nat, decide ((0:Int) ≤ -(n : Int) - 1) = false := fun n => by simp; (first | omega -splitDisjunctions | omega)
  unfold Builtin.bitAnd
  rw [d, d]
  simp only [h2]
  rw [h1, h2]
  simp
theorem bitAnd_nat (a b : Nat) : Builtin.bitAnd (a : Int) (b : Int) = ((a &&& b : Nat) : Int) := by
  unfold Builtin.bitAnd
  have d : ∀ n : Nat, decide ((0:Int) ≤ (n : Int)) = true := fun n => by simp
  rw [d, d]
  simp
theorem or_add (a n : Int) (W : Nat) (ha : 0 ≤ a) (hn : 0 ≤ n) (h : n < 2 ^ W) : Builtin.bitOr (a * 2 ^ W) n = a * 2 ^ W + n := by
  obtain ⟨a, rfl⟩ := Int.eq_ofNat_of_zero_le ha
  obtain ⟨n, rfl⟩ := Int.eq_ofNat_of_zero_le hn
  have e : ((a : Int) * 2 ^ W) = ((a * 2 ^ W : Nat) : Int) := by push_cast; rfl
  rw [e, bitOr_nat]
  have h' : n < 2 ^ W := by exact_mod_cast h
  have := Nat.shiftLeft_add_eq_or_of_lt h' a
  rw [Nat.shiftLeft_eq] at this
  rw [← this]
  push_cast
  rfl
theorem and_mask (a : Int) (k : Nat) (ha : 0 ≤ a) : Builtin.bitAnd a (1 * 2 ^ k - 1) = a % 2 ^ k := by
  obtain ⟨a, rfl⟩ := Int.eq_ofNat_of_zero_le ha
  have e : (1 * 2 ^ k - 1 : Int) = ((2 ^ k - 1 : Nat) : Int) := by
    have : 1 ≤ 2 ^ k := Nat.one_le_two_pow
    rw [Int.natCast_sub this]; push_cast; (first | omega -splitDisjunctions | omega)
  rw [e, bitAnd_nat, Nat.and_two_pow_sub_one_eq_mod]
  push_cast
  rfl
theorem and_255 (a : Int) (ha : 0 ≤ a) : Builtin.bitAnd a 255 = a % 256 := by
  have := and_mask a 8 ha
  simpa using this
theorem fdiv_pow (a : Int) (k : Nat) (ha : 0 ≤ a) : a.fdiv (2 ^ k) = a / 2 ^ k := Int.fdiv_eq_ediv_of_nonneg _ (Int.le_of_lt (Int.pow_pos (by decide)))

/-- the value of octets, the first the highest -/
def baVal (b : Array UInt8) : Nat := b.toList.foldl (fun a x => a * 256 + x.toNat) 0
theorem baVal_empty : baVal #[] = 0 := rfl
theorem baVal_push (b : Array UInt8) (x : UInt8) : baVal (b.push x) = baVal b * 256 + x.toNat := by
  simp [baVal]
theorem foldl_val (l : List UInt8) : ∀ a : Nat, l.foldl (fun a x => a * 256 + x.toNat) a = a * 256 ^ l.length + l.foldl (fun a x => a * 256 + x.toNat) 0 := by
  induction l with
  | nil => intro a; simp
  | cons x r ih =>
    intro a
    simp only [List.foldl_cons, List.length_cons]
    rw [ih (a * 256 + x.toNat), ih (0 * 256 + x.toNat)]
    rw [Nat.pow_succ]
    simp only [Nat.zero_mul, Nat.zero_add, Nat.add_mul, Nat.mul_assoc, Nat.mul_comm (256 ^ r.length) 256]
    (first | omega -splitDisjunctions | omega)
theorem foldl_lt (l : List UInt8) : l.foldl (fun a x => a * 256 + x.toNat) 0 < 256 ^ l.length := by
  induction l with
  | nil => simp
  | cons x r ih =>
    simp only [List.foldl_cons, List.length_cons]
    rw [foldl_val]
    have hx := x.toNat_lt
    rw [Nat.pow_succ, Nat.zero_mul, Nat.zero_add]
    have : x.toNat * 256 ^ r.length + 256 ^ r.length ≤ 256 ^ r.length * 256 := by
      rw [Nat.mul_comm (256 ^ r.length) 256, ← Nat.succ_mul]
      exact Nat.mul_le_mul_right _ (by (first | omega -splitDisjunctions | omega))
    (first | omega -splitDisjunctions | omega)
theorem list_val_inj : ∀ (l l' : List UInt8), l.length = l'.length → l.foldl (fun a x => a * 256 + x.toNat) 0 = l'.foldl (fun a x => a * 256 + x.toNat) 0 → l = l'
  | [], [], _, _ => rfl
  | x :: r, y :: r', hl, hv => by
    simp only [List.length_cons, Nat.add_right_cancel_iff] at hl
    simp only [List.foldl_cons] at hv
    rw [foldl_val, foldl_val r'] at hv
    have h1 := foldl_lt r
    have h2 := foldl_lt r'
    rw [← hl] at h2 hv
    simp only [Nat.zero_mul, Nat.zero_add] at hv
    have hp : 0 < 256 ^ r.length := Nat.pow_pos (by decide)
    have hq : x.toNat = y.toNat := by
      have e1 : (x.toNat * 256 ^ r.length + r.foldl (fun a x => a * 256 + x.toNat) 0) / 256 ^ r.length = x.toNat := by
        rw [Nat.mul_comm, Nat.mul_add_div hp, Nat.div_eq_of_lt h1, Nat.add_zero]
      have e2 : (y.toNat * 256 ^ r.length + r'.foldl (fun a x => a * 256 + x.toNat) 0) / 256 ^ r.length = y.toNat := by
        rw [Nat.mul_comm, Nat.mul_add_div hp, Nat.div_eq_of_lt h2, Nat.add_zero]
      rw [← e1, ← e2, hv]
    rw [hq] at hv
    have : r = r' := list_val_inj r r' hl (by (first | omega -splitDisjunctions | omega))
    rw [this, UInt8.toNat_inj.mp hq]
theorem baVal_inj {b b' : Array UInt8} (hs : b.size = b'.size) (hv : baVal b = baVal b') : b = b' := by
  have := list_val_inj b.toList b'.toList (by simpa using hs) hv
  exact Array.ext' this
/-- a fact put out of the sight of the arithmetic (which would split on it) -/
def Hid (p : Prop) : Prop := p
theorem hid {p : Prop} (h : p) : Hid p := h
theorem cnt_range {cnt : Int} {i n : Nat} (h : cnt = 258 + ((i - 2 : Nat) : Int)) (hi : i < n) (hn : n ≤ 300) : 258 ≤ cnt ∧ cnt ≤ 560 := by omega
theorem cnt_next {cnt : Int} {i : Nat} (h : cnt = 258 + ((i - 2 : Nat) : Int)) (h2 : 2 ≤ i) : cnt + 1 = 258 + ((i + 1 - 2 : Nat) : Int) := by omega
theorem cnt_stay {cnt : Int} {i : Nat} (h : cnt = 258 + ((i - 2 : Nat) : Int)) (h2 : i < 2) : cnt = 258 + ((i + 1 - 2 : Nat) : Int) := by omega
theorem toNat_le_of {b : Int} {k : Nat} (h : b ≤ (k : Int)) : b.toNat ≤ k := by omega
theorem meas_pos {n : Nat} {p : Int} (h0 : 0 ≤ p) (h : p < (n : Int)) : n - (p + 1).toNat < n - p.toNat := by omega
theorem one_minus {e : Nat} (h : e = 0 ∨ e = 1) : 1 - (e : Int) = ((1 - e : Nat) : Int) ∧ (1 - e = 0 ∨ 1 - e = 1) := by rcases h with rfl | rfl <;> decide
end Mine
end -- MathA

section -- HeadE
theorem Mine.plain_HeadE : True := by w_top off; trivial
open PySem PySem.W PyProof.Rows PySem.Calls PySem.Spec
set_option maxRecDepth 100000
set_option linter.unusedVariables false
namespace Mine
theorem clean_caller : Clean ⟨.builtin "claim.caller" {}, none, none, [], none⟩ :=
  ⟨by show (!(Builtin.Bytes.decodersThatHold.contains "claim.caller")) = true; decide +kernel, fun x hx => nomatch hx⟩

theorem thread_ends_C {prog : Program} {w : World} {t : Sem Fin} {s : Shared} {R : Result → Shared → Prop} (hreg : s.asleep)
    (h : wpC (model prog w) callerA t (fun fin s' => ∃ f, fin = .done f ∧ (R (.ok f) s' ∧ leftWithCleanup s'.gens = false)) s) :
    ∃ n r s' s'', runN (denote table) prog w n s ⟨t, .builtin "claim.caller" {}, default, []⟩ = .halted (outcomeOf r) s' ∧
      schedN (denote table) prog w n (.single s ⟨t, .builtin "claim.caller" {}, default, []⟩) = .halted (outcomeOf r) s' ∧ s'.forget = s''.forget ∧ R r s'' := by
  obtain ⟨n, r, s₁, s₂, hs, hn, hfo, hR⟩ := wp_halts_full (M := model prog w) (R := R) (c := .builtin "claim.caller" {}) (t := t) (p := default) (s := s) hreg
    (Sem.wp_mono _ _ _ (fun fin p' s' h' => by obtain ⟨f, rfl, hf⟩ := h'; exact hf) (fun _ _ _ x => x.elim) _ _ (h _ default caller_in clean_caller))
  exact ⟨n, r, s₂, s₁, hn, hs, hfo, hR⟩

theorem callFrom_C {c : ClaimW} {tree : List Value → Sem Fin} {w : World} {s : Shared} {free : Addr → Prop} {gens : Prop} {kept : Heap → Prop} (hz : s.asleep) (hgens : s.gens = #[])
    (hspec : ∀ args, c.pre args = true → WData.layableAll args = true →
      ∀ ord : List DictEntry → List DictEntry, (∀ l, (ord l).Perm l) →
      ∃ vs s₁, layAllW c.records (classAt s.heap) w.params ord args s = some (vs, s₁) ∧
        wpC (model c.prog w) callerA (tree vs) (fun fin s' => ∃ f, fin = .done f ∧ (c.Ends s args vs s₁ (.ok f) s' ∧ s'.os = s.os ∧ AllBare s'.gens ∧ kept s'.heap)) s₁) :
    c.CallFrom (fun vs => ⟨tree vs, .builtin "claim.caller" {}, default, []⟩) w free gens kept s := by
  intro args hpre hlay ord hord
  obtain ⟨vs, s₁, hlaid, hcode⟩ := hspec args hpre hlay ord hord
  have hal := layAllW_rest _ _ _ hlaid
  obtain ⟨k, r, s', s'', hrun, hsched, hfo, hcase, hos, hkp⟩ := thread_ends_C (prog := c.prog) (w := w) (t := tree vs) (s := s₁)
    (R := fun r s' => c.Ends s args vs s₁ r s' ∧ s'.os = s.os ∧ kept s'.heap)
    (Shared.asleep_of_life hal.2.2.2 hz)
    (c_mono hcode (by
      rintro fin s' ⟨f, e, h1, h2, h3, h4⟩
      exact ⟨f, e, ⟨h1, h2, h4⟩, leftWithCleanup_false_of_bare h3⟩))
  obtain ⟨eh, _, _, eo, _⟩ := Shared.forget_eq hfo
  have hcase := hcase.congr eh
  have hkp : kept s'.heap := by first | exact eh ▸ hkp | (rw [eh] at hkp; exact hkp) | (rw [← eh] at hkp; exact hkp)
  rw [← eo] at hos
  have hlife : s'.heap.life = s.heap.life := (runN_life _ _ _ hrun).trans hal.2.2.2
  refine ⟨vs, s₁, hlaid, k, _, s', hsched, ?_, (fun _ i x hx => by rw [hgens] at hx; simp at hx), hkp, by rw [hlife], Shared.rest_eq hos⟩
  rcases hcase with ⟨v, rfl, d1, d2, d3, d4, d5⟩ | ⟨e, ob, cls, rfl, d1, d2, d3, d4, d5⟩
  · exact .inl ⟨v, rfl, d1, d2, d3, fun b o y _ => d4 b o y, d5⟩
  · exact .inr ⟨e, ob, cls, rfl, d1, d2, d3, d4, fun b o y _ => d5 b o y⟩

abbrev WalkC (q : Program) (loose : List Str) (XP : (Str → Option Value) → Heap → Prop) (YP : World → Heap → Prop) (r : RowW) (d : DefRec) (kwd : List (Str × Expr)) : Prop :=
  ∀ (w : World) (s₀ s₁ : Shared) (mg mb : Str → Option Value), Ground q loose r.records XP w s₀ mg mb s₁.heap → YP w s₁.heap → ∀ (a : Addr) (o : Obj) (pm cd doc dV kV : Value), s₁.heap.get? a = some o →
    o.data = .func { docDef d.name d.params d.body d.scope pm cd doc with defaults := dV, kwdefaults := kV } → s₁.heap.CodeRec cd d.name → Dflts mg s₁.heap d.params kwd dV kV → mg d.name = some (.ref a) → s₁.gens = #[] →
    ∀ (args : List WData) (vals : List Value) (as : List Addr), r.claim.pre args = true → WData.layableAll args = true → ReadsAllW r.records (classAt s₀.heap) s₁.heap vals args as → WellAll w.params s₁.heap vals args → (∀ a ∈ as, (a == sysModules) = false) →
      wpC (model r.prog w) callerA (PySem.call (.ref a) vals) (fun v s' => GoodWG r.claim (classAt s₀.heap) (ExcName.means s₀.heap) args s₁ (.ok (.ret v)) s') s₁

theorem open_anyC {r : RowW} {tree : List Value → Sem Fin} {q : Program} {loose defs kps : List Str} {writes : Bool} {Xt : Shared → Bool} {XP : (Str → Option Value) → Heap → Prop} {α : Type} {Yf : Shared → α} {Ya : World → α} {YP : World → Heap → Prop} {N : Nat}
    (left : LeftO r.prog q loose Xt Yf Ya N) (hY : ∀ w s, Yf s = Ya w → YP w s.heap) (hYk : ∀ w h h', YP w h → (∀ b o, h.get? b = some o → h'.get? b = some o) → YP w h') (hX : ∀ s, Xt s = true → XP (s.heap.nsMap mainGlobals) s.heap) (hXk : ∀ mg h h', XP mg h → (∀ b o, h.get? b = some o → h'.get? b = some o) → XP mg h')
    (hRf : ∀ s, Xt s = true → RecFacts r.records s.heap) (hwr : (!writes || r.records.isEmpty) = true) (ok : (chainsOk q && opensWell r.prog && (frees r && r.within.isEmpty)) = true) (hb : r.prog.bare) (hw : r.promised)
    (ht : ∀ vs (w : World) (s : Shared) mg f (Q : Fin → Shared → Prop), s.heap.Ns mainGlobals mg → mg r.name = some f → wpC (model r.prog w) callerA (PySem.call f vs) (fun v s' => Q (.done (.ret v)) s') s → wpC (model r.prog w) callerA (tree vs) Q s)
    (pin : ∀ w s, s.heap.isNs mainGlobals = true → Ground q loose [] XP w s (s.heap.nsMap mainGlobals) (s.heap.nsMap builtinsNs) s.heap → ∀ n ∈ defs, isTheDefsW r.prog s.heap n)
    (call : ∀ (w : World) (s₀ s₁ : Shared) (mg mb : Str → Option Value), Ground q loose r.records XP w s₀ mg mb s₁.heap → YP w s₁.heap → ∀ (args : List WData) (vs : List Value) (as : List Addr),
      r.claim.pre args = true → WData.layableAll args = true → Laid r.records w s₀ s₁ args vs as → sysModules < s₀.heap.objs.size → ∃ f, mg r.name = some f ∧
        wpC (model r.prog w) callerA (PySem.call f vs) (fun v s' => GoodWG r.claim (classAt s₀.heap) (ExcName.means s₀.heap) args s₁ (.ok (.ret v)) s') s₁) : r.claim.HoldsOpenBy (fun vs => ⟨tree vs, .builtin "claim.caller" {}, default, []⟩) defs kps writes := by
  obtain ⟨ok, k5⟩ := Bool.and_eq_true_iff.mp ok
  obtain ⟨hch, o1⟩ := Bool.and_eq_true_iff.mp ok
  obtain ⟨k5, k6⟩ := Bool.and_eq_true_iff.mp k5
  obtain ⟨hsame, hu, ha, hap, hm⟩ := frees_parts k5
  refine ⟨⟨hb, o1, by show r.makers.map _ = []; rw [hm]; rfl⟩, hw.witness, fun w => ⟨(left.behind hX hch w).1, fun s' hs' => ?_⟩⟩
  obtain ⟨s₀, hf, hg0, s, hT, hz, hgens, hg, G00, y⟩ := (left.behind (XP := fun mg h => XP mg h ∧ RecFacts r.records h) (fun s hs => ⟨hX s hs, hRf s hs⟩) hch w).2 s' hs'
  have G0 : Ground q loose [] XP w s (s.heap.nsMap mainGlobals) (s.heap.nsMap builtinsNs) s.heap := ⟨G00.T, G00.B, G00.D, G00.TE, G00.TD, G00.W, G00.X.1, G00.cls, G00.has, G00.apart, G00.once, G00.K⟩
  have RF := G00.X.2
  have hT' := hT
  refine ⟨s₀, hf, hg0, s, hT, pin w s hg G0, RF.1, RF.2.1, ?_⟩
  have hgens : s.gens = #[] := Array.eq_empty_of_size_eq_zero (beq_iff_eq.mp hgens)
  have G : Ground q loose r.records XP w s _ _ s.heap := RF.ground G0
  refine callFrom_C (c := r.claim) hz hgens fun args hpre hlay ord hord => ?_
  obtain ⟨⟨vs, s₁⟩, hlaid⟩ := Option.isSome_iff_exists.mp (layAllW_isSome (P := w.params) (ord := ord) G.has args r.args s (pre_splitW hpre).1)
  have keeps := layAllW_keeps _ _ _ hlaid
  have hal := layAllW_rest _ _ _ hlaid
  obtain ⟨as, hrd, hin, hold⟩ := reads_layAllW hord _ _ _ hlaid hlay s₁.heap (fun _ _ e => e)
  have L : Laid r.records w s s₁ args vs as := ⟨⟨ord, hord, hlaid⟩, hrd, hin, hold, keeps, hal.1.trans hgens, hal.2.2.1⟩
  have G₁ := G.keeps hXk keeps
  obtain ⟨f, hf, h⟩ := call w s s₁ _ _ G₁ (hYk _ _ _ (hY w s y) keeps) args vs as hpre hlay L G.low
  have hi := ident_freeW hu ha hap
  have hwi : r.claim.within = [] := List.isEmpty_iff.mp k6
  exact ⟨vs, s₁, hlaid, ht vs w s₁ _ f _ G₁.T.g hf (c_mono h (fun v s' g => ⟨_, rfl, have z := g.laid (c := r.claim) hsame hwi hi L; ⟨z.1, z.2.1, z.2.2, fun q => ⟨namesKept_of hT' hg kps keeps g.2.1.old, noTable hwr q⟩⟩⟩))⟩

end Mine

/-- as the library's holds_open, but the walk is asked for at the clean contexts alone; the head's tactic finds it in this namespace under this name -/
theorem Mine.PySem.W.holds_open {r : OpenRow} {q : Program} {loose : List Str} {Xt : Shared → Bool} {XP : (Str → Option Value) → Heap → Prop} {α : Type} {Yf : Shared → α} {Ya : World → α} {YP : World → Heap → Prop} {d : DefRec} {kwd : List (Str × Expr)} {N : Nat}
    (_ : True) (hY : ∀ w s, Yf s = Ya w → YP w s.heap) (hYk : ∀ w h h', YP w h → (∀ b o, h.get? b = some o → h'.get? b = some o) → YP w h')
    (hX : ∀ s, Xt s = true → XP (s.heap.nsMap mainGlobals) s.heap) (hXk : ∀ mg h h', XP mg h → (∀ b o, h.get? b = some o → h'.get? b = some o) → XP mg h')
    (hdef : defOf q r.name = some (d, kwd)) (hp : r.prog.theDef r.name = some (d.params, d.body, d.scope)) (hk : kwWritten? d.params.kwonlyargs d.params.kw_defaults = some kwd) (hRf : ∀ s, Xt s = true → RecFacts r.records s.heap) (hwr : (!r.writes || r.records.isEmpty) = true)
    (k1 : r.wellSaid = true) (ok : (chainsOk q && opensWell r.prog && (frees r.toRowW && r.within.isEmpty)) = true) (hb : r.prog.bare) (hw : r.toRowW.promised)
    (call : LeftO r.prog q loose Xt Yf Ya N ∧ ∀ d kwd, defOf q r.name = some (d, kwd) → WalkC q loose XP YP r.toRowW d kwd) : r.Holds := by
  obtain ⟨left, call⟩ := call
  have call := call d kwd hdef
  refine ⟨k1, hw, open_anyC (r := r.toRowW) (tree := fun vs => do match ← nsGet mainNs r.name with
      | some f => do ret (← PySem.call f vs)
      | none => unsupported "claim.caller:no-such-global") left hY hYk hX hXk hRf hwr ok hb hw
    (fun vs w s mg f Q hg hf h => c_bindO (wpAny_nsGet hg (by rw [hf]; exact c_bind (c_mono h (fun _ _ x => c_pure x)))))
    (fun w s hg G n hn => ?_) fun w s₀ s₁ mg mb G Y args vs as hpre hlay L low => ?_⟩
  · obtain rfl : n = r.name := by split at hn <;> simp_all
    exact pinned_of_view hg G hdef hp hk
  · obtain ⟨a, o, pm, cd, doc, dV, kV, h1, h2, h3, h4, h5⟩ := G.fn hdef
    exact ⟨.ref a, h1, call w s₀ s₁ mg mb G Y a o pm cd doc dV kV h2 h3 h4 h5 (defOf_name hdef ▸ h1) L.gens args vs as hpre hlay L.reads L.well (L.low low)⟩
end -- HeadE

section -- TopE
theorem Mine.plain_TopE : True := by w_top off; trivial
open PySem PySem.W PyProof.Rows
namespace Mine
set_option maxRecDepth 100000 in
/-- what the row says of itself, by one look of the kernel (the library's o_law would lay a twin of the whole text) -/
theorem said_ok : PySem.Challenge.rw_nn0205_01.wellSaid = true := by kernel_rfl
theorem keep {T R : Prop} (_ : T) (r : R) : R := r
set_option maxRecDepth 100000 in
set_option maxHeartbeats 8000000 in
noncomputable def hd : { T : Prop // T → PySem.Challenge.rw_nn0205_01.Holds } := by
  apply Subtype.mk
  intro h
  refine' keep (T := True) ?hl _
  exact trivial
  refine' keep ?hc _

  rotate_left
  exact h

  w_on
  refine holds_law said_ok fun said => ?_
  k_head

  (case hw => w_witness2)

end Mine
end -- TopE

section -- LeftL
theorem Mine.plain_LeftL : True := by w_top off; trivial
open PySem PySem.W PyProof.Rows PySem.Calls PySem.Spec
set_option maxRecDepth 100000
set_option linter.unusedVariables false
namespace Mine
/-- the top's run over a tree of objects: nothing is written out between the steps -/
def runT (tb : String → Option Builtin) (p : Program) (w : World) (n₀ : Nat) (ann : Option Value) : Nat → SharedT → Thread → Option SharedT
  | 0, _, _ => none
  | n + 1, s, t => match through t with
    | true => some s
    | false => match stepOk n₀ ann t with
      | false => none
      | true => match stepT (denote tb) p w s t with
        | some (s', t') => runT tb p w n₀ ann n s' t'
        | none => none
theorem runT_of {tb : String → Option Builtin} {p : Program} {w : World} {n₀ : Nat} {ann : Option Value} : ∀ {n : Nat} {s s' : SharedT} {t : Thread}, runT tb p w n₀ ann n s t = some s' → topRun tb p w n₀ ann n s.abs t = some s'.abs
  | 0, _, _, _, h => by cases h
  | n + 1, s, s', t, h => by
    unfold runT at h
    unfold topRun
    cases he : through t with
    | true => rw [he] at h; cases h; rfl
    | false =>
      rw [he] at h
      cases hk : stepOk n₀ ann t with
      | false => rw [hk] at h; cases h
      | true =>
        rw [hk] at h
        cases hs : stepT (denote tb) p w s t with
        | none => rw [hs] at h; cases h
        | some r => obtain ⟨s₂, t₂⟩ := r; rw [hs] at h; rw [stepT_spec hs]; exact runT_of h

/-- so many steps of the top over a tree of objects -/
def goT (tb : String → Option Builtin) (p : Program) (w : World) (n₀ : Nat) (ann : Option Value) : Nat → SharedT → Thread → Option (SharedT × Thread)
  | 0, s, t => some (s, t)
  | n + 1, s, t => match through t with
    | true => none
    | false => match stepOk n₀ ann t with
      | false => none
      | true => match stepT (denote tb) p w s t with
        | some (s', t') => goT tb p w n₀ ann n s' t'
        | none => none
theorem goT_of {tb : String → Option Builtin} {p : Program} {w : World} {n₀ : Nat} {ann : Option Value} : ∀ {n : Nat} {s s' : SharedT} {t t' : Thread}, goT tb p w n₀ ann n s t = some (s', t') → topGo tb p w n₀ ann n s.abs t = some (s'.abs, t')
  | 0, _, _, _, _, h => by cases h; rfl
  | n + 1, s, s', t, t', h => by
    unfold goT at h
    unfold topGo
    cases he : through t with
    | true => rw [he] at h; cases h
    | false =>
      rw [he] at h
      cases hk : stepOk n₀ ann t with
      | false => rw [hk] at h; cases h
      | true =>
        rw [hk] at h
        cases hs : stepT (denote tb) p w s t with
        | none => rw [hs] at h; cases h
        | some r => obtain ⟨s₂, t₂⟩ := r; rw [hs] at h; rw [stepT_spec hs]; exact goT_of h
/-- a piece of k statements ahead of the rest -/
theorem piece_take {tb : String → Option Builtin} {p : Program} {w : World} {n₀ : Nat} {ann : Option Value} {env : Env} {q : Pos} {n N : Nat} {s s' : SharedT} {r : Shared} {b : List Stmt} (k : Nat) {c : Code} {pos p' : Pos}
    (h : segRunT tb p w n₀ ann 1 n s (piecesOf (b.take k) env c pos [topFrame q]) = some (.next, s', c, p'))
    (K : topRun tb p w n₀ ann N s'.abs (restOf (b.drop k) env c p' [topFrame q]) = some r) : topRun tb p w n₀ ann (n + N) s.abs (restOf b env c pos [topFrame q]) = some r := by
  have := piece_app (segRun_of h) K
  rwa [List.take_append_drop] at this
end Mine
end -- LeftL

section -- LeftS
theorem Mine.plain_LeftS : True := by w_top off; trivial
open PySem PySem.W PyProof.Rows PySem.Calls PySem.Spec
set_option maxRecDepth 100000
set_option linter.unusedVariables false
namespace Mine
/-- the k-th object of the part that the walk knows -/
def nthO : List (Addr × Obj) → Nat → Obj
  | [], _ => default
  | x :: _, 0 => x.2
  | _ :: l, k + 1 => nthO l k
noncomputable def fx (P : Params) (k : Nat) : Obj := nthO (hd.heap_1 P) k
/-- what the making of a def leaves behind -/
def husk (o : Obj) : Obj := { cls := Value.none, data := match o.data with
  | .func f => .func { name := f.name, qualname := f.qualname, params := f.params, body := f.body, scope := f.scope, globals := 0, closure := [], defaults := Value.none, kwdefaults := Value.none }
  | d => d }
noncomputable def sx43 (P : Params) : Obj :=
  { cls := Value.type "tuple", data := Data.seq #[] }
noncomputable def sx44 (P : Params) : Obj :=
  { cls := Value.none, data := Data.fields #[] }
noncomputable def sx45 (P : Params) : Obj :=
  { cls := Value.type "code", data := Data.fields #[Value.str (Str.ofString "<module>") 182, Value.str (Str.ofString "<module>") 183, Value.str (Str.ofString "/claim/cut.py") 184, Value.int 1 0, Value.int 0 0, Value.int 0 0, Value.int 0 0, Value.int 0 0, Value.ref 11, Value.bool false, Value.int 181 0, Value.ref 12, Value.none, Value.none, Value.none, Value.none, Value.int 185 0, Value.int 1 0, Value.str (Str.ofString "/claim/cut.py") 186] }
noncomputable def sx46 (P : Params) : Obj :=
  { cls := Value.type "frame", slots := #[some (Value.ref 13), some (Value.ref 3), some (Value.ref 3), none, some (Value.str (Str.ofString "__main__") 164), none, some (Value.ref 0)] }
noncomputable def sx50 (P : Params) : Obj :=
  { cls := Value.type "dict", data := Data.dict #[{ hash := PyData.keyHash P (Str.ofString "__name__"), key := Value.str (Str.ofString "__name__") 165, val := Value.str (Str.ofString "paperhold.errors") 194 }, { hash := PyData.keyHash P (Str.ofString "__doc__"), key := Value.str (Str.ofString "__doc__") 166, val := Value.none }, { hash := PyData.keyHash P (Str.ofString "__package__"), key := Value.str (Str.ofString "__package__") 167, val := Value.none }, { hash := PyData.keyHash P (Str.ofString "__loader__"), key := Value.str (Str.ofString "__loader__") 168, val := Value.builtin "__main__.__loader__#opaque" }, { hash := PyData.keyHash P (Str.ofString "__spec__"), key := Value.str (Str.ofString "__spec__") 169, val := Value.none }, { hash := PyData.keyHash P (Str.ofString "__annotations__"), key := Value.str (Str.ofString "__annotations__") 170, val := Value.ref 6 }, { hash := PyData.keyHash P (Str.ofString "__builtins__"), key := Value.str (Str.ofString "__builtins__") 171, val := Value.ref 4 }, { hash := PyData.keyHash P (Str.ofString "__file__"), key := Value.str (Str.ofString "__file__") 173, val := Value.str (Str.ofString "/claim/cut.py") 172 }, { hash := PyData.keyHash P (Str.ofString "__cached__"), key := Value.str (Str.ofString "__cached__") 174, val := Value.none }, { hash := PyData.keyHash P (Str.ofString "_wall"), key := Value.str (Str.ofString "_wall") 193, val := Value.ref 21 }, { hash := PyData.keyHash P (Str.ofString "PaperError"), key := Value.str (Str.ofString "PaperError") 235, val := Value.ref 46 }] 11 }
noncomputable def sx51 (P : Params) : Obj :=
  { cls := Value.none, data := Data.fields #[Value.int 1 0, Value.int 0 0, Value.ref 20, Value.int 5 0, Value.int 0 0, Value.ref 27] }
noncomputable def sx53 (P : Params) : Obj :=
  { cls := Value.none, data := Data.fields #[] }
noncomputable def sx60 (P : Params) : Obj :=
  { cls := Value.type "builtin_function_or_method", data := Data.fields #[Value.builtin "type.__prepare__", Value.type "type"] }
noncomputable def sx61 (P : Params) : Obj :=
  { cls := Value.type "dict", data := Data.dict #[{ hash := PyData.keyHash P (Str.ofString "__module__"), key := Value.str (Str.ofString "__module__") 203, val := Value.str (Str.ofString "paperhold.errors") 194 }, { hash := PyData.keyHash P (Str.ofString "__qualname__"), key := Value.str (Str.ofString "__qualname__") 205, val := Value.str (Str.ofString "PaperError") 204 }, { hash := PyData.keyHash P (Str.ofString "__firstlineno__"), key := Value.str (Str.ofString "__firstlineno__") 207, val := Value.int 5 206 }, { hash := PyData.keyHash P (Str.ofString "__init__"), key := Value.str (Str.ofString "__init__") 218, val := Value.ref 36 }, { hash := PyData.keyHash P (Str.ofString "told"), key := Value.str (Str.ofString "told") 225, val := Value.ref 43 }, { hash := PyData.keyHash P (Str.ofString "__static_attributes__"), key := Value.str (Str.ofString "__static_attributes__") 228, val := Value.ref 44 }] 6 }
noncomputable def sx62 (P : Params) : Obj :=
  { cls := Value.type "tuple", data := Data.seq #[] }
noncomputable def sx63 (P : Params) : Obj :=
  { cls := Value.none, data := Data.fields #[Value.int 7 0, Value.int 4 0, Value.ref 35, Value.int 12 0, Value.int 4 0, Value.ref 42] }
noncomputable def sx64 (P : Params) : Obj :=
  { cls := Value.type "code", data := Data.fields #[Value.str (Str.ofString "PaperError") 198, Value.str (Str.ofString "PaperError") 199, Value.str (Str.ofString "/claim/cut.py") 200, Value.int 5 0, Value.int 0 0, Value.int 0 0, Value.int 0 0, Value.int 0 0, Value.ref 25, Value.bool false, Value.int 181 0, Value.ref 26, Value.none, Value.none, Value.none, Value.none, Value.int 201 0, Value.int 5 0, Value.str (Str.ofString "/claim/cut.py") 202] }
noncomputable def sx65 (P : Params) : Obj :=
  { cls := Value.type "frame", slots := #[some (Value.ref 27), some (Value.ref 3), some (Value.ref 24), none, some (Value.str (Str.ofString "paperhold.errors") 194), none, some (Value.ref 0)] }
noncomputable def sx68 (P : Params) : Obj :=
  { cls := Value.none, data := Data.fields #[] }
noncomputable def sx75 (P : Params) : Obj :=
  { cls := Value.none, data := Data.fields #[] }
noncomputable def sx83 (P : Params) : Obj :=
  { cls := Value.type "type", data := Data.cls { name := Str.ofString "PaperError", bases := [Value.type "Exception"], mro := [Value.ref 46, Value.type "Exception", Value.type "BaseException", Value.type "object"], ns := 45, qualname := Str.ofString "PaperError" }, slots := #[some (Value.ref 22), none, some (Value.str (Str.ofString "PaperError") 196), some (Value.str (Str.ofString "PaperError") 204), some (Value.builtin "Exception.__new__"), some (Value.bool true)] }
noncomputable def sx85 (P : Params) : Obj :=
  { cls := Value.type "super", data := Data.fields #[Value.ref 46, Value.ref 46, Value.ref 46] }
noncomputable def sx86 (P : Params) : Obj :=
  { cls := Value.type "builtin_function_or_method", data := Data.fields #[Value.builtin "object.__init_subclass__", Value.ref 46] }
noncomputable def sx87 (P : Params) : Obj :=
  { cls := Value.type "dict", data := Data.dict #[{ hash := PyData.keyHash P (Str.ofString "__name__"), key := Value.str (Str.ofString "__name__") 165, val := Value.str (Str.ofString "paperhold.bits") 252 }, { hash := PyData.keyHash P (Str.ofString "__doc__"), key := Value.str (Str.ofString "__doc__") 166, val := Value.none }, { hash := PyData.keyHash P (Str.ofString "__package__"), key := Value.str (Str.ofString "__package__") 167, val := Value.none }, { hash := PyData.keyHash P (Str.ofString "__loader__"), key := Value.str (Str.ofString "__loader__") 168, val := Value.builtin "__main__.__loader__#opaque" }, { hash := PyData.keyHash P (Str.ofString "__spec__"), key := Value.str (Str.ofString "__spec__") 169, val := Value.none }, { hash := PyData.keyHash P (Str.ofString "__annotations__"), key := Value.str (Str.ofString "__annotations__") 170, val := Value.ref 6 }, { hash := PyData.keyHash P (Str.ofString "__builtins__"), key := Value.str (Str.ofString "__builtins__") 171, val := Value.ref 4 }, { hash := PyData.keyHash P (Str.ofString "__file__"), key := Value.str (Str.ofString "__file__") 173, val := Value.str (Str.ofString "/claim/cut.py") 172 }, { hash := PyData.keyHash P (Str.ofString "__cached__"), key := Value.str (Str.ofString "__cached__") 174, val := Value.none }, { hash := PyData.keyHash P (Str.ofString "_wall"), key := Value.str (Str.ofString "_wall") 193, val := Value.ref 21 }, { hash := PyData.keyHash P (Str.ofString "PaperError"), key := Value.str (Str.ofString "PaperError") 235, val := Value.ref 46 }, { hash := PyData.keyHash P (Str.ofString "FilterFault"), key := Value.str (Str.ofString "FilterFault") 251, val := Value.ref 59 }, { hash := PyData.keyHash P (Str.ofString "OCTET"), key := Value.str (Str.ofString "OCTET") 255, val := Value.int 8 254 }, { hash := PyData.keyHash P (Str.ofString "low_bits"), key := Value.str (Str.ofString "low_bits") 263, val := Value.ref 68 }, { hash := PyData.keyHash P (Str.ofString "check_fit"), key := Value.str (Str.ofString "check_fit") 271, val := Value.ref 75 }] 15 }
noncomputable def sx88 (P : Params) : Obj :=
  { cls := Value.none, data := Data.fields #[Value.int 1 0, Value.int 0 0, Value.ref 20, Value.int 5 0, Value.int 0 0, Value.ref 27, Value.int 14 0, Value.int 0 0, Value.ref 55, Value.int 18 0, Value.int 0 0, Value.ref 67, Value.int 20 0, Value.int 0 0, Value.ref 74] }
noncomputable def sx91 (P : Params) : Obj :=
  { cls := Value.type "builtin_function_or_method", data := Data.fields #[Value.builtin "type.__prepare__", Value.type "type"] }
noncomputable def sx92 (P : Params) : Obj :=
  { cls := Value.type "dict", data := Data.dict #[{ hash := PyData.keyHash P (Str.ofString "__module__"), key := Value.str (Str.ofString "__module__") 243, val := Value.str (Str.ofString "paperhold.errors") 194 }, { hash := PyData.keyHash P (Str.ofString "__qualname__"), key := Value.str (Str.ofString "__qualname__") 245, val := Value.str (Str.ofString "FilterFault") 244 }, { hash := PyData.keyHash P (Str.ofString "__firstlineno__"), key := Value.str (Str.ofString "__firstlineno__") 247, val := Value.int 14 246 }, { hash := PyData.keyHash P (Str.ofString "__static_attributes__"), key := Value.str (Str.ofString "__static_attributes__") 248, val := Value.ref 57 }] 4 }
noncomputable def sx93 (P : Params) : Obj :=
  { cls := Value.type "tuple", data := Data.seq #[] }
noncomputable def sx94 (P : Params) : Obj :=
  { cls := Value.none, data := Data.fields #[] }
noncomputable def sx95 (P : Params) : Obj :=
  { cls := Value.type "code", data := Data.fields #[Value.str (Str.ofString "FilterFault") 238, Value.str (Str.ofString "FilterFault") 239, Value.str (Str.ofString "/claim/cut.py") 240, Value.int 14 0, Value.int 0 0, Value.int 0 0, Value.int 0 0, Value.int 0 0, Value.ref 53, Value.bool false, Value.int 181 0, Value.ref 54, Value.none, Value.none, Value.none, Value.none, Value.int 241 0, Value.int 14 0, Value.str (Str.ofString "/claim/cut.py") 242] }
noncomputable def sx96 (P : Params) : Obj :=
  { cls := Value.type "frame", slots := #[some (Value.ref 55), some (Value.ref 3), some (Value.ref 52), none, some (Value.str (Str.ofString "paperhold.errors") 194), none, some (Value.ref 0)] }
noncomputable def sx100 (P : Params) : Obj :=
  { cls := Value.type "super", data := Data.fields #[Value.ref 59, Value.ref 59, Value.ref 59] }
noncomputable def sx101 (P : Params) : Obj :=
  { cls := Value.type "builtin_function_or_method", data := Data.fields #[Value.builtin "object.__init_subclass__", Value.ref 59] }
noncomputable def sx103 (P : Params) : Obj :=
  { cls := Value.none, data := Data.fields #[] }
noncomputable def sx110 (P : Params) : Obj :=
  { cls := Value.none, data := Data.fields #[] }
noncomputable def sx116 (P : Params) : Obj :=
  { cls := Value.type "dict", data := Data.dict #[{ hash := PyData.keyHash P (Str.ofString "__name__"), key := Value.str (Str.ofString "__name__") 165, val := Value.str (Str.ofString "paperhold.bits") 252 }, { hash := PyData.keyHash P (Str.ofString "__doc__"), key := Value.str (Str.ofString "__doc__") 166, val := Value.none }, { hash := PyData.keyHash P (Str.ofString "__package__"), key := Value.str (Str.ofString "__package__") 167, val := Value.none }, { hash := PyData.keyHash P (Str.ofString "__loader__"), key := Value.str (Str.ofString "__loader__") 168, val := Value.builtin "__main__.__loader__#opaque" }, { hash := PyData.keyHash P (Str.ofString "__spec__"), key := Value.str (Str.ofString "__spec__") 169, val := Value.none }, { hash := PyData.keyHash P (Str.ofString "__annotations__"), key := Value.str (Str.ofString "__annotations__") 170, val := Value.ref 6 }, { hash := PyData.keyHash P (Str.ofString "__builtins__"), key := Value.str (Str.ofString "__builtins__") 171, val := Value.ref 4 }, { hash := PyData.keyHash P (Str.ofString "__file__"), key := Value.str (Str.ofString "__file__") 173, val := Value.str (Str.ofString "/claim/cut.py") 172 }, { hash := PyData.keyHash P (Str.ofString "__cached__"), key := Value.str (Str.ofString "__cached__") 174, val := Value.none }, { hash := PyData.keyHash P (Str.ofString "_wall"), key := Value.str (Str.ofString "_wall") 193, val := Value.ref 21 }, { hash := PyData.keyHash P (Str.ofString "PaperError"), key := Value.str (Str.ofString "PaperError") 235, val := Value.ref 46 }, { hash := PyData.keyHash P (Str.ofString "FilterFault"), key := Value.str (Str.ofString "FilterFault") 251, val := Value.ref 59 }, { hash := PyData.keyHash P (Str.ofString "OCTET"), key := Value.str (Str.ofString "OCTET") 255, val := Value.int 8 254 }, { hash := PyData.keyHash P (Str.ofString "low_bits"), key := Value.str (Str.ofString "low_bits") 263, val := Value.ref 68 }, { hash := PyData.keyHash P (Str.ofString "check_fit"), key := Value.str (Str.ofString "check_fit") 271, val := Value.ref 75 }, { hash := PyData.keyHash P (Str.ofString "HighBitsIn"), key := Value.str (Str.ofString "HighBitsIn") 326, val := Value.ref 113 }] 16 }
noncomputable def sx117 (P : Params) : Obj :=
  { cls := Value.none, data := Data.fields #[Value.int 1 0, Value.int 0 0, Value.ref 20, Value.int 5 0, Value.int 0 0, Value.ref 27, Value.int 14 0, Value.int 0 0, Value.ref 55, Value.int 18 0, Value.int 0 0, Value.ref 67, Value.int 20 0, Value.int 0 0, Value.ref 74, Value.int 23 0, Value.int 0 0, Value.ref 81] }
noncomputable def sx118 (P : Params) : Obj :=
  { cls := Value.type "tuple", data := Data.seq #[] }
noncomputable def sx119 (P : Params) : Obj :=
  { cls := Value.type "builtin_function_or_method", data := Data.fields #[Value.builtin "type.__prepare__", Value.type "type"] }
noncomputable def sx120 (P : Params) : Obj :=
  { cls := Value.type "dict", data := Data.dict #[{ hash := PyData.keyHash P (Str.ofString "__module__"), key := Value.str (Str.ofString "__module__") 279, val := Value.str (Str.ofString "paperhold.bits") 252 }, { hash := PyData.keyHash P (Str.ofString "__qualname__"), key := Value.str (Str.ofString "__qualname__") 281, val := Value.str (Str.ofString "HighBitsIn") 280 }, { hash := PyData.keyHash P (Str.ofString "__firstlineno__"), key := Value.str (Str.ofString "__firstlineno__") 283, val := Value.int 23 282 }, { hash := PyData.keyHash P (Str.ofString "__init__"), key := Value.str (Str.ofString "__init__") 291, val := Value.ref 89 }, { hash := PyData.keyHash P (Str.ofString "left"), key := Value.str (Str.ofString "left") 298, val := Value.ref 96 }, { hash := PyData.keyHash P (Str.ofString "take"), key := Value.str (Str.ofString "take") 307, val := Value.ref 103 }, { hash := PyData.keyHash P (Str.ofString "align"), key := Value.str (Str.ofString "align") 314, val := Value.ref 110 }, { hash := PyData.keyHash P (Str.ofString "__static_attributes__"), key := Value.str (Str.ofString "__static_attributes__") 319, val := Value.ref 111 }] 8 }
noncomputable def sx121 (P : Params) : Obj :=
  { cls := Value.type "tuple", data := Data.seq #[] }
noncomputable def sx122 (P : Params) : Obj :=
  { cls := Value.none, data := Data.fields #[Value.int 25 0, Value.int 4 0, Value.ref 88, Value.int 31 0, Value.int 4 0, Value.ref 95, Value.int 34 0, Value.int 4 0, Value.ref 102, Value.int 46 0, Value.int 4 0, Value.ref 109] }
noncomputable def sx123 (P : Params) : Obj :=
  { cls := Value.type "code", data := Data.fields #[Value.str (Str.ofString "HighBitsIn") 274, Value.str (Str.ofString "HighBitsIn") 275, Value.str (Str.ofString "/claim/cut.py") 276, Value.int 23 0, Value.int 0 0, Value.int 0 0, Value.int 0 0, Value.int 0 0, Value.ref 79, Value.bool false, Value.int 181 0, Value.ref 80, Value.none, Value.none, Value.none, Value.none, Value.int 277 0, Value.int 23 0, Value.str (Str.ofString "/claim/cut.py") 278] }
noncomputable def sx124 (P : Params) : Obj :=
  { cls := Value.type "frame", slots := #[some (Value.ref 81), some (Value.ref 3), some (Value.ref 78), none, some (Value.str (Str.ofString "paperhold.bits") 252), none, some (Value.ref 0)] }
noncomputable def sx126 (P : Params) : Obj :=
  { cls := Value.none, data := Data.fields #[] }
noncomputable def sx133 (P : Params) : Obj :=
  { cls := Value.none, data := Data.fields #[] }
noncomputable def sx140 (P : Params) : Obj :=
  { cls := Value.none, data := Data.fields #[] }
noncomputable def sx147 (P : Params) : Obj :=
  { cls := Value.none, data := Data.fields #[] }
noncomputable def sx158 (P : Params) : Obj :=
  { cls := Value.type "super", data := Data.fields #[Value.ref 113, Value.ref 113, Value.ref 113] }
noncomputable def sx159 (P : Params) : Obj :=
  { cls := Value.type "builtin_function_or_method", data := Data.fields #[Value.builtin "object.__init_subclass__", Value.ref 113] }
noncomputable def sx160 (P : Params) : Obj :=
  { cls := Value.type "dict", data := Data.dict #[{ hash := PyData.keyHash P (Str.ofString "__name__"), key := Value.str (Str.ofString "__name__") 165, val := Value.str (Str.ofString "paperhold.lzw") 380 }, { hash := PyData.keyHash P (Str.ofString "__doc__"), key := Value.str (Str.ofString "__doc__") 166, val := Value.none }, { hash := PyData.keyHash P (Str.ofString "__package__"), key := Value.str (Str.ofString "__package__") 167, val := Value.none }, { hash := PyData.keyHash P (Str.ofString "__loader__"), key := Value.str (Str.ofString "__loader__") 168, val := Value.builtin "__main__.__loader__#opaque" }, { hash := PyData.keyHash P (Str.ofString "__spec__"), key := Value.str (Str.ofString "__spec__") 169, val := Value.none }, { hash := PyData.keyHash P (Str.ofString "__annotations__"), key := Value.str (Str.ofString "__annotations__") 170, val := Value.ref 6 }, { hash := PyData.keyHash P (Str.ofString "__builtins__"), key := Value.str (Str.ofString "__builtins__") 171, val := Value.ref 4 }, { hash := PyData.keyHash P (Str.ofString "__file__"), key := Value.str (Str.ofString "__file__") 173, val := Value.str (Str.ofString "/claim/cut.py") 172 }, { hash := PyData.keyHash P (Str.ofString "__cached__"), key := Value.str (Str.ofString "__cached__") 174, val := Value.none }, { hash := PyData.keyHash P (Str.ofString "_wall"), key := Value.str (Str.ofString "_wall") 193, val := Value.ref 21 }, { hash := PyData.keyHash P (Str.ofString "PaperError"), key := Value.str (Str.ofString "PaperError") 235, val := Value.ref 46 }, { hash := PyData.keyHash P (Str.ofString "FilterFault"), key := Value.str (Str.ofString "FilterFault") 251, val := Value.ref 59 }, { hash := PyData.keyHash P (Str.ofString "OCTET"), key := Value.str (Str.ofString "OCTET") 255, val := Value.int 8 254 }, { hash := PyData.keyHash P (Str.ofString "low_bits"), key := Value.str (Str.ofString "low_bits") 263, val := Value.ref 68 }, { hash := PyData.keyHash P (Str.ofString "check_fit"), key := Value.str (Str.ofString "check_fit") 271, val := Value.ref 75 }, { hash := PyData.keyHash P (Str.ofString "HighBitsIn"), key := Value.str (Str.ofString "HighBitsIn") 326, val := Value.ref 113 }, { hash := PyData.keyHash P (Str.ofString "HighBitsOut"), key := Value.str (Str.ofString "HighBitsOut") 379, val := Value.ref 155 }, { hash := PyData.keyHash P (Str.ofString "BITS"), key := Value.str (Str.ofString "BITS") 383, val := Value.int 8 382 }, { hash := PyData.keyHash P (Str.ofString "WIDEST"), key := Value.str (Str.ofString "WIDEST") 385, val := Value.int 12 384 }] 19 }
noncomputable def sx161 (P : Params) : Obj :=
  { cls := Value.none, data := Data.fields #[Value.int 1 0, Value.int 0 0, Value.ref 20, Value.int 5 0, Value.int 0 0, Value.ref 27, Value.int 14 0, Value.int 0 0, Value.ref 55, Value.int 18 0, Value.int 0 0, Value.ref 67, Value.int 20 0, Value.int 0 0, Value.ref 74, Value.int 23 0, Value.int 0 0, Value.ref 81, Value.int 48 0, Value.int 0 0, Value.ref 123] }
noncomputable def sx162 (P : Params) : Obj :=
  { cls := Value.type "tuple", data := Data.seq #[] }
noncomputable def sx163 (P : Params) : Obj :=
  { cls := Value.type "builtin_function_or_method", data := Data.fields #[Value.builtin "type.__prepare__", Value.type "type"] }
noncomputable def sx164 (P : Params) : Obj :=
  { cls := Value.type "dict", data := Data.dict #[{ hash := PyData.keyHash P (Str.ofString "__module__"), key := Value.str (Str.ofString "__module__") 334, val := Value.str (Str.ofString "paperhold.bits") 252 }, { hash := PyData.keyHash P (Str.ofString "__qualname__"), key := Value.str (Str.ofString "__qualname__") 336, val := Value.str (Str.ofString "HighBitsOut") 335 }, { hash := PyData.keyHash P (Str.ofString "__firstlineno__"), key := Value.str (Str.ofString "__firstlineno__") 338, val := Value.int 48 337 }, { hash := PyData.keyHash P (Str.ofString "__init__"), key := Value.str (Str.ofString "__init__") 345, val := Value.ref 131 }, { hash := PyData.keyHash P (Str.ofString "put"), key := Value.str (Str.ofString "put") 354, val := Value.ref 138 }, { hash := PyData.keyHash P (Str.ofString "align"), key := Value.str (Str.ofString "align") 361, val := Value.ref 145 }, { hash := PyData.keyHash P (Str.ofString "octets"), key := Value.str (Str.ofString "octets") 368, val := Value.ref 152 }, { hash := PyData.keyHash P (Str.ofString "__static_attributes__"), key := Value.str (Str.ofString "__static_attributes__") 372, val := Value.ref 153 }] 8 }
noncomputable def sx165 (P : Params) : Obj :=
  { cls := Value.type "tuple", data := Data.seq #[] }
noncomputable def sx166 (P : Params) : Obj :=
  { cls := Value.none, data := Data.fields #[Value.int 50 0, Value.int 4 0, Value.ref 130, Value.int 55 0, Value.int 4 0, Value.ref 137, Value.int 64 0, Value.int 4 0, Value.ref 144, Value.int 67 0, Value.int 4 0, Value.ref 151] }
noncomputable def sx167 (P : Params) : Obj :=
  { cls := Value.type "code", data := Data.fields #[Value.str (Str.ofString "HighBitsOut") 329, Value.str (Str.ofString "HighBitsOut") 330, Value.str (Str.ofString "/claim/cut.py") 331, Value.int 48 0, Value.int 0 0, Value.int 0 0, Value.int 0 0, Value.int 0 0, Value.ref 121, Value.bool false, Value.int 181 0, Value.ref 122, Value.none, Value.none, Value.none, Value.none, Value.int 332 0, Value.int 48 0, Value.str (Str.ofString "/claim/cut.py") 333] }
noncomputable def sx168 (P : Params) : Obj :=
  { cls := Value.type "frame", slots := #[some (Value.ref 123), some (Value.ref 3), some (Value.ref 120), none, some (Value.str (Str.ofString "paperhold.bits") 252), none, some (Value.ref 0)] }
noncomputable def sx170 (P : Params) : Obj :=
  { cls := Value.none, data := Data.fields #[] }
noncomputable def sx177 (P : Params) : Obj :=
  { cls := Value.none, data := Data.fields #[] }
noncomputable def sx184 (P : Params) : Obj :=
  { cls := Value.none, data := Data.fields #[] }
noncomputable def sx191 (P : Params) : Obj :=
  { cls := Value.none, data := Data.fields #[] }
noncomputable def sx202 (P : Params) : Obj :=
  { cls := Value.type "super", data := Data.fields #[Value.ref 155, Value.ref 155, Value.ref 155] }
noncomputable def sx203 (P : Params) : Obj :=
  { cls := Value.type "builtin_function_or_method", data := Data.fields #[Value.builtin "object.__init_subclass__", Value.ref 155] }
noncomputable def sx204 (P : Params) : Obj :=
  { cls := Value.type "dict", data := Data.dict #[{ hash := PyData.keyHash P (Str.ofString "__name__"), key := Value.str (Str.ofString "__name__") 165, val := Value.str (Str.ofString "paperhold.lzw") 380 }, { hash := PyData.keyHash P (Str.ofString "__doc__"), key := Value.str (Str.ofString "__doc__") 166, val := Value.none }, { hash := PyData.keyHash P (Str.ofString "__package__"), key := Value.str (Str.ofString "__package__") 167, val := Value.none }, { hash := PyData.keyHash P (Str.ofString "__loader__"), key := Value.str (Str.ofString "__loader__") 168, val := Value.builtin "__main__.__loader__#opaque" }, { hash := PyData.keyHash P (Str.ofString "__spec__"), key := Value.str (Str.ofString "__spec__") 169, val := Value.none }, { hash := PyData.keyHash P (Str.ofString "__annotations__"), key := Value.str (Str.ofString "__annotations__") 170, val := Value.ref 6 }, { hash := PyData.keyHash P (Str.ofString "__builtins__"), key := Value.str (Str.ofString "__builtins__") 171, val := Value.ref 4 }, { hash := PyData.keyHash P (Str.ofString "__file__"), key := Value.str (Str.ofString "__file__") 173, val := Value.str (Str.ofString "/claim/cut.py") 172 }, { hash := PyData.keyHash P (Str.ofString "__cached__"), key := Value.str (Str.ofString "__cached__") 174, val := Value.none }, { hash := PyData.keyHash P (Str.ofString "_wall"), key := Value.str (Str.ofString "_wall") 193, val := Value.ref 21 }, { hash := PyData.keyHash P (Str.ofString "PaperError"), key := Value.str (Str.ofString "PaperError") 235, val := Value.ref 46 }, { hash := PyData.keyHash P (Str.ofString "FilterFault"), key := Value.str (Str.ofString "FilterFault") 251, val := Value.ref 59 }, { hash := PyData.keyHash P (Str.ofString "OCTET"), key := Value.str (Str.ofString "OCTET") 255, val := Value.int 8 254 }, { hash := PyData.keyHash P (Str.ofString "low_bits"), key := Value.str (Str.ofString "low_bits") 263, val := Value.ref 68 }, { hash := PyData.keyHash P (Str.ofString "check_fit"), key := Value.str (Str.ofString "check_fit") 271, val := Value.ref 75 }, { hash := PyData.keyHash P (Str.ofString "HighBitsIn"), key := Value.str (Str.ofString "HighBitsIn") 326, val := Value.ref 113 }, { hash := PyData.keyHash P (Str.ofString "HighBitsOut"), key := Value.str (Str.ofString "HighBitsOut") 379, val := Value.ref 155 }, { hash := PyData.keyHash P (Str.ofString "BITS"), key := Value.str (Str.ofString "BITS") 383, val := Value.int 8 382 }, { hash := PyData.keyHash P (Str.ofString "WIDEST"), key := Value.str (Str.ofString "WIDEST") 385, val := Value.int 12 384 }, { hash := PyData.keyHash P (Str.ofString "Sizes"), key := Value.str (Str.ofString "Sizes") 432, val := Value.ref 184 }] 20 }
noncomputable def sx205 (P : Params) : Obj :=
  { cls := Value.none, data := Data.fields #[Value.int 1 0, Value.int 0 0, Value.ref 20, Value.int 5 0, Value.int 0 0, Value.ref 27, Value.int 14 0, Value.int 0 0, Value.ref 55, Value.int 18 0, Value.int 0 0, Value.ref 67, Value.int 20 0, Value.int 0 0, Value.ref 74, Value.int 23 0, Value.int 0 0, Value.ref 81, Value.int 48 0, Value.int 0 0, Value.ref 123, Value.int 74 0, Value.int 0 0, Value.ref 165] }
noncomputable def sx206 (P : Params) : Obj :=
  { cls := Value.type "tuple", data := Data.seq #[] }
noncomputable def sx207 (P : Params) : Obj :=
  { cls := Value.type "builtin_function_or_method", data := Data.fields #[Value.builtin "type.__prepare__", Value.type "type"] }
noncomputable def sx208 (P : Params) : Obj :=
  { cls := Value.type "dict", data := Data.dict #[{ hash := PyData.keyHash P (Str.ofString "__module__"), key := Value.str (Str.ofString "__module__") 393, val := Value.str (Str.ofString "paperhold.lzw") 380 }, { hash := PyData.keyHash P (Str.ofString "__qualname__"), key := Value.str (Str.ofString "__qualname__") 395, val := Value.str (Str.ofString "Sizes") 394 }, { hash := PyData.keyHash P (Str.ofString "__firstlineno__"), key := Value.str (Str.ofString "__firstlineno__") 397, val := Value.int 74 396 }, { hash := PyData.keyHash P (Str.ofString "__init__"), key := Value.str (Str.ofString "__init__") 408, val := Value.ref 174 }, { hash := PyData.keyHash P (Str.ofString "width"), key := Value.str (Str.ofString "width") 417, val := Value.ref 181 }, { hash := PyData.keyHash P (Str.ofString "__static_attributes__"), key := Value.str (Str.ofString "__static_attributes__") 425, val := Value.ref 182 }] 6 }
noncomputable def sx209 (P : Params) : Obj :=
  { cls := Value.type "tuple", data := Data.seq #[] }
noncomputable def sx210 (P : Params) : Obj :=
  { cls := Value.none, data := Data.fields #[Value.int 76 0, Value.int 4 0, Value.ref 173, Value.int 85 0, Value.int 4 0, Value.ref 180] }
noncomputable def sx211 (P : Params) : Obj :=
  { cls := Value.type "code", data := Data.fields #[Value.str (Str.ofString "Sizes") 388, Value.str (Str.ofString "Sizes") 389, Value.str (Str.ofString "/claim/cut.py") 390, Value.int 74 0, Value.int 0 0, Value.int 0 0, Value.int 0 0, Value.int 0 0, Value.ref 163, Value.bool false, Value.int 181 0, Value.ref 164, Value.none, Value.none, Value.none, Value.none, Value.int 391 0, Value.int 74 0, Value.str (Str.ofString "/claim/cut.py") 392] }
noncomputable def sx212 (P : Params) : Obj :=
  { cls := Value.type "frame", slots := #[some (Value.ref 165), some (Value.ref 3), some (Value.ref 162), none, some (Value.str (Str.ofString "paperhold.lzw") 380), none, some (Value.ref 0)] }
noncomputable def sx215 (P : Params) : Obj :=
  { cls := Value.none, data := Data.fields #[] }
noncomputable def sx222 (P : Params) : Obj :=
  { cls := Value.none, data := Data.fields #[] }
noncomputable def sx233 (P : Params) : Obj :=
  { cls := Value.type "super", data := Data.fields #[Value.ref 184, Value.ref 184, Value.ref 184] }
noncomputable def sx234 (P : Params) : Obj :=
  { cls := Value.type "builtin_function_or_method", data := Data.fields #[Value.builtin "object.__init_subclass__", Value.ref 184] }
noncomputable def sx235 (P : Params) : Obj :=
  { cls := Value.type "dict", data := Data.dict #[{ hash := PyData.keyHash P (Str.ofString "__name__"), key := Value.str (Str.ofString "__name__") 165, val := Value.str (Str.ofString "paperhold.lzw") 380 }, { hash := PyData.keyHash P (Str.ofString "__doc__"), key := Value.str (Str.ofString "__doc__") 166, val := Value.none }, { hash := PyData.keyHash P (Str.ofString "__package__"), key := Value.str (Str.ofString "__package__") 167, val := Value.none }, { hash := PyData.keyHash P (Str.ofString "__loader__"), key := Value.str (Str.ofString "__loader__") 168, val := Value.builtin "__main__.__loader__#opaque" }, { hash := PyData.keyHash P (Str.ofString "__spec__"), key := Value.str (Str.ofString "__spec__") 169, val := Value.none }, { hash := PyData.keyHash P (Str.ofString "__annotations__"), key := Value.str (Str.ofString "__annotations__") 170, val := Value.ref 6 }, { hash := PyData.keyHash P (Str.ofString "__builtins__"), key := Value.str (Str.ofString "__builtins__") 171, val := Value.ref 4 }, { hash := PyData.keyHash P (Str.ofString "__file__"), key := Value.str (Str.ofString "__file__") 173, val := Value.str (Str.ofString "/claim/cut.py") 172 }, { hash := PyData.keyHash P (Str.ofString "__cached__"), key := Value.str (Str.ofString "__cached__") 174, val := Value.none }, { hash := PyData.keyHash P (Str.ofString "_wall"), key := Value.str (Str.ofString "_wall") 193, val := Value.ref 21 }, { hash := PyData.keyHash P (Str.ofString "PaperError"), key := Value.str (Str.ofString "PaperError") 235, val := Value.ref 46 }, { hash := PyData.keyHash P (Str.ofString "FilterFault"), key := Value.str (Str.ofString "FilterFault") 251, val := Value.ref 59 }, { hash := PyData.keyHash P (Str.ofString "OCTET"), key := Value.str (Str.ofString "OCTET") 255, val := Value.int 8 254 }, { hash := PyData.keyHash P (Str.ofString "low_bits"), key := Value.str (Str.ofString "low_bits") 263, val := Value.ref 68 }, { hash := PyData.keyHash P (Str.ofString "check_fit"), key := Value.str (Str.ofString "check_fit") 271, val := Value.ref 75 }, { hash := PyData.keyHash P (Str.ofString "HighBitsIn"), key := Value.str (Str.ofString "HighBitsIn") 326, val := Value.ref 113 }, { hash := PyData.keyHash P (Str.ofString "HighBitsOut"), key := Value.str (Str.ofString "HighBitsOut") 379, val := Value.ref 155 }, { hash := PyData.keyHash P (Str.ofString "BITS"), key := Value.str (Str.ofString "BITS") 383, val := Value.int 8 382 }, { hash := PyData.keyHash P (Str.ofString "WIDEST"), key := Value.str (Str.ofString "WIDEST") 385, val := Value.int 12 384 }, { hash := PyData.keyHash P (Str.ofString "Sizes"), key := Value.str (Str.ofString "Sizes") 432, val := Value.ref 184 }, { hash := PyData.keyHash P (Str.ofString "Count"), key := Value.str (Str.ofString "Count") 478, val := Value.ref 219 }, { hash := PyData.keyHash P (Str.ofString "write_codes"), key := Value.str (Str.ofString "write_codes") 489, val := Value.ref 230 }, { hash := PyData.keyHash P (Str.ofString "read_codes"), key := Value.str (Str.ofString "read_codes") 501, val := Value.ref 237 }, { hash := PyData.keyHash P (Str.ofString "packed_codes"), key := Value.str (Str.ofString "packed_codes") 514, val := Value.ref 244 }] 24 }
noncomputable def sx236 (P : Params) : Obj :=
  { cls := Value.none, data := Data.fields #[Value.int 1 0, Value.int 0 0, Value.ref 20, Value.int 5 0, Value.int 0 0, Value.ref 27, Value.int 14 0, Value.int 0 0, Value.ref 55, Value.int 18 0, Value.int 0 0, Value.ref 67, Value.int 20 0, Value.int 0 0, Value.ref 74, Value.int 23 0, Value.int 0 0, Value.ref 81, Value.int 48 0, Value.int 0 0, Value.ref 123, Value.int 74 0, Value.int 0 0, Value.ref 165, Value.int 88 0, Value.int 0 0, Value.ref 194, Value.int 106 0, Value.int 0 0, Value.ref 229, Value.int 113 0, Value.int 0 0, Value.ref 236, Value.int 123 0, Value.int 0 0, Value.ref 243] }
noncomputable def sx237 (P : Params) : Obj :=
  { cls := Value.type "tuple", data := Data.seq #[] }
noncomputable def sx238 (P : Params) : Obj :=
  { cls := Value.type "builtin_function_or_method", data := Data.fields #[Value.builtin "type.__prepare__", Value.type "type"] }
noncomputable def sx239 (P : Params) : Obj :=
  { cls := Value.type "dict", data := Data.dict #[{ hash := PyData.keyHash P (Str.ofString "__module__"), key := Value.str (Str.ofString "__module__") 440, val := Value.str (Str.ofString "paperhold.lzw") 380 }, { hash := PyData.keyHash P (Str.ofString "__qualname__"), key := Value.str (Str.ofString "__qualname__") 442, val := Value.str (Str.ofString "Count") 441 }, { hash := PyData.keyHash P (Str.ofString "__firstlineno__"), key := Value.str (Str.ofString "__firstlineno__") 444, val := Value.int 88 443 }, { hash := PyData.keyHash P (Str.ofString "__init__"), key := Value.str (Str.ofString "__init__") 452, val := Value.ref 202 }, { hash := PyData.keyHash P (Str.ofString "width"), key := Value.str (Str.ofString "width") 459, val := Value.ref 209 }, { hash := PyData.keyHash P (Str.ofString "passed"), key := Value.str (Str.ofString "passed") 467, val := Value.ref 216 }, { hash := PyData.keyHash P (Str.ofString "__static_attributes__"), key := Value.str (Str.ofString "__static_attributes__") 471, val := Value.ref 217 }] 7 }
noncomputable def sx240 (P : Params) : Obj :=
  { cls := Value.type "tuple", data := Data.seq #[] }
noncomputable def sx241 (P : Params) : Obj :=
  { cls := Value.none, data := Data.fields #[Value.int 90 0, Value.int 4 0, Value.ref 201, Value.int 95 0, Value.int 4 0, Value.ref 208, Value.int 98 0, Value.int 4 0, Value.ref 215] }
noncomputable def sx242 (P : Params) : Obj :=
  { cls := Value.type "code", data := Data.fields #[Value.str (Str.ofString "Count") 435, Value.str (Str.ofString "Count") 436, Value.str (Str.ofString "/claim/cut.py") 437, Value.int 88 0, Value.int 0 0, Value.int 0 0, Value.int 0 0, Value.int 0 0, Value.ref 192, Value.bool false, Value.int 181 0, Value.ref 193, Value.none, Value.none, Value.none, Value.none, Value.int 438 0, Value.int 88 0, Value.str (Str.ofString "/claim/cut.py") 439] }
noncomputable def sx243 (P : Params) : Obj :=
  { cls := Value.type "frame", slots := #[some (Value.ref 194), some (Value.ref 3), some (Value.ref 191), none, some (Value.str (Str.ofString "paperhold.lzw") 380), none, some (Value.ref 0)] }
noncomputable def sx245 (P : Params) : Obj :=
  { cls := Value.none, data := Data.fields #[] }
noncomputable def sx252 (P : Params) : Obj :=
  { cls := Value.none, data := Data.fields #[] }
noncomputable def sx259 (P : Params) : Obj :=
  { cls := Value.none, data := Data.fields #[] }
noncomputable def sx270 (P : Params) : Obj :=
  { cls := Value.type "super", data := Data.fields #[Value.ref 219, Value.ref 219, Value.ref 219] }
noncomputable def sx271 (P : Params) : Obj :=
  { cls := Value.type "builtin_function_or_method", data := Data.fields #[Value.builtin "object.__init_subclass__", Value.ref 219] }
noncomputable def sx273 (P : Params) : Obj :=
  { cls := Value.none, data := Data.fields #[] }
noncomputable def sx280 (P : Params) : Obj :=
  { cls := Value.none, data := Data.fields #[] }
noncomputable def sx287 (P : Params) : Obj :=
  { cls := Value.none, data := Data.fields #[] }
noncomputable def sx294 (P : Params) : Obj :=
  { cls := Value.none, data := Data.fields #[Value.int 1 0, Value.int 0 0, Value.ref 20, Value.int 5 0, Value.int 0 0, Value.ref 27, Value.int 14 0, Value.int 0 0, Value.ref 55, Value.int 18 0, Value.int 0 0, Value.ref 67, Value.int 20 0, Value.int 0 0, Value.ref 74, Value.int 23 0, Value.int 0 0, Value.ref 81, Value.int 48 0, Value.int 0 0, Value.ref 123, Value.int 74 0, Value.int 0 0, Value.ref 165, Value.int 88 0, Value.int 0 0, Value.ref 194, Value.int 106 0, Value.int 0 0, Value.ref 229, Value.int 113 0, Value.int 0 0, Value.ref 236, Value.int 123 0, Value.int 0 0, Value.ref 243, Value.int 146 0, Value.int 0 0, Value.ref 250, Value.int 155 0, Value.int 0 0, Value.ref 257, Value.int 172 0, Value.int 0 0, Value.ref 265, Value.int 175 0, Value.int 0 0, Value.ref 273, Value.int 179 0, Value.int 0 0, Value.ref 278, Value.int 189 0, Value.int 0 0, Value.ref 283] }
noncomputable def sx296 (P : Params) : Obj :=
  { cls := Value.none, data := Data.fields #[] }
noncomputable def sx303 (P : Params) : Obj :=
  { cls := Value.none, data := Data.fields #[] }
noncomputable def sx311 (P : Params) : Obj :=
  { cls := Value.none, data := Data.fields #[] }
noncomputable def sx319 (P : Params) : Obj :=
  { cls := Value.none, data := Data.fields #[] }
noncomputable def sx326 (P : Params) : Obj :=
  { cls := Value.none, data := Data.fields #[] }
noncomputable def sx331 (P : Params) : Obj :=
  { cls := Value.none, data := Data.fields #[] }
noncomputable def xtree_47 (P : Params) : BT :=
  (.node (PySem.W.boot_o_0 P) (.node (PySem.W.boot_o_1 P) (.node (PySem.W.boot_o_3 P) (.node (PySem.W.boot_o_7 P) .nil .nil) (.node (sx43 P) .nil .nil)) (.node (PySem.W.boot_o_5 P) (.node (PySem.W.boot_o_9 P) .nil .nil) (.node (sx45 P) .nil .nil))) (.node (PySem.W.boot_o_2 P) (.node (PySem.W.boot_o_4 P) (.node (PySem.W.boot_o_8 P) .nil .nil) (.node (sx44 P) .nil .nil)) (.node (PySem.W.boot_o_6 P) (.node (PySem.W.boot_o_10 P) .nil .nil) (.node (sx46 P) .nil .nil))))
noncomputable def xtree_86 (P : Params) : BT :=
  (.node (PySem.W.boot_o_0 P) (.node (PySem.W.boot_o_1 P) (.node (sx50 P) (.node (PySem.W.boot_o_7 P) (.node (fx P 2) (.node (sx68 P) .nil .nil) (.node (fx P 22) .nil .nil)) (.node (sx60 P) (.node (fx P 15) .nil .nil) .nil)) (.node (sx43 P) (.node (husk (fx P 6)) (.node (fx P 12) .nil .nil) .nil) (.node (sx64 P) (.node (fx P 18) .nil .nil) .nil))) (.node (PySem.W.boot_o_5 P) (.node (PySem.W.boot_o_9 P) (.node (fx P 3) (.node (fx P 11) .nil .nil) (.node (sx86 P) .nil .nil)) (.node (sx62 P) (.node (husk (fx P 18)) .nil .nil) .nil)) (.node (sx45 P) (.node (fx P 6) (.node (fx P 14) .nil .nil) .nil) (.node (fx P 8) (.node (fx P 20) .nil .nil) .nil)))) (.node (fx P 0) (.node (PySem.W.boot_o_4 P) (.node (PySem.W.boot_o_8 P) (.node (sx53 P) (.node (fx P 10) .nil .nil) (.node (sx85 P) .nil .nil)) (.node (sx61 P) (.node (fx P 16) .nil .nil) .nil)) (.node (sx51 P) (.node (fx P 5) (.node (fx P 13) .nil .nil) .nil) (.node (sx65 P) (.node (fx P 19) .nil .nil) .nil))) (.node (PySem.W.boot_o_6 P) (.node (PySem.W.boot_o_10 P) (.node (fx P 4) (.node (husk (fx P 13)) .nil .nil) .nil) (.node (sx63 P) (.node (fx P 17) .nil .nil) .nil)) (.node (sx46 P) (.node (fx P 7) (.node (sx75 P) .nil .nil) .nil) (.node (fx P 9) (.node (sx83 P) .nil .nil) .nil)))))
noncomputable def xtree_115 (P : Params) : BT :=
  (.node (PySem.W.boot_o_0 P) (.node (PySem.W.boot_o_1 P) (.node (sx87 P) (.node (PySem.W.boot_o_7 P) (.node (fx P 2) (.node (sx68 P) (.node (sx103 P) .nil .nil) .nil) (.node (fx P 22) .nil .nil)) (.node (sx60 P) (.node (fx P 15) (.node (fx P 33) .nil .nil) .nil) (.node (sx95 P) .nil .nil))) (.node (sx43 P) (.node (husk (fx P 6)) (.node (fx P 12) (.node (fx P 30) .nil .nil) .nil) (.node (sx91 P) .nil .nil)) (.node (sx64 P) (.node (fx P 18) (.node (fx P 36) .nil .nil) .nil) (.node (fx P 26) .nil .nil)))) (.node (PySem.W.boot_o_5 P) (.node (PySem.W.boot_o_9 P) (.node (fx P 3) (.node (fx P 11) (.node (fx P 29) .nil .nil) .nil) (.node (sx86 P) .nil .nil)) (.node (sx62 P) (.node (husk (fx P 18)) (.node (husk (fx P 36)) .nil .nil) .nil) (.node (fx P 24) .nil .nil))) (.node (sx45 P) (.node (fx P 6) (.node (fx P 14) (.node (fx P 32) .nil .nil) .nil) (.node (sx93 P) .nil .nil)) (.node (fx P 8) (.node (fx P 20) .nil .nil) (.node (sx101 P) .nil .nil))))) (.node (fx P 0) (.node (PySem.W.boot_o_4 P) (.node (PySem.W.boot_o_8 P) (.node (sx53 P) (.node (fx P 10) (.node (fx P 28) .nil .nil) .nil) (.node (sx85 P) .nil .nil)) (.node (sx61 P) (.node (fx P 16) (.node (fx P 34) .nil .nil) .nil) (.node (sx96 P) .nil .nil))) (.node (sx88 P) (.node (fx P 5) (.node (fx P 13) (.node (fx P 31) .nil .nil) .nil) (.node (sx92 P) .nil .nil)) (.node (sx65 P) (.node (fx P 19) .nil .nil) (.node (sx100 P) .nil .nil)))) (.node (PySem.W.boot_o_6 P) (.node (PySem.W.boot_o_10 P) (.node (fx P 4) (.node (husk (fx P 13)) (.node (husk (fx P 31)) .nil .nil) .nil) (.node (fx P 23) .nil .nil)) (.node (sx63 P) (.node (fx P 17) (.node (fx P 35) .nil .nil) .nil) (.node (fx P 25) .nil .nil))) (.node (sx46 P) (.node (fx P 7) (.node (sx75 P) (.node (sx110 P) .nil .nil) .nil) (.node (sx94 P) .nil .nil)) (.node (fx P 9) (.node (fx P 21) .nil .nil) (.node (fx P 27) .nil .nil))))))
noncomputable def xtree_159 (P : Params) : BT :=
  (.node (PySem.W.boot_o_0 P) (.node (PySem.W.boot_o_1 P) (.node (sx116 P) (.node (PySem.W.boot_o_7 P) (.node (fx P 2) (.node (sx68 P) (.node (sx103 P) .nil .nil) (.node (fx P 45) .nil .nil)) (.node (fx P 22) (.node (sx121 P) .nil .nil) (.node (fx P 57) .nil .nil))) (.node (sx60 P) (.node (fx P 15) (.node (fx P 33) .nil .nil) (.node (fx P 51) .nil .nil)) (.node (sx95 P) (.node (husk (fx P 41)) .nil .nil) .nil))) (.node (sx43 P) (.node (husk (fx P 6)) (.node (fx P 12) (.node (fx P 30) .nil .nil) (.node (fx P 48) .nil .nil)) (.node (sx91 P) (.node (fx P 37) .nil .nil) (.node (fx P 61) .nil .nil))) (.node (sx64 P) (.node (fx P 18) (.node (fx P 36) .nil .nil) (.node (fx P 54) .nil .nil)) (.node (fx P 26) (.node (sx133 P) .nil .nil) .nil)))) (.node (PySem.W.boot_o_5 P) (.node (PySem.W.boot_o_9 P) (.node (fx P 3) (.node (fx P 11) (.node (fx P 29) .nil .nil) (.node (fx P 47) .nil .nil)) (.node (sx86 P) (.node (sx123 P) .nil .nil) (.node (fx P 59) .nil .nil))) (.node (sx62 P) (.node (husk (fx P 18)) (.node (husk (fx P 36)) .nil .nil) (.node (sx147 P) .nil .nil)) (.node (fx P 24) (.node (fx P 41) .nil .nil) .nil))) (.node (sx45 P) (.node (fx P 6) (.node (fx P 14) (.node (fx P 32) .nil .nil) (.node (husk (fx P 51)) .nil .nil)) (.node (sx93 P) (.node (fx P 38) .nil .nil) (.node (sx159 P) .nil .nil))) (.node (fx P 8) (.node (fx P 20) (.node (sx119 P) .nil .nil) (.node (fx P 55) .nil .nil)) (.node (sx101 P) (.node (fx P 44) .nil .nil) .nil))))) (.node (fx P 0) (.node (PySem.W.boot_o_4 P) (.node (PySem.W.boot_o_8 P) (.node (sx53 P) (.node (fx P 10) (.node (fx P 28) .nil .nil) (.node (fx P 46) .nil .nil)) (.node (sx85 P) (.node (sx122 P) .nil .nil) (.node (fx P 58) .nil .nil))) (.node (sx61 P) (.node (fx P 16) (.node (fx P 34) .nil .nil) (.node (fx P 52) .nil .nil)) (.node (sx96 P) (.node (fx P 40) .nil .nil) .nil))) (.node (sx117 P) (.node (fx P 5) (.node (fx P 13) (.node (fx P 31) .nil .nil) (.node (fx P 49) .nil .nil)) (.node (sx92 P) (.node (sx126 P) .nil .nil) (.node (sx158 P) .nil .nil))) (.node (sx65 P) (.node (fx P 19) (.node (sx118 P) .nil .nil) (.node (husk (fx P 56)) .nil .nil)) (.node (sx100 P) (.node (fx P 43) .nil .nil) .nil)))) (.node (PySem.W.boot_o_6 P) (.node (PySem.W.boot_o_10 P) (.node (fx P 4) (.node (husk (fx P 13)) (.node (husk (fx P 31)) .nil .nil) (.node (sx140 P) .nil .nil)) (.node (fx P 23) (.node (sx124 P) .nil .nil) (.node (fx P 60) .nil .nil))) (.node (sx63 P) (.node (fx P 17) (.node (fx P 35) .nil .nil) (.node (fx P 53) .nil .nil)) (.node (fx P 25) (.node (fx P 42) .nil .nil) .nil))) (.node (sx46 P) (.node (fx P 7) (.node (sx75 P) (.node (sx110 P) .nil .nil) (.node (fx P 50) .nil .nil)) (.node (sx94 P) (.node (fx P 39) .nil .nil) .nil)) (.node (fx P 9) (.node (fx P 21) (.node (sx120 P) .nil .nil) (.node (fx P 56) .nil .nil)) (.node (fx P 27) (.node (husk (fx P 46)) .nil .nil) .nil))))))
noncomputable def xtree_203 (P : Params) : BT :=
  (.node (PySem.W.boot_o_0 P) (.node (PySem.W.boot_o_1 P) (.node (sx160 P) (.node (PySem.W.boot_o_7 P) (.node (fx P 2) (.node (sx68 P) (.node (sx103 P) (.node (fx P 63) .nil .nil) .nil) (.node (fx P 45) (.node (sx203 P) .nil .nil) .nil)) (.node (fx P 22) (.node (sx121 P) (.node (husk (fx P 76)) .nil .nil) .nil) (.node (fx P 57) .nil .nil))) (.node (sx60 P) (.node (fx P 15) (.node (fx P 33) (.node (fx P 69) .nil .nil) .nil) (.node (fx P 51) .nil .nil)) (.node (sx95 P) (.node (husk (fx P 41)) (.node (fx P 80) .nil .nil) .nil) (.node (sx163 P) .nil .nil)))) (.node (sx43 P) (.node (husk (fx P 6)) (.node (fx P 12) (.node (fx P 30) (.node (fx P 66) .nil .nil) .nil) (.node (fx P 48) .nil .nil)) (.node (sx91 P) (.node (fx P 37) (.node (sx191 P) .nil .nil) .nil) (.node (fx P 61) .nil .nil))) (.node (sx64 P) (.node (fx P 18) (.node (fx P 36) (.node (fx P 72) .nil .nil) .nil) (.node (fx P 54) .nil .nil)) (.node (fx P 26) (.node (sx133 P) (.node (fx P 84) .nil .nil) .nil) (.node (sx167 P) .nil .nil))))) (.node (PySem.W.boot_o_5 P) (.node (PySem.W.boot_o_9 P) (.node (fx P 3) (.node (fx P 11) (.node (fx P 29) (.node (husk (fx P 66)) .nil .nil) .nil) (.node (fx P 47) .nil .nil)) (.node (sx86 P) (.node (sx123 P) (.node (fx P 76) .nil .nil) .nil) (.node (fx P 59) .nil .nil))) (.node (sx62 P) (.node (husk (fx P 18)) (.node (husk (fx P 36)) (.node (fx P 70) .nil .nil) .nil) (.node (sx147 P) .nil .nil)) (.node (fx P 24) (.node (fx P 41) (.node (fx P 82) .nil .nil) .nil) (.node (sx165 P) .nil .nil)))) (.node (sx45 P) (.node (fx P 6) (.node (fx P 14) (.node (fx P 32) (.node (sx177 P) .nil .nil) .nil) (.node (husk (fx P 51)) .nil .nil)) (.node (sx93 P) (.node (fx P 38) (.node (fx P 79) .nil .nil) .nil) (.node (sx159 P) .nil .nil))) (.node (fx P 8) (.node (fx P 20) (.node (sx119 P) (.node (fx P 73) .nil .nil) .nil) (.node (fx P 55) .nil .nil)) (.node (sx101 P) (.node (fx P 44) (.node (fx P 86) .nil .nil) .nil) (.node (fx P 62) .nil .nil)))))) (.node (fx P 0) (.node (PySem.W.boot_o_4 P) (.node (PySem.W.boot_o_8 P) (.node (sx53 P) (.node (fx P 10) (.node (fx P 28) (.node (fx P 64) .nil .nil) .nil) (.node (fx P 46) .nil .nil)) (.node (sx85 P) (.node (sx122 P) (.node (fx P 75) .nil .nil) .nil) (.node (fx P 58) .nil .nil))) (.node (sx61 P) (.node (fx P 16) (.node (fx P 34) (.node (husk (fx P 71)) .nil .nil) .nil) (.node (fx P 52) .nil .nil)) (.node (sx96 P) (.node (fx P 40) (.node (fx P 81) .nil .nil) .nil) (.node (sx164 P) .nil .nil)))) (.node (sx161 P) (.node (fx P 5) (.node (fx P 13) (.node (fx P 31) (.node (fx P 67) .nil .nil) .nil) (.node (fx P 49) .nil .nil)) (.node (sx92 P) (.node (sx126 P) (.node (fx P 78) .nil .nil) .nil) (.node (sx158 P) .nil .nil))) (.node (sx65 P) (.node (fx P 19) (.node (sx118 P) (.node (sx184 P) .nil .nil) .nil) (.node (husk (fx P 56)) .nil .nil)) (.node (sx100 P) (.node (fx P 43) (.node (fx P 85) .nil .nil) .nil) (.node (sx168 P) .nil .nil))))) (.node (PySem.W.boot_o_6 P) (.node (PySem.W.boot_o_10 P) (.node (fx P 4) (.node (husk (fx P 13)) (.node (husk (fx P 31)) (.node (fx P 65) .nil .nil) .nil) (.node (sx140 P) .nil .nil)) (.node (fx P 23) (.node (sx124 P) (.node (fx P 77) .nil .nil) .nil) (.node (fx P 60) .nil .nil))) (.node (sx63 P) (.node (fx P 17) (.node (fx P 35) (.node (fx P 71) .nil .nil) .nil) (.node (fx P 53) .nil .nil)) (.node (fx P 25) (.node (fx P 42) (.node (fx P 83) .nil .nil) .nil) (.node (sx166 P) .nil .nil)))) (.node (sx46 P) (.node (fx P 7) (.node (sx75 P) (.node (sx110 P) (.node (fx P 68) .nil .nil) .nil) (.node (fx P 50) .nil .nil)) (.node (sx94 P) (.node (fx P 39) (.node (husk (fx P 81)) .nil .nil) .nil) (.node (sx162 P) .nil .nil))) (.node (fx P 9) (.node (fx P 21) (.node (sx120 P) (.node (fx P 74) .nil .nil) .nil) (.node (fx P 56) .nil .nil)) (.node (fx P 27) (.node (husk (fx P 46)) (.node (sx202 P) .nil .nil) .nil) (.node (sx170 P) .nil .nil)))))))
noncomputable def xtree_234 (P : Params) : BT :=
  (.node (PySem.W.boot_o_0 P) (.node (PySem.W.boot_o_1 P) (.node (sx204 P) (.node (PySem.W.boot_o_7 P) (.node (fx P 2) (.node (sx68 P) (.node (sx103 P) (.node (fx P 63) .nil .nil) .nil) (.node (fx P 45) (.node (sx203 P) .nil .nil) .nil)) (.node (fx P 22) (.node (sx121 P) (.node (husk (fx P 76)) .nil .nil) .nil) (.node (fx P 57) (.node (fx P 93) .nil .nil) .nil))) (.node (sx60 P) (.node (fx P 15) (.node (fx P 33) (.node (fx P 69) .nil .nil) .nil) (.node (fx P 51) (.node (fx P 87) .nil .nil) .nil)) (.node (sx95 P) (.node (husk (fx P 41)) (.node (fx P 80) .nil .nil) .nil) (.node (sx163 P) (.node (fx P 99) .nil .nil) .nil)))) (.node (sx43 P) (.node (husk (fx P 6)) (.node (fx P 12) (.node (fx P 30) (.node (fx P 66) .nil .nil) .nil) (.node (fx P 48) (.node (sx209 P) .nil .nil) .nil)) (.node (sx91 P) (.node (fx P 37) (.node (sx191 P) .nil .nil) .nil) (.node (fx P 61) (.node (husk (fx P 97)) .nil .nil) .nil))) (.node (sx64 P) (.node (fx P 18) (.node (fx P 36) (.node (fx P 72) .nil .nil) .nil) (.node (fx P 54) (.node (fx P 90) .nil .nil) .nil)) (.node (fx P 26) (.node (sx133 P) (.node (fx P 84) .nil .nil) .nil) (.node (sx167 P) (.node (sx233 P) .nil .nil) .nil))))) (.node (PySem.W.boot_o_5 P) (.node (PySem.W.boot_o_9 P) (.node (fx P 3) (.node (fx P 11) (.node (fx P 29) (.node (husk (fx P 66)) .nil .nil) .nil) (.node (fx P 47) (.node (sx207 P) .nil .nil) .nil)) (.node (sx86 P) (.node (sx123 P) (.node (fx P 76) .nil .nil) .nil) (.node (fx P 59) (.node (fx P 94) .nil .nil) .nil))) (.node (sx62 P) (.node (husk (fx P 18)) (.node (husk (fx P 36)) (.node (fx P 70) .nil .nil) .nil) (.node (sx147 P) (.node (sx215 P) .nil .nil) .nil)) (.node (fx P 24) (.node (fx P 41) (.node (fx P 82) .nil .nil) .nil) (.node (sx165 P) (.node (fx P 101) .nil .nil) .nil)))) (.node (sx45 P) (.node (fx P 6) (.node (fx P 14) (.node (fx P 32) (.node (sx177 P) .nil .nil) .nil) (.node (husk (fx P 51)) (.node (sx211 P) .nil .nil) .nil)) (.node (sx93 P) (.node (fx P 38) (.node (fx P 79) .nil .nil) .nil) (.node (sx159 P) (.node (fx P 97) .nil .nil) .nil))) (.node (fx P 8) (.node (fx P 20) (.node (sx119 P) (.node (fx P 73) .nil .nil) .nil) (.node (fx P 55) (.node (fx P 91) .nil .nil) .nil)) (.node (sx101 P) (.node (fx P 44) (.node (fx P 86) .nil .nil) .nil) (.node (fx P 62) .nil .nil)))))) (.node (fx P 0) (.node (PySem.W.boot_o_4 P) (.node (PySem.W.boot_o_8 P) (.node (sx53 P) (.node (fx P 10) (.node (fx P 28) (.node (fx P 64) .nil .nil) .nil) (.node (fx P 46) (.node (sx206 P) .nil .nil) .nil)) (.node (sx85 P) (.node (sx122 P) (.node (fx P 75) .nil .nil) .nil) (.node (fx P 58) (.node (sx222 P) .nil .nil) .nil))) (.node (sx61 P) (.node (fx P 16) (.node (fx P 34) (.node (husk (fx P 71)) .nil .nil) .nil) (.node (fx P 52) (.node (fx P 88) .nil .nil) .nil)) (.node (sx96 P) (.node (fx P 40) (.node (fx P 81) .nil .nil) .nil) (.node (sx164 P) (.node (fx P 100) .nil .nil) .nil)))) (.node (sx205 P) (.node (fx P 5) (.node (fx P 13) (.node (fx P 31) (.node (fx P 67) .nil .nil) .nil) (.node (fx P 49) (.node (sx210 P) .nil .nil) .nil)) (.node (sx92 P) (.node (sx126 P) (.node (fx P 78) .nil .nil) .nil) (.node (sx158 P) (.node (fx P 96) .nil .nil) .nil))) (.node (sx65 P) (.node (fx P 19) (.node (sx118 P) (.node (sx184 P) .nil .nil) .nil) (.node (husk (fx P 56)) (.node (husk (fx P 92)) .nil .nil) .nil)) (.node (sx100 P) (.node (fx P 43) (.node (fx P 85) .nil .nil) .nil) (.node (sx168 P) (.node (sx234 P) .nil .nil) .nil))))) (.node (PySem.W.boot_o_6 P) (.node (PySem.W.boot_o_10 P) (.node (fx P 4) (.node (husk (fx P 13)) (.node (husk (fx P 31)) (.node (fx P 65) .nil .nil) .nil) (.node (sx140 P) (.node (sx208 P) .nil .nil) .nil)) (.node (fx P 23) (.node (sx124 P) (.node (fx P 77) .nil .nil) .nil) (.node (fx P 60) (.node (fx P 95) .nil .nil) .nil))) (.node (sx63 P) (.node (fx P 17) (.node (fx P 35) (.node (fx P 71) .nil .nil) .nil) (.node (fx P 53) (.node (fx P 89) .nil .nil) .nil)) (.node (fx P 25) (.node (fx P 42) (.node (fx P 83) .nil .nil) .nil) (.node (sx166 P) (.node (fx P 102) .nil .nil) .nil)))) (.node (sx46 P) (.node (fx P 7) (.node (sx75 P) (.node (sx110 P) (.node (fx P 68) .nil .nil) .nil) (.node (fx P 50) (.node (sx212 P) .nil .nil) .nil)) (.node (sx94 P) (.node (fx P 39) (.node (husk (fx P 81)) .nil .nil) .nil) (.node (sx162 P) (.node (fx P 98) .nil .nil) .nil))) (.node (fx P 9) (.node (fx P 21) (.node (sx120 P) (.node (fx P 74) .nil .nil) .nil) (.node (fx P 56) (.node (fx P 92) .nil .nil) .nil)) (.node (fx P 27) (.node (husk (fx P 46)) (.node (sx202 P) .nil .nil) .nil) (.node (sx170 P) .nil .nil)))))))
noncomputable def xtree_292 (P : Params) : BT :=
  (.node (PySem.W.boot_o_0 P) (.node (PySem.W.boot_o_1 P) (.node (sx235 P) (.node (PySem.W.boot_o_7 P) (.node (fx P 2) (.node (sx68 P) (.node (sx103 P) (.node (fx P 63) .nil .nil) (.node (sx239 P) .nil .nil)) (.node (fx P 45) (.node (sx203 P) .nil .nil) (.node (sx271 P) .nil .nil))) (.node (fx P 22) (.node (sx121 P) (.node (husk (fx P 76)) .nil .nil) (.node (husk (fx P 112)) .nil .nil)) (.node (fx P 57) (.node (fx P 93) .nil .nil) (.node (sx287 P) .nil .nil)))) (.node (sx60 P) (.node (fx P 15) (.node (fx P 33) (.node (fx P 69) .nil .nil) (.node (fx P 105) .nil .nil)) (.node (fx P 51) (.node (fx P 87) .nil .nil) (.node (fx P 128) .nil .nil))) (.node (sx95 P) (.node (husk (fx P 41)) (.node (fx P 80) .nil .nil) (.node (fx P 116) .nil .nil)) (.node (sx163 P) (.node (fx P 99) .nil .nil) .nil)))) (.node (sx43 P) (.node (husk (fx P 6)) (.node (fx P 12) (.node (fx P 30) (.node (fx P 66) .nil .nil) (.node (sx243 P) .nil .nil)) (.node (fx P 48) (.node (sx209 P) .nil .nil) (.node (fx P 125) .nil .nil))) (.node (sx91 P) (.node (fx P 37) (.node (sx191 P) .nil .nil) (.node (sx259 P) .nil .nil)) (.node (fx P 61) (.node (husk (fx P 97)) .nil .nil) (.node (fx P 136) .nil .nil)))) (.node (sx64 P) (.node (fx P 18) (.node (fx P 36) (.node (fx P 72) .nil .nil) (.node (fx P 108) .nil .nil)) (.node (fx P 54) (.node (fx P 90) .nil .nil) (.node (husk (fx P 132)) .nil .nil))) (.node (fx P 26) (.node (sx133 P) (.node (fx P 84) .nil .nil) (.node (fx P 120) .nil .nil)) (.node (sx167 P) (.node (sx233 P) .nil .nil) .nil))))) (.node (PySem.W.boot_o_5 P) (.node (PySem.W.boot_o_9 P) (.node (fx P 3) (.node (fx P 11) (.node (fx P 29) (.node (husk (fx P 66)) .nil .nil) (.node (sx241 P) .nil .nil)) (.node (fx P 47) (.node (sx207 P) .nil .nil) (.node (sx273 P) .nil .nil))) (.node (sx86 P) (.node (sx123 P) (.node (fx P 76) .nil .nil) (.node (fx P 112) .nil .nil)) (.node (fx P 59) (.node (fx P 94) .nil .nil) (.node (fx P 135) .nil .nil)))) (.node (sx62 P) (.node (husk (fx P 18)) (.node (husk (fx P 36)) (.node (fx P 70) .nil .nil) (.node (fx P 106) .nil .nil)) (.node (sx147 P) (.node (sx215 P) .nil .nil) (.node (fx P 129) .nil .nil))) (.node (fx P 24) (.node (fx P 41) (.node (fx P 82) .nil .nil) (.node (fx P 118) .nil .nil)) (.node (sx165 P) (.node (fx P 101) .nil .nil) .nil)))) (.node (sx45 P) (.node (fx P 6) (.node (fx P 14) (.node (fx P 32) (.node (sx177 P) .nil .nil) (.node (sx245 P) .nil .nil)) (.node (husk (fx P 51)) (.node (sx211 P) .nil .nil) (.node (fx P 126) .nil .nil))) (.node (sx93 P) (.node (fx P 38) (.node (fx P 79) .nil .nil) (.node (fx P 115) .nil .nil)) (.node (sx159 P) (.node (fx P 97) .nil .nil) .nil))) (.node (fx P 8) (.node (fx P 20) (.node (sx119 P) (.node (fx P 73) .nil .nil) (.node (fx P 109) .nil .nil)) (.node (fx P 55) (.node (fx P 91) .nil .nil) (.node (fx P 132) .nil .nil))) (.node (sx101 P) (.node (fx P 44) (.node (fx P 86) .nil .nil) (.node (fx P 122) .nil .nil)) (.node (fx P 62) (.node (sx237 P) .nil .nil) .nil)))))) (.node (fx P 0) (.node (PySem.W.boot_o_4 P) (.node (PySem.W.boot_o_8 P) (.node (sx53 P) (.node (fx P 10) (.node (fx P 28) (.node (fx P 64) .nil .nil) (.node (sx240 P) .nil .nil)) (.node (fx P 46) (.node (sx206 P) .nil .nil) (.node (fx P 123) .nil .nil))) (.node (sx85 P) (.node (sx122 P) (.node (fx P 75) .nil .nil) (.node (fx P 111) .nil .nil)) (.node (fx P 58) (.node (sx222 P) .nil .nil) (.node (fx P 134) .nil .nil)))) (.node (sx61 P) (.node (fx P 16) (.node (fx P 34) (.node (husk (fx P 71)) .nil .nil) (.node (husk (fx P 107)) .nil .nil)) (.node (fx P 52) (.node (fx P 88) .nil .nil) (.node (sx280 P) .nil .nil))) (.node (sx96 P) (.node (fx P 40) (.node (fx P 81) .nil .nil) (.node (fx P 117) .nil .nil)) (.node (sx164 P) (.node (fx P 100) .nil .nil) .nil)))) (.node (sx236 P) (.node (fx P 5) (.node (fx P 13) (.node (fx P 31) (.node (fx P 67) .nil .nil) (.node (fx P 103) .nil .nil)) (.node (fx P 49) (.node (sx210 P) .nil .nil) (.node (husk (fx P 127)) .nil .nil))) (.node (sx92 P) (.node (sx126 P) (.node (fx P 78) .nil .nil) (.node (fx P 114) .nil .nil)) (.node (sx158 P) (.node (fx P 96) .nil .nil) (.node (fx P 137) .nil .nil)))) (.node (sx65 P) (.node (fx P 19) (.node (sx118 P) (.node (sx184 P) .nil .nil) (.node (sx252 P) .nil .nil)) (.node (husk (fx P 56)) (.node (husk (fx P 92)) .nil .nil) (.node (fx P 131) .nil .nil))) (.node (sx100 P) (.node (fx P 43) (.node (fx P 85) .nil .nil) (.node (fx P 121) .nil .nil)) (.node (sx168 P) (.node (sx234 P) .nil .nil) .nil))))) (.node (PySem.W.boot_o_6 P) (.node (PySem.W.boot_o_10 P) (.node (fx P 4) (.node (husk (fx P 13)) (.node (husk (fx P 31)) (.node (fx P 65) .nil .nil) (.node (sx242 P) .nil .nil)) (.node (sx140 P) (.node (sx208 P) .nil .nil) (.node (fx P 124) .nil .nil))) (.node (fx P 23) (.node (sx124 P) (.node (fx P 77) .nil .nil) (.node (fx P 113) .nil .nil)) (.node (fx P 60) (.node (fx P 95) .nil .nil) (.node (husk (fx P 137)) .nil .nil)))) (.node (sx63 P) (.node (fx P 17) (.node (fx P 35) (.node (fx P 71) .nil .nil) (.node (fx P 107) .nil .nil)) (.node (fx P 53) (.node (fx P 89) .nil .nil) (.node (fx P 130) .nil .nil))) (.node (fx P 25) (.node (fx P 42) (.node (fx P 83) .nil .nil) (.node (fx P 119) .nil .nil)) (.node (sx166 P) (.node (fx P 102) .nil .nil) .nil)))) (.node (sx46 P) (.node (fx P 7) (.node (sx75 P) (.node (sx110 P) (.node (fx P 68) .nil .nil) (.node (fx P 104) .nil .nil)) (.node (fx P 50) (.node (sx212 P) .nil .nil) (.node (fx P 127) .nil .nil))) (.node (sx94 P) (.node (fx P 39) (.node (husk (fx P 81)) .nil .nil) (.node (husk (fx P 117)) .nil .nil)) (.node (sx162 P) (.node (fx P 98) .nil .nil) .nil))) (.node (fx P 9) (.node (fx P 21) (.node (sx120 P) (.node (fx P 74) .nil .nil) (.node (fx P 110) .nil .nil)) (.node (fx P 56) (.node (fx P 92) .nil .nil) (.node (fx P 133) .nil .nil))) (.node (fx P 27) (.node (husk (fx P 46)) (.node (sx202 P) .nil .nil) (.node (sx270 P) .nil .nil)) (.node (sx170 P) (.node (sx238 P) .nil .nil) .nil)))))))
noncomputable def xtree_334 (P : Params) : BT :=
  (.node (PySem.W.boot_o_0 P) (.node (PySem.W.boot_o_1 P) (.node (fx P 1) (.node (PySem.W.boot_o_7 P) (.node (fx P 2) (.node (sx68 P) (.node (sx103 P) (.node (fx P 63) (.node (fx P 145) .nil .nil) .nil) (.node (sx239 P) .nil .nil)) (.node (fx P 45) (.node (sx203 P) .nil .nil) (.node (sx271 P) .nil .nil))) (.node (fx P 22) (.node (sx121 P) (.node (husk (fx P 76)) (.node (fx P 157) .nil .nil) .nil) (.node (husk (fx P 112)) .nil .nil)) (.node (fx P 57) (.node (fx P 93) .nil .nil) (.node (sx287 P) .nil .nil)))) (.node (sx60 P) (.node (fx P 15) (.node (fx P 33) (.node (fx P 69) (.node (fx P 151) .nil .nil) .nil) (.node (fx P 105) .nil .nil)) (.node (fx P 51) (.node (fx P 87) .nil .nil) (.node (fx P 128) .nil .nil))) (.node (sx95 P) (.node (husk (fx P 41)) (.node (fx P 80) (.node (fx P 162) .nil .nil) .nil) (.node (fx P 116) .nil .nil)) (.node (sx163 P) (.node (fx P 99) .nil .nil) (.node (fx P 139) .nil .nil))))) (.node (sx43 P) (.node (husk (fx P 6)) (.node (fx P 12) (.node (fx P 30) (.node (fx P 66) (.node (fx P 148) .nil .nil) .nil) (.node (sx243 P) .nil .nil)) (.node (fx P 48) (.node (sx209 P) .nil .nil) (.node (fx P 125) .nil .nil))) (.node (sx91 P) (.node (fx P 37) (.node (sx191 P) (.node (fx P 160) .nil .nil) .nil) (.node (sx259 P) .nil .nil)) (.node (fx P 61) (.node (husk (fx P 97)) .nil .nil) (.node (fx P 136) .nil .nil)))) (.node (sx64 P) (.node (fx P 18) (.node (fx P 36) (.node (fx P 72) (.node (fx P 154) .nil .nil) .nil) (.node (fx P 108) .nil .nil)) (.node (fx P 54) (.node (fx P 90) .nil .nil) (.node (husk (fx P 132)) .nil .nil))) (.node (fx P 26) (.node (sx133 P) (.node (fx P 84) (.node (fx P 164) .nil .nil) .nil) (.node (fx P 120) .nil .nil)) (.node (sx167 P) (.node (sx233 P) .nil .nil) (.node (fx P 142) .nil .nil)))))) (.node (PySem.W.boot_o_5 P) (.node (PySem.W.boot_o_9 P) (.node (fx P 3) (.node (fx P 11) (.node (fx P 29) (.node (husk (fx P 66)) (.node (fx P 146) .nil .nil) .nil) (.node (sx241 P) .nil .nil)) (.node (fx P 47) (.node (sx207 P) .nil .nil) (.node (sx273 P) .nil .nil))) (.node (sx86 P) (.node (sx123 P) (.node (fx P 76) (.node (fx P 158) .nil .nil) .nil) (.node (fx P 112) .nil .nil)) (.node (fx P 59) (.node (fx P 94) .nil .nil) (.node (fx P 135) .nil .nil)))) (.node (sx62 P) (.node (husk (fx P 18)) (.node (husk (fx P 36)) (.node (fx P 70) (.node (fx P 152) .nil .nil) .nil) (.node (fx P 106) .nil .nil)) (.node (sx147 P) (.node (sx215 P) .nil .nil) (.node (fx P 129) .nil .nil))) (.node (fx P 24) (.node (fx P 41) (.node (fx P 82) (.node (sx331 P) .nil .nil) .nil) (.node (fx P 118) .nil .nil)) (.node (sx165 P) (.node (fx P 101) .nil .nil) (.node (husk (fx P 142)) .nil .nil))))) (.node (sx45 P) (.node (fx P 6) (.node (fx P 14) (.node (fx P 32) (.node (sx177 P) (.node (sx311 P) .nil .nil) .nil) (.node (sx245 P) .nil .nil)) (.node (husk (fx P 51)) (.node (sx211 P) .nil .nil) (.node (fx P 126) .nil .nil))) (.node (sx93 P) (.node (fx P 38) (.node (fx P 79) (.node (husk (fx P 162)) .nil .nil) .nil) (.node (fx P 115) .nil .nil)) (.node (sx159 P) (.node (fx P 97) .nil .nil) (.node (fx P 138) .nil .nil)))) (.node (fx P 8) (.node (fx P 20) (.node (sx119 P) (.node (fx P 73) (.node (sx319 P) .nil .nil) .nil) (.node (fx P 109) .nil .nil)) (.node (fx P 55) (.node (fx P 91) .nil .nil) (.node (fx P 132) .nil .nil))) (.node (sx101 P) (.node (fx P 44) (.node (fx P 86) .nil .nil) (.node (fx P 122) .nil .nil)) (.node (fx P 62) (.node (sx237 P) .nil .nil) (.node (sx303 P) .nil .nil))))))) (.node (fx P 0) (.node (PySem.W.boot_o_4 P) (.node (PySem.W.boot_o_8 P) (.node (sx53 P) (.node (fx P 10) (.node (fx P 28) (.node (fx P 64) (.node (husk (fx P 147)) .nil .nil) .nil) (.node (sx240 P) .nil .nil)) (.node (fx P 46) (.node (sx206 P) .nil .nil) (.node (fx P 123) .nil .nil))) (.node (sx85 P) (.node (sx122 P) (.node (fx P 75) (.node (husk (fx P 159)) .nil .nil) .nil) (.node (fx P 111) .nil .nil)) (.node (fx P 58) (.node (sx222 P) .nil .nil) (.node (fx P 134) .nil .nil)))) (.node (sx61 P) (.node (fx P 16) (.node (fx P 34) (.node (husk (fx P 71)) (.node (husk (fx P 153)) .nil .nil) .nil) (.node (husk (fx P 107)) .nil .nil)) (.node (fx P 52) (.node (fx P 88) .nil .nil) (.node (sx280 P) .nil .nil))) (.node (sx96 P) (.node (fx P 40) (.node (fx P 81) (.node (fx P 163) .nil .nil) .nil) (.node (fx P 117) .nil .nil)) (.node (sx164 P) (.node (fx P 100) .nil .nil) (.node (fx P 140) .nil .nil))))) (.node (sx294 P) (.node (fx P 5) (.node (fx P 13) (.node (fx P 31) (.node (fx P 67) (.node (fx P 149) .nil .nil) .nil) (.node (fx P 103) .nil .nil)) (.node (fx P 49) (.node (sx210 P) .nil .nil) (.node (husk (fx P 127)) .nil .nil))) (.node (sx92 P) (.node (sx126 P) (.node (fx P 78) (.node (sx326 P) .nil .nil) .nil) (.node (fx P 114) .nil .nil)) (.node (sx158 P) (.node (fx P 96) .nil .nil) (.node (fx P 137) .nil .nil)))) (.node (sx65 P) (.node (fx P 19) (.node (sx118 P) (.node (sx184 P) (.node (fx P 155) .nil .nil) .nil) (.node (sx252 P) .nil .nil)) (.node (husk (fx P 56)) (.node (husk (fx P 92)) .nil .nil) (.node (fx P 131) .nil .nil))) (.node (sx100 P) (.node (fx P 43) (.node (fx P 85) (.node (fx P 165) .nil .nil) .nil) (.node (fx P 121) .nil .nil)) (.node (sx168 P) (.node (sx234 P) .nil .nil) (.node (fx P 143) .nil .nil)))))) (.node (PySem.W.boot_o_6 P) (.node (PySem.W.boot_o_10 P) (.node (fx P 4) (.node (husk (fx P 13)) (.node (husk (fx P 31)) (.node (fx P 65) (.node (fx P 147) .nil .nil) .nil) (.node (sx242 P) .nil .nil)) (.node (sx140 P) (.node (sx208 P) .nil .nil) (.node (fx P 124) .nil .nil))) (.node (fx P 23) (.node (sx124 P) (.node (fx P 77) (.node (fx P 159) .nil .nil) .nil) (.node (fx P 113) .nil .nil)) (.node (fx P 60) (.node (fx P 95) .nil .nil) (.node (husk (fx P 137)) .nil .nil)))) (.node (sx63 P) (.node (fx P 17) (.node (fx P 35) (.node (fx P 71) (.node (fx P 153) .nil .nil) .nil) (.node (fx P 107) .nil .nil)) (.node (fx P 53) (.node (fx P 89) .nil .nil) (.node (fx P 130) .nil .nil))) (.node (fx P 25) (.node (fx P 42) (.node (fx P 83) (.node (husk (fx P 165)) .nil .nil) .nil) (.node (fx P 119) .nil .nil)) (.node (sx166 P) (.node (fx P 102) .nil .nil) (.node (fx P 141) .nil .nil))))) (.node (sx46 P) (.node (fx P 7) (.node (sx75 P) (.node (sx110 P) (.node (fx P 68) (.node (fx P 150) .nil .nil) .nil) (.node (fx P 104) .nil .nil)) (.node (fx P 50) (.node (sx212 P) .nil .nil) (.node (fx P 127) .nil .nil))) (.node (sx94 P) (.node (fx P 39) (.node (husk (fx P 81)) (.node (fx P 161) .nil .nil) .nil) (.node (husk (fx P 117)) .nil .nil)) (.node (sx162 P) (.node (fx P 98) .nil .nil) (.node (sx296 P) .nil .nil)))) (.node (fx P 9) (.node (fx P 21) (.node (sx120 P) (.node (fx P 74) (.node (fx P 156) .nil .nil) .nil) (.node (fx P 110) .nil .nil)) (.node (fx P 56) (.node (fx P 92) .nil .nil) (.node (fx P 133) .nil .nil))) (.node (fx P 27) (.node (husk (fx P 46)) (.node (sx202 P) .nil .nil) (.node (sx270 P) .nil .nil)) (.node (sx170 P) (.node (sx238 P) .nil .nil) (.node (fx P 144) .nil .nil))))))))
end Mine
end -- LeftS

section -- LeftP
theorem Mine.plain_LeftP : True := by w_top off; trivial
open PySem PySem.W PyProof.Rows PySem.Calls PySem.Spec
set_option maxRecDepth 100000
set_option linter.unusedVariables false
namespace Mine
def asX : List Addr := [2, 3, 15, 17, 18, 20, 21, 22, 29, 30, 32, 33, 35, 36, 37, 39, 40, 42, 43, 44, 45, 46, 47, 50, 57, 58, 59, 62, 64, 65,
  67, 68, 69, 71, 72, 74, 75, 83, 85, 86, 88, 89, 90, 92, 93, 95, 96, 97, 99, 100, 102, 103, 104, 106, 107, 109, 110,
  111, 112, 113, 114, 115, 125, 127, 128, 130, 131, 132, 134, 135, 137, 138, 139, 141, 142, 144, 145, 146, 148, 149,
  151, 152, 153, 154, 155, 156, 157, 167, 168, 170, 171, 173, 174, 175, 177, 178, 180, 181, 182, 183, 184, 185, 186,
  196, 198, 199, 201, 202, 203, 205, 206, 208, 209, 210, 212, 213, 215, 216, 217, 218, 219, 220, 221, 224, 226, 227,
  229, 230, 231, 233, 234, 236, 237, 238, 240, 241, 243, 244, 245, 247, 248, 250, 251, 252, 254, 255, 257, 258, 259,
  260, 262, 263, 265, 266, 267, 268, 270, 271, 273, 274, 275, 278, 279, 280, 283, 284]
theorem asX_eq : ∀ P, asX = (hd.heap_1 P).map (·.1) := fun P => by kernel_rfl
abbrev looseX : List PySem.Str := [PySem.Str.ofString "PaperError", PySem.Str.ofString "Sizes", PySem.Str.ofString "lzw_encoded", PySem.Str.ofString "lzw_decoded"]
abbrev pX : Program := PySem.Challenge.rw_nn0205_01.row.prog
abbrev bX : List Stmt := behindTheImports pX
abbrev envX : Env := { scope := pX.main.scope, locals := mainNs, globals := mainNs, cells := [], code := Value.ref 13, frame := some 14 }
abbrev cX : Code := Code.body bX envX
abbrev qX : Pos := { line := 0, col := 0, endLine := 0, endCol := 0 }
abbrev BX : List Frame := [topFrame qX]
abbrev atX (T : BT) (n toks : Nat) (os : OsState) : SharedT := { tree := T, n := n, life := {}, gens := { toList := [] }, drawn := {}, toks := toks, os := os }
noncomputable def treeX (P : Params) : BT :=
  (.node (PySem.W.boot_o_0 P) (.node (PySem.W.boot_o_1 P) (.node (PySem.W.boot_o_3 P) (.node (PySem.W.boot_o_7 P) .nil .nil) .nil) (.node (PySem.W.boot_o_5 P) (.node (PySem.W.boot_o_9 P) .nil .nil) .nil)) (.node (PySem.W.boot_o_2 P) (.node (PySem.W.boot_o_4 P) (.node (PySem.W.boot_o_8 P) .nil .nil) .nil) (.node (PySem.W.boot_o_6 P) (.node (PySem.W.boot_o_10 P) .nil .nil) .nil)))
theorem lx_open : ∀ w : World, (fencedOpening treeTable pX w 4364).map (fun s => (s.heap, s.gens, s.drawn, s.toks)) = some (boot_heap w.params, Array.mk [], boot_drawn, boot_toks) :=
  boot_open (by kernel_rfl) (by kernel_rfl) (fun s => by kernel_rfl)
theorem lx_size : ∀ w : World, ((boot_heap w.params).isNs mainGlobals && (Array.mk [] : Array GenState).size == 0, (boot_heap w.params).objs.size, (boot_heap w.params).nsMap mainGlobals "__annotations__") = (true, 11, some (Value.ref 6)) := fun w => by kernel_rfl
theorem lx_start (w : World) (os : OsState) : (⟨boot_heap w.params, Array.mk [], boot_drawn, boot_toks, os⟩ : Shared) = (atX (treeX w.params) 11 boot_toks os).abs := by kernel_rfl
theorem lx_pre (w : World) (os : OsState) : goT treeTable pX w 11 (some (Value.ref 6)) 12 (atX (treeX w.params) 11 boot_toks os) (topStub pX) = some (atX (xtree_47 w.params) 15 187 os, ⟨denote treeTable cX, cX, qX, BX⟩) := by kernel_rfl
theorem lx_block (w : World) (os : OsState) : segRunT treeTable pX w 11 (some (Value.ref 6)) 1 1 (atX (xtree_47 w.params) 15 187 os) (blockOf bX envX cX qX BX) = some (.next, atX (xtree_47 w.params) 15 187 os, cX, qX) := by kernel_rfl
theorem lx_1 (w : World) (os : OsState) : segRunT treeTable pX w 11 (some (Value.ref 6)) 1 307 (atX (xtree_47 w.params) 15 187 os) (piecesOf ((bX).take 3) envX cX { line := 0, col := 0, endLine := 0, endCol := 0 } BX) = some (.next, atX (xtree_86 w.params) 50 236 os, cX, { line := 5, col := 0, endLine := 13, endCol := 35 }) := by kernel_rfl
theorem lx_2 (w : World) (os : OsState) : segRunT treeTable pX w 11 (some (Value.ref 6)) 1 292 (atX (xtree_86 w.params) 50 236 os) (piecesOf (((bX).drop 3).take 5) envX cX { line := 5, col := 0, endLine := 13, endCol := 35 } BX) = some (.next, atX (xtree_115 w.params) 76 272 os, cX, { line := 20, col := 0, endLine := 22, endCol := 69 }) := by kernel_rfl
theorem lx_3 (w : World) (os : OsState) : segRunT treeTable pX w 11 (some (Value.ref 6)) 1 321 (atX (xtree_115 w.params) 76 272 os) (piecesOf ((((bX).drop 3).drop 5).take 1) envX cX { line := 20, col := 0, endLine := 22, endCol := 69 } BX) = some (.next, atX (xtree_159 w.params) 118 327 os, cX, { line := 23, col := 0, endLine := 47, endCol := 16 }) := by kernel_rfl
theorem lx_4 (w : World) (os : OsState) : segRunT treeTable pX w 11 (some (Value.ref 6)) 1 346 (atX (xtree_159 w.params) 118 327 os) (piecesOf (((((bX).drop 3).drop 5).drop 1).take 4) envX cX { line := 23, col := 0, endLine := 47, endCol := 16 } BX) = some (.next, atX (xtree_203 w.params) 160 386 os, cX, { line := 73, col := 0, endLine := 73, endCol := 6 }) := by kernel_rfl
theorem lx_5 (w : World) (os : OsState) : segRunT treeTable pX w 11 (some (Value.ref 6)) 1 274 (atX (xtree_203 w.params) 160 386 os) (piecesOf ((((((bX).drop 3).drop 5).drop 1).drop 4).take 1) envX cX { line := 73, col := 0, endLine := 73, endCol := 6 } BX) = some (.next, atX (xtree_234 w.params) 189 433 os, cX, { line := 74, col := 0, endLine := 87, endCol := 59 }) := by kernel_rfl
theorem lx_6 (w : World) (os : OsState) : segRunT treeTable pX w 11 (some (Value.ref 6)) 1 390 (atX (xtree_234 w.params) 189 433 os) (piecesOf (((((((bX).drop 3).drop 5).drop 1).drop 4).drop 1).take 4) envX cX { line := 74, col := 0, endLine := 87, endCol := 59 } BX) = some (.next, atX (xtree_292 w.params) 245 515 os, cX, { line := 123, col := 0, endLine := 145, endCol := 16 }) := by kernel_rfl
theorem lx_7 (w : World) (os : OsState) : segRunT treeTable pX w 11 (some (Value.ref 6)) 1 196 (atX (xtree_292 w.params) 245 515 os) (piecesOf ((((((((bX).drop 3).drop 5).drop 1).drop 4).drop 1).drop 4).take 7) envX cX { line := 123, col := 0, endLine := 145, endCol := 16 } BX) = some (.next, atX (xtree_334 w.params) 285 573 os, cX, { line := 189, col := 0, endLine := 210, endCol := 68 }) := by kernel_rfl
theorem lx_nil : (((((((bX).drop 3).drop 5).drop 1).drop 4).drop 1).drop 4).drop 7 = [] := by kernel_rfl
theorem lx_fin (w : World) (os : OsState) : runT treeTable pX w 11 (some (Value.ref 6)) 2 (atX (xtree_334 w.params) 285 573 os) ⟨doneF .next, cX, { line := 189, col := 0, endLine := 210, endCol := 68 }, BX⟩ = some (atX (xtree_334 w.params) 285 573 os) := by kernel_rfl
noncomputable def endX (P : Params) : Heap := absHeap (xtree_334 P) 285 {}
theorem lx_run (w : World) (os : OsState) : topRun treeTable pX w 11 (some (Value.ref 6)) 2141 ⟨boot_heap w.params, Array.mk [], boot_drawn, boot_toks, os⟩ (topStub pX) = some ⟨endX w.params, { toList := [] }, {}, 573, os⟩ := by
  rw [lx_start]
  refine go_top (n := 12) (N := 2129) (goT_of (lx_pre w os)) ?_
  refine piece_block (n := 1) (N := 2128) (segRun_of (lx_block w os)) ?_
  refine piece_take (n := 307) (N := 1821) 3 (lx_1 w os) ?_
  refine piece_take (n := 292) (N := 1529) 5 (lx_2 w os) ?_
  refine piece_take (n := 321) (N := 1208) 1 (lx_3 w os) ?_
  refine piece_take (n := 346) (N := 862) 4 (lx_4 w os) ?_
  refine piece_take (n := 274) (N := 588) 1 (lx_5 w os) ?_
  refine piece_take (n := 390) (N := 198) 4 (lx_6 w os) ?_
  refine piece_take (n := 196) (N := 2) 7 (lx_7 w os) ?_
  rw [lx_nil]
  exact piece_nil (runT_of (lx_fin w os))
noncomputable abbrev XtX : Shared → Bool := fun s => xlAt hd.view_1 [] s && recOk PySem.Challenge.rw_nn0205_01.row.records s
noncomputable abbrev sX (w : World) (os : OsState) : Shared := ⟨endX w.params, { toList := [] }, {}, 573, os⟩
theorem lx_look1 (w : World) (os : OsState) : (staticsOk (importedModules pX.main.body) (boot_heap w.params) (endX w.params) && namesBound pX (endX w.params) && gensDone (sX w os) && laidKept (boot_heap w.params) (endX w.params)) = true := by kernel_rfl
theorem lx_look2 (w : World) (os : OsState) : openSeen hd.view_1 looseX (importedModules pX.main.body) XtX true (sX w os) = openGood hd.view_1 looseX := by kernel_rfl
theorem lx_look3 (w : World) (os : OsState) : (kHook hd.heap_1 asX asX_eq).obs (sX w os) = (kHook hd.heap_1 asX asX_eq).val w := by kernel_rfl
theorem leftX : LeftO pX hd.view_1 looseX XtX (kHook hd.heap_1 asX asX_eq).obs (kHook hd.heap_1 asX asX_eq).val 4364 :=
  LeftO.of_pieces (H₁ := endX) (gs₁ := { toList := [] }) (d₁ := {}) (k₁ := 573) (M := 2141) lx_open lx_size lx_run (by kernel_rfl)
    (fun w => funext fun os => by
      show ((_ : Bool), _, _) = _
      rw [show (staticsOk (importedModules pX.main.body) (boot_heap w.params) (endX w.params) && namesBound pX (endX w.params) && gensDone (sX w os) && laidKept (boot_heap w.params) (endX w.params)) = true from lx_look1 w os, show openSeen hd.view_1 looseX (importedModules pX.main.body) XtX true (sX w os) = openGood hd.view_1 looseX from lx_look2 w os, lx_look3 w os])
theorem hd_go (call : ∀ d kwd, defOf hd.view_1 PySem.Challenge.rw_nn0205_01.row.name = some (d, kwd) → WalkC hd.view_1 looseX (XL hd.view_1 []) (kHook hd.heap_1 asX asX_eq).says PySem.Challenge.rw_nn0205_01.row.toRowW d kwd) : PySem.Challenge.rw_nn0205_01.Holds :=
  hd.2 (And.intro leftX call)
end Mine
end -- LeftP

section -- Lib1
theorem Mine.plain_Lib1 : True := by w_top off; trivial
open PySem PySem.W PyProof.Rows PySem.Calls PySem.Spec
set_option maxRecDepth 100000
namespace Mine

abbrev atop (dp un : Nat) (gd : Option (List Code)) (outer : List Env) : Around := { handled := none, depth := dp, frames := some outer, guards := gd, units := un }

theorem enter_small {prog : Program} {w : World} {A : Around} {s : Shared} {g : Heap} {p : Program} {loose : List Str} {mean : ExcName → Option Value} {mg mb : Str → Option Value}
    {small : List (Addr × Obj)} {K : Frag} {R : Result → Shared → Prop} {name qual : Str} {params : Arguments} {body : List Stmt} {scope : Scope} {dV kV doc pm cdv ct oc : Value} {an od : Option Addr} {osl : Array (Option Value)} {f : Addr} {args : Args} {binds : List (Str × Value)}
    (X : K.In g) (T : Top p loose mean mg mb g) (hs : g.StaysIn s.heap) (hz : g.objs.size ≤ s.heap.objs.size) (hN : ∀ q ∈ small, s.heap.get? q.1 = some q.2 ∧ g.get? q.1 = none)
    (ho : K.lookup f = some ⟨oc, od, .func (fnOf name qual params body scope dV kV doc pm an cdv ct), osl⟩) (hcd : codeIn K cdv qual = true) (hroom : A.depth < recursionLimit)
    (hbind : BindsTo s (fnOf name qual params body scope dV kV doc pm an cdv ct) args binds) (hloc : ∀ y ∈ binds, scope.names.lookup y.1 = some .local)
    (h : ∀ L' h₁, Fr g L' h₁ (fun y => binds.reverse.lookup y) → News g L' h₁ small → (∀ q ∈ small, q.1 < L') → s.heap.objs.size ≤ L' →
      wpAny (model prog w) (A.deeper (envOf qual scope L' f cdv)) (execs body (envOf qual scope L' f cdv))
        (fun fl s' => R (.ok (.ret (match fl with | .ret v => v | _ => .none))) s')
        (fun e s' => wpAny (model prog w) (A.deeper (envOf qual scope L' f cdv)) (leaving (envOf qual scope L' f cdv) e) (fun _ s'' => R (.error e) s'') (fun e' s'' => R (.error e') s'') s')
        { s with heap := h₁, toks := s.toks + binds.length })
    (hco : scope.isCoroutine = false) (hgen : scope.isGenerator = false) (hk : scope.kind = .function)
    (hcell : ∀ x ∈ scope.names, x.2 ≠ .cell) : codeAny (model prog w) A (.call (.ref f) args) R s :=
  codeAny_call_def (fd := fnOf name qual params body scope dV kV doc pm an cdv ct) (body := body) (binds := binds) hroom ((X.keeps hs) _ _ ho) rfl (T.nolimit.keeps hs) (codeRec_of (X.keeps hs) hcd) rfl hbind hcell hloc
    (fun h₁ hns hk₁ => h s.heap.objs.size h₁ ⟨hns, fun b o e => hk₁ b o (hs b o e), hz⟩ (fun q hq => ⟨hk₁ _ _ (hN q hq).1, Nat.ne_of_lt (Heap.lt_size (hN q hq).1), (hN q hq).2⟩) (fun q hq => Heap.lt_size (hN q hq).1) (Nat.le_refl _)) hco hgen hk

end Mine
end -- Lib1

section -- CLoop
theorem Mine.plain_CLoop : True := by w_top off; trivial
open PySem PySem.W PyProof.Rows PySem.Calls PySem.Spec
set_option maxRecDepth 100000
set_option linter.unusedVariables false
namespace Mine
def AllNe (d : Nat) : List (Addr × Obj) → Prop
  | [] => True
  | p :: r => @Ne Nat p.1 d ∧ AllNe d r
theorem allNe_of {d : Addr} : ∀ {l : List (Addr × Obj)}, (∀ p ∈ l, p.1 ≠ d) → AllNe d l
  | [], _ => trivial
  | p :: _, h => ⟨h p (.head _), allNe_of fun q hq => h q (.tail _ hq)⟩
theorem allNe_all {d : Addr} : ∀ {l : List (Addr × Obj)}, AllNe d l → ∀ p ∈ l, p.1 ≠ d
  | [], _, _, hp => nomatch hp
  | p :: r, h, q, hq => by
    rcases List.mem_cons.mp hq with rfl | hq
    · exact h.1
    · exact allNe_all h.2 q hq

def FEnd {σ : Type} (h₀ : Heap) (L : Addr) (x : Str) (m₀ : Str → Option Value) (Led : σ → List (Addr × Obj)) (P : σ → Prop) (I : Addr) (o : Obj) (s s' : Shared) : Prop :=
  ∃ c' h' tk' m' news', s' = { s with heap := h', toks := tk' } ∧ Fr h₀ L h' m' ∧ News h₀ L h' news' ∧ (I, o) ∈ news' ∧ (∀ p ∈ Led c', p ∈ news') ∧ AllNe I (Led c') ∧ (∀ z, z ≠ x → m' z = m₀ z) ∧ P c'
theorem FEnd.intro {σ : Type} {h₀ : Heap} {L : Addr} {x : Str} {m₀ : Str → Option Value} {Led : σ → List (Addr × Obj)} {P : σ → Prop} {I : Addr} {o : Obj} {s : Shared} (c' : σ) {h' : Heap} {tk' : Nat} {m' : Str → Option Value} {news' : List (Addr × Obj)}
    (F : Fr h₀ L h' m') (N : News h₀ L h' news') (hI : (I, o) ∈ news') (hs : ∀ p ∈ Led c', p ∈ news') (hn : AllNe I (Led c')) (hm : ∀ z, z ≠ x → m' z = m₀ z) (hp : P c') : FEnd h₀ L x m₀ Led P I o s { s with heap := h', toks := tk' } :=
  ⟨c', h', tk', m', news', rfl, F, N, hI, hs, hn, hm, hp⟩
def FPost {σ : Type} (h₀ : Heap) (L : Addr) (x : Str) (m₀ : Str → Option Value) (Led : σ → List (Addr × Obj)) (P : σ → Prop) (I : Addr) (o : Obj) (s : Shared) (Q : Flow → Shared → Prop) (f : Flow) (s' : Shared) : Prop :=
  match f with
  | .next | .cont => FEnd h₀ L x m₀ Led P I o s s'
  | .brk => Q .next s'
  | .ret v => Q (.ret v) s'

section
variable {prog : Program} {w : World} {A : Around} {s : Shared} {env : Env} {h₀ : Heap} {x : Str} {px : Pos} {body : List Stmt} {Q : Flow → Shared → Prop} {m₀ : Str → Option Value} {σ : Type}

theorem c_for_ints {l : Addr} {nn : Nat} {vs : List Value} {ns : List Int} (Led : σ → List (Addr × Obj)) (P : Nat → σ → Prop) (c₀ : σ)
    (hl : ∀ c, (l, listOf vs.toArray nn) ∈ Led c) (hi : IntsAre vs ns) (F : Fr h₀ env.locals s.heap m₀) (N : News h₀ env.locals s.heap (Led c₀)) (hp : P 0 c₀)
    (hh : A.handled = none) (hx : env.kindOf x = some .local) (hpc : (env.scope.kind == .class || (env.scope.kind == .module && env.locals != env.globals)) = false)
    (turn : ∀ i c n t h tk I o, ns[i]? = some n → P i c → AllNe I (Led c) → Fr h₀ env.locals h (fun y => if y = x then some (.int n t) else m₀ y) → News h₀ env.locals h ((I, o) :: Led c) →
      wpC (model prog w) A (execs body env) (FPost h₀ env.locals x m₀ Led (P (i + 1)) I o s Q) { s with heap := h, toks := tk })
    (done : ∀ c h tk (u : Str → Option Value), P ns.length c → Fr h₀ env.locals h (fun y => if y = x then u y else m₀ y) → News h₀ env.locals h (Led c) → Q .next { s with heap := h, toks := tk }) :
    wpAny (model prog w) A (pyIter (.ref l)) (fun it s₂ => codeC (model prog w) A (.forLoop (.Name x px) it body [] env) Q s₂) nope s := by
  have hl0 : s.heap.IsList l vs.toArray := News.isList N (hl c₀)
  refine wpAny_pyIter_list hl0 ?_
  let I := s.heap.objs.size
  have hlen : vs.length = ns.length := hi.length
  refine codeC_for (I := fun k s' => ∃ i c h tk m o, k = ns.length + 1 - i ∧ i ≤ ns.length ∧ s' = { s with heap := h, toks := tk } ∧ P i c ∧ AllNe I (Led c) ∧ Fr h₀ env.locals h m ∧ (∀ z, z ≠ x → m z = m₀ z) ∧
    News h₀ env.locals h ((I, o) :: Led c) ∧ h.IsListIter I l i) ?_ (ns.length + 1) ⟨0, c₀, s.heap.push _, s.toks, m₀, _, rfl, Nat.zero_le _, rfl, hp, allNe_of fun p hp' => Nat.ne_of_lt (Heap.lt_size (N p hp').1), F.push _, fun _ _ => rfl, N.push F _, ⟨_, Heap.get?_push_size _ rfl, rfl, rfl⟩⟩
  rintro k s' ⟨i, c, h, tk, m, o, rfl, hle, rfl, hP, hne, F₁, hm, N₁, hit⟩
  have hls : h.IsList l vs.toArray := News.isList N₁ (.tail _ (hl c))
  have nI := N₁ _ (.head _)
  have next : ∀ h₁ : Heap, (∀ b o, b ≠ I → h.get? b = some o → h₁.get? b = some o) → Fr h₀ env.locals h₁ m ∧ News h₀ env.locals h₁ (Led c) := fun h₁ hk₁ =>
    ⟨⟨F₁.ns.at' fun o e => hk₁ _ o (fun q => nI.2.1 q.symm) e, fun b o e => hk₁ b o (fun q => by have := nI.2.2; rw [← q, e] at this; cases this) (F₁.keep b o e), F₁.above⟩,
      fun p hp' => ⟨hk₁ _ _ (allNe_all hne p hp') (N₁ p (.tail _ hp')).1, (N₁ p (.tail _ hp')).2⟩⟩
  by_cases hlt : i < ns.length
  · obtain ⟨v, hv⟩ : ∃ v, vs[i]? = some v := ⟨vs[i]'(by (first | omega -splitDisjunctions | omega)), List.getElem?_eq_getElem (by (first | omega -splitDisjunctions | omega))⟩
    obtain ⟨n, t, rfl, hn⟩ := IntsAre.at hi i v hv
    refine wpAny_pyNext_list_item (x := .int n t) hit hls (by simpa using hv) fun h' hit' hs' => ?_
    obtain ⟨F₂, N₂⟩ := next h' fun b o hb e => (hs'.2 b hb).trans e
    refine wpAny_assign_Name (wpAny_storeName_local hx F₂.ns (fun h₂ hn₂ hs₂ => ?_) hpc)
    obtain ⟨oi, hoi, hoc, hod⟩ := hit'
    have hLI : env.locals ≠ I := fun q => nI.2.1 q.symm
    have F₃ := F₂.set hn₂ hs₂
    have N₃ := N₂.set hs₂
    have gI : h₂.get? I = some oi := (hs₂.2 I (Ne.symm hLI)).trans hoi
    have NI : News h₀ env.locals h₂ ((I, oi) :: Led c) := fun p hp' => by
      rcases List.mem_cons.mp hp' with rfl | hp'
      · exact ⟨gI, nI.2⟩
      · exact N₃ p hp'
    have em : (fun y => if y = x then some (Value.int n t) else m y) = fun y => if y = x then some (Value.int n t) else m₀ y := by
      funext y
      by_cases h1 : y = x
      · simp [h1]
      · simp only [if_neg h1]; exact hm y h1
    rw [em] at F₃
    refine c_mono (turn i c n t h₂ _ I oi hn hP hne F₃ NI) fun f s₃ h₃ => ?_
    have fin : FEnd h₀ env.locals x m₀ Led (P (i + 1)) I oi s s₃ → ∃ m_1, m_1 < ns.length + 1 - i ∧ ∃ i c h tk m o, m_1 = ns.length + 1 - i ∧ i ≤ ns.length ∧ s₃ = { s with heap := h, toks := tk } ∧ P i c ∧ AllNe I (Led c) ∧ Fr h₀ env.locals h m ∧ (∀ z, z ≠ x → m z = m₀ z) ∧
        News h₀ env.locals h ((I, o) :: Led c) ∧ h.IsListIter I l i := by
      rintro ⟨c', h', tk', m', news', rfl, F', N', hI', hs', hn', hm', hp'⟩
      refine ⟨ns.length + 1 - (i + 1), by (first | omega -splitDisjunctions | omega), i + 1, c', h', tk', m', oi, rfl, hlt, rfl, hp', hn', F', hm', fun p hp => ?_, ⟨oi, (N' _ hI').1, hoc, hod⟩⟩
      rcases List.mem_cons.mp hp with rfl | hp
      · exact N' _ hI'
      · exact N' _ (hs' p hp)
    cases f with
    | next => exact fin h₃
    | cont => exact fin h₃
    | brk => exact h₃
    | ret v => exact h₃
  · have : i = ns.length := by (first | omega -splitDisjunctions | omega)
    subst this
    refine wpAny_pyNext_list_end hh hit hls (by simp [hlen]) fun h' he' => ?_
    obtain ⟨F₂, N₂⟩ := next h' fun b o hb e => he' b o hb e
    have em : m = fun y => if y = x then m y else m₀ y := by
      funext y
      by_cases h1 : y = x
      · simp [h1]
      · simp only [if_neg h1]; exact hm y h1
    rw [em] at F₂
    exact done c h' _ m hP F₂ N₂

def WEnd {σ : Type} (h₀ : Heap) (L : Addr) (m₀ : Str → Option Value) (Led : σ → List (Addr × Obj)) (P : σ → Prop) (μ : σ → Nat) (k : Nat) (s s' : Shared) : Prop :=
  ∃ c' h' tk' m' news', s' = { s with heap := h', toks := tk' } ∧ Fr h₀ L h' m' ∧ News h₀ L h' news' ∧ (∀ p ∈ Led c', p ∈ news') ∧ (∀ z, m' z = m₀ z) ∧ P c' ∧ μ c' < k
theorem WEnd.intro {σ : Type} {h₀ : Heap} {L : Addr} {m₀ : Str → Option Value} {Led : σ → List (Addr × Obj)} {P : σ → Prop} {μ : σ → Nat} {k : Nat} {s : Shared} (c' : σ) {h' : Heap} {tk' : Nat} {m' : Str → Option Value} {news' : List (Addr × Obj)}
    (F : Fr h₀ L h' m') (N : News h₀ L h' news') (hs : ∀ p ∈ Led c', p ∈ news') (hm : ∀ z, m' z = m₀ z) (hp : P c') (hk : μ c' < k) : WEnd h₀ L m₀ Led P μ k s { s with heap := h', toks := tk' } :=
  ⟨c', h', tk', m', news', rfl, F, N, hs, hm, hp, hk⟩
def WPost {σ : Type} (h₀ : Heap) (L : Addr) (m₀ : Str → Option Value) (Led : σ → List (Addr × Obj)) (P : σ → Prop) (μ : σ → Nat) (k : Nat) (s : Shared) (Q : Flow → Shared → Prop) (f : Flow) (s' : Shared) : Prop :=
  match f with
  | .next | .cont => WEnd h₀ L m₀ Led P μ k s s'
  | .brk => Q .next s'
  | .ret v => Q (.ret v) s'
theorem c_while_news {test : Expr} {L : Addr} (Led : σ → List (Addr × Obj)) (P : σ → Prop) (μ : σ → Nat) (c₀ : σ) (F : Fr h₀ L s.heap m₀) (N : News h₀ L s.heap (Led c₀)) (hp : P c₀)
    (turn : ∀ c h tk, P c → Fr h₀ L h m₀ → News h₀ L h (Led c) → wpAny (model prog w) A (isTrue test env (eval test env)) (fun b s₂ => if b then wpC (model prog w) A (execs body env) (WPost h₀ L m₀ Led P μ (μ c) s Q) s₂ else Q .next s₂) nope { s with heap := h, toks := tk }) :
    codeC (model prog w) A (.whileLoop test body [] env) Q s := by
  refine codeC_while (I := fun k s' => ∃ c h tk, k = μ c ∧ s' = { s with heap := h, toks := tk } ∧ P c ∧ Fr h₀ L h m₀ ∧ News h₀ L h (Led c)) ?_ (μ c₀) ⟨c₀, s.heap, s.toks, rfl, rfl, hp, F, N⟩
  rintro k s' ⟨c, h, tk, rfl, rfl, hP, F', N'⟩
  refine wpAny_mono (turn c h tk hP F' N') (fun b s₂ h₂ => ?_) fun _ _ x => x
  cases b with
  | false => simpa using h₂
  | true =>
    simp only [if_true] at h₂ ⊢
    refine c_mono h₂ fun f s₃ h₃ => ?_
    have fin : WEnd h₀ L m₀ Led P μ (μ c) s s₃ → ∃ m, m < μ c ∧ ∃ c h tk, m = μ c ∧ s₃ = { s with heap := h, toks := tk } ∧ P c ∧ Fr h₀ L h m₀ ∧ News h₀ L h (Led c) := by
      rintro ⟨c', h', tk', m', news', rfl, F', N', hs', hm', hp', hk'⟩
      have em : m' = m₀ := funext hm'
      rw [em] at F'
      exact ⟨μ c', hk', c', h', tk', rfl, rfl, hp', F', fun p hp => N' p (hs' p hp)⟩
    cases f with
    | next => exact fin h₃
    | cont => exact fin h₃
    | brk => exact h₃
    | ret v => exact h₃
end
end Mine
end -- CLoop

section -- ALoop
theorem Mine.plain_ALoop : True := by w_top off; trivial
open PySem PySem.W PyProof.Rows PySem.Calls PySem.Spec
set_option maxRecDepth 100000
set_option linter.unusedVariables false
namespace Mine

def AEnd {σ : Type} (h₀ : Heap) (L : Addr) (x : Str) (m₀ : σ → Str → Option Value) (Led : σ → List (Addr × Obj)) (P : σ → Prop) (I : Addr) (o : Obj) (s s' : Shared) : Prop :=
  ∃ c' h' tk' m' news', s' = { s with heap := h', toks := tk' } ∧ Fr h₀ L h' m' ∧ News h₀ L h' news' ∧ (I, o) ∈ news' ∧ (∀ p ∈ Led c', p ∈ news') ∧ AllNe I (Led c') ∧ (∀ z, z ≠ x → m' z = m₀ c' z) ∧ P c'
theorem AEnd.intro {σ : Type} {h₀ : Heap} {L : Addr} {x : Str} {m₀ : σ → Str → Option Value} {Led : σ → List (Addr × Obj)} {P : σ → Prop} {I : Addr} {o : Obj} {s : Shared} (c' : σ) {h' : Heap} {tk' : Nat} {m' : Str → Option Value} {news' : List (Addr × Obj)}
    (F : Fr h₀ L h' m') (N : News h₀ L h' news') (hI : (I, o) ∈ news') (hs : ∀ p ∈ Led c', p ∈ news') (hn : AllNe I (Led c')) (hm : ∀ z, z ≠ x → m' z = m₀ c' z) (hp : P c') : AEnd h₀ L x m₀ Led P I o s { s with heap := h', toks := tk' } :=
  ⟨c', h', tk', m', news', rfl, F, N, hI, hs, hn, hm, hp⟩
def APost {σ : Type} (h₀ : Heap) (L : Addr) (x : Str) (m₀ : σ → Str → Option Value) (Led : σ → List (Addr × Obj)) (P : σ → Prop) (I : Addr) (o : Obj) (s : Shared) (Q : Flow → Shared → Prop) (f : Flow) (s' : Shared) : Prop :=
  match f with
  | .next | .cont => AEnd h₀ L x m₀ Led P I o s s'
  | .brk => Q .next s'
  | .ret v => Q (.ret v) s'

abbrev codeN (M : Model) (A : Around) (c : Code) (R : Flow → Shared → Prop) (s : Shared) : Prop := codeAny M A c (fun r s' => match r with | .ok f => R f s' | .error _ => False) s

section
variable {prog : Program} {w : World} {A : Around} {s : Shared} {env : Env} {h₀ : Heap} {x : Str} {px pos : Pos} {body : List Stmt} {Q : Flow → Shared → Prop} {σ : Type}

theorem any_For {target : Expr} {iter : Expr} {E : Value → Shared → Prop}
    (h : wpAny (model prog w) A (eval iter env) (fun xv s₁ => wpAny (model prog w) A (pyIter xv) (fun it s₂ => codeN (model prog w) A (.forLoop target it body [] env) Q s₂) nope s₁) nope s)
    (hs : ∀ x, foldedSetIterable iter env x = pure x := by intro _; rfl) : wpAny (model prog w) A (exec (.For target iter body [] pos) env) Q E s := by
  refine wpAny_mono (E := nope) (wpAny_For (wpAny_mono h (fun xv s₁ h₁ => wpAny_mono h₁ (fun it s₂ h₂ => codeAny_mono h₂ fun r s' hr => ?_) fun _ _ e => e) fun _ _ e => e) hs) (fun _ _ h => h) fun _ _ e => e.elim
  cases r with
  | ok f => exact hr
  | error e => exact hr.elim

theorem any_for_gen {I : Addr} {fp : List Addr} {n : Nat} {Pv : Nat → Value → Prop} {St : Nat → Heap → Prop} (W : Walks prog w A I fp [I] n Pv St) (Led : σ → List (Addr × Obj)) (m₀ : σ → Str → Option Value) (P : Nat → σ → Prop) (c₀ : σ) (o₀ : Obj)
    (own : ∀ i h, St i h → ∃ o, h.get? I = some o)
    (fr : ∀ i c h h', St i h → (∀ o, h.get? I = some o → h'.get? I = some o) → News h₀ env.locals h' (Led c) → St i h')
    (hst : St 0 s.heap) (F : Fr h₀ env.locals s.heap (m₀ c₀)) (N : News h₀ env.locals s.heap ((I, o₀) :: Led c₀)) (hne : AllNe I (Led c₀)) (hp : P 0 c₀)
    (hx : env.kindOf x = some .local) (hpc : (env.scope.kind == .class || (env.scope.kind == .module && env.locals != env.globals)) = false)
    (turn : ∀ i c v h tk o, i < n → Pv i v → P i c → AllNe I (Led c) → Fr h₀ env.locals h (fun y => if y = x then some v else m₀ c y) → News h₀ env.locals h ((I, o) :: Led c) →
      wpAny (model prog w) A (execs body env) (APost h₀ env.locals x m₀ Led (P (i + 1)) I o s Q) nope { s with heap := h, toks := tk })
    (done : ∀ c h tk (u : Str → Option Value), P n c → Fr h₀ env.locals h (fun y => if y = x then u y else m₀ c y) → News h₀ env.locals h (Led c) → Q .next { s with heap := h, toks := tk }) :
    codeN (model prog w) A (.forLoop (.Name x px) (.ref I) body [] env) Q s := by
  refine codeAny_forLoop (I := fun k s' => ∃ i c h tk m o, k = n + 1 - i ∧ i ≤ n ∧ s' = { s with heap := h, toks := tk } ∧ P i c ∧ AllNe I (Led c) ∧ Fr h₀ env.locals h m ∧ (∀ z, z ≠ x → m z = m₀ c z) ∧
    News h₀ env.locals h ((I, o) :: Led c) ∧ St i h) ?_ (n + 1) ⟨0, c₀, s.heap, s.toks, _, o₀, rfl, Nat.zero_le _, rfl, hp, hne, F, fun _ _ => rfl, N, hst⟩
  rintro k s' ⟨i, c, h, tk, m, o, rfl, hle, rfl, hP, hne, F₁, hm, N₁, hit⟩
  have nI := N₁ _ (.head _)
  have next : ∀ h₁ : Heap, (∀ b o, b ∉ [I] → h.get? b = some o → h₁.get? b = some o) → Fr h₀ env.locals h₁ m ∧ News h₀ env.locals h₁ (Led c) := fun h₁ hk₁ =>
    ⟨⟨F₁.ns.at' fun o e => hk₁ _ o (fun q => nI.2.1 (List.mem_singleton.mp q).symm) e, fun b o e => hk₁ b o (fun q => by have := nI.2.2; rw [← List.mem_singleton.mp q, e] at this; cases this) (F₁.keep b o e), F₁.above⟩,
      fun p hp' => ⟨hk₁ _ _ (fun q => allNe_all hne p hp' (List.mem_singleton.mp q)) (N₁ p (.tail _ hp')).1, (N₁ p (.tail _ hp')).2⟩⟩
  by_cases hlt : i < n
  · refine W.item i _ _ _ hlt hit fun v h' tk₁ hPv hit' hs' => ?_
    obtain ⟨F₂, N₂⟩ := next h' hs'
    refine wpAny_assign_Name (wpAny_storeName_local hx F₂.ns (fun h₂ hn₂ hs₂ => ?_) hpc)
    obtain ⟨oi, hoi⟩ := own _ _ hit'
    have hLI : env.locals ≠ I := fun q => nI.2.1 q.symm
    have F₃ := F₂.set hn₂ hs₂
    have N₃ := N₂.set hs₂
    have gI : h₂.get? I = some oi := (hs₂.2 I (Ne.symm hLI)).trans hoi
    have NI : News h₀ env.locals h₂ ((I, oi) :: Led c) := fun p hp' => by
      rcases List.mem_cons.mp hp' with rfl | hp'
      · exact ⟨gI, nI.2⟩
      · exact N₃ p hp'
    have em : (fun y => if y = x then some v else m y) = fun y => if y = x then some v else m₀ c y := by
      funext y
      by_cases h1 : y = x
      · simp [h1]
      · simp only [if_neg h1]; exact hm y h1
    rw [em] at F₃
    refine wpAny_mono (turn i c v h₂ _ oi hlt hPv hP hne F₃ NI) (fun f s₃ h₃ => ?_) fun _ _ e => e.elim
    have fin : AEnd h₀ env.locals x m₀ Led (P (i + 1)) I oi s s₃ → ∃ m_1, m_1 < n + 1 - i ∧ ∃ i c h tk m o, m_1 = n + 1 - i ∧ i ≤ n ∧ s₃ = { s with heap := h, toks := tk } ∧ P i c ∧ AllNe I (Led c) ∧ Fr h₀ env.locals h m ∧ (∀ z, z ≠ x → m z = m₀ c z) ∧
        News h₀ env.locals h ((I, o) :: Led c) ∧ St i h := by
      rintro ⟨c', h', tk', m', news', rfl, F', N', hI', hs', hn', hm', hp'⟩
      have NL : News h₀ env.locals h' (Led c') := fun p hp => N' _ (hs' p hp)
      refine ⟨n + 1 - (i + 1), by (first | omega -splitDisjunctions | omega), i + 1, c', h', tk', m', oi, rfl, hlt, rfl, hp', hn', F', hm', fun p hp => ?_, ?_⟩
      · rcases List.mem_cons.mp hp with rfl | hp
        · exact N' _ hI'
        · exact NL p hp
      · refine fr _ c' _ _ hit' (fun o e => ?_) NL
        have : oi = o := Option.some.inj (hoi.symm.trans e)
        exact this ▸ (N' _ hI').1
    cases f with
    | next => exact fin h₃
    | cont => exact fin h₃
    | brk => exact h₃
    | ret v => exact h₃
  · have : i = n := by (first | omega -splitDisjunctions | omega)
    subst this
    refine W.done _ _ _ hit fun h' tk₁ he' => ?_
    obtain ⟨F₂, N₂⟩ := next h' he'
    have em : m = fun y => if y = x then m y else m₀ c y := by
      funext y
      by_cases h1 : y = x
      · simp [h1]
      · simp only [if_neg h1]; exact hm y h1
    rw [em] at F₂
    exact wpAny_execs_nil (done c h' _ m hP F₂ N₂)

theorem bytesWalks (hh : A.handled = none) (I : Addr) (b : Array UInt8) (t : Tok) : Walks prog w A I [I] [I] b.size (fun i v => ∃ c u, b[i]? = some c ∧ v = .int ((c.toNat : Nat) : Int) u) (fun i h => KBw.IsBytesIter h I b t i) where
  sub := fun _ hb => hb
  frame := fun _ _ _ st hk => let ⟨o, ho, r⟩ := st; ⟨o, hk I (by simp) o ho, r⟩
  item := fun i s Q E hi st hQ => by
    obtain ⟨c, hc⟩ : ∃ c, b[i]? = some c := ⟨b[i], by simp [hi]⟩
    exact KBw.next_item st hc fun h' hit hs => hQ _ h' _ ⟨c, _, hc, rfl⟩ hit fun b' o hb e => (hs.2 b' (fun q => hb (by simp [q]))).trans e
  done := fun s Q E st hQ => KBw.next_end hh st (by simp) fun h' he => hQ h' _ fun b' o hb e => he b' o (fun q => hb (by simp [q])) e
  self := fun _ _ _ _ st hQ => KBw.pyIter_self st hQ

theorem any_for_bytes {b : Array UInt8} {tb : Tok} (Led : σ → List (Addr × Obj)) (m₀ : σ → Str → Option Value) (P : Nat → σ → Prop) (c₀ : σ)
    (F : Fr h₀ env.locals s.heap (m₀ c₀)) (N : News h₀ env.locals s.heap (Led c₀)) (hp : P 0 c₀)
    (hh : A.handled = none) (hx : env.kindOf x = some .local) (hpc : (env.scope.kind == .class || (env.scope.kind == .module && env.locals != env.globals)) = false)
    (turn : ∀ i c v t h tk I o, b[i]? = some v → P i c → AllNe I (Led c) → Fr h₀ env.locals h (fun y => if y = x then some (.int ((v.toNat : Nat) : Int) t) else m₀ c y) → News h₀ env.locals h ((I, o) :: Led c) →
      wpAny (model prog w) A (execs body env) (APost h₀ env.locals x m₀ Led (P (i + 1)) I o s Q) nope { s with heap := h, toks := tk })
    (done : ∀ c h tk (u : Str → Option Value), P b.size c → Fr h₀ env.locals h (fun y => if y = x then u y else m₀ c y) → News h₀ env.locals h (Led c) → Q .next { s with heap := h, toks := tk }) :
    wpAny (model prog w) A (pyIter (.bytes b tb)) (fun it s₂ => codeN (model prog w) A (.forLoop (.Name x px) it body [] env) Q s₂) nope s := by
  refine KBw.pyIter_bytes ?_
  refine any_for_gen (bytesWalks hh s.heap.objs.size b tb) Led m₀ P c₀ _ (fun i h st => let ⟨o, ho, _⟩ := st; ⟨o, ho⟩) (fun i c h h' st hk _ => let ⟨o, ho, r⟩ := st; ⟨o, hk o ho, r⟩)
    ⟨_, Heap.get?_push_size _ rfl, rfl, rfl⟩ (F.push _) (N.push F _) (allNe_of fun p hp' => Nat.ne_of_lt (Heap.lt_size (N p hp').1)) hp hx hpc ?_ done
  rintro i c v h tk o hi ⟨v', t, hv, rfl⟩ hP hne F' N'
  exact turn i c v' t h tk _ o hv hP hne F' N'

theorem any_for_range {r : Addr} {a₀ b₀ : Int} {t₀ u₀ w₀ : Tok} {n : Nat} (Led : σ → List (Addr × Obj)) (m₀ : σ → Str → Option Value) (P : Nat → σ → Prop) (c₀ : σ)
    (hr : IsRange s.heap r a₀ b₀ 1 t₀ u₀ w₀) (hsmall : Builtin.Range.small a₀ b₀ 1 = true) (hn : Builtin.Range.rangeSize a₀ b₀ 1 = (n : Int))
    (F : Fr h₀ env.locals s.heap (m₀ c₀)) (N : News h₀ env.locals s.heap (Led c₀)) (hp : P 0 c₀)
    (hh : A.handled = none) (hx : env.kindOf x = some .local) (hpc : (env.scope.kind == .class || (env.scope.kind == .module && env.locals != env.globals)) = false)
    (turn : ∀ (i : Nat) c t h tk I o, i < n → P i c → AllNe I (Led c) → Fr h₀ env.locals h (fun y => if y = x then some (.int (a₀ + (i : Int)) t) else m₀ c y) → News h₀ env.locals h ((I, o) :: Led c) →
      wpAny (model prog w) A (execs body env) (APost h₀ env.locals x m₀ Led (P (i + 1)) I o s Q) nope { s with heap := h, toks := tk })
    (done : ∀ c h tk (u : Str → Option Value), P n c → Fr h₀ env.locals h (fun y => if y = x then u y else m₀ c y) → News h₀ env.locals h (Led c) → Q .next { s with heap := h, toks := tk }) :
    wpAny (model prog w) A (pyIter (.ref r)) (fun it s₂ => codeN (model prog w) A (.forLoop (.Name x px) it body [] env) Q s₂) nope s := by
  refine wpAny_pyIter_range hr hsmall ?_
  have W : Walks prog w A s.heap.objs.size [s.heap.objs.size] [s.heap.objs.size] n (fun i v => i < n ∧ ∃ t, v = .int (a₀ + i * 1) t)
      (fun i h => IsRangeIter h s.heap.objs.size (a₀ + (i : Nat) * 1) ((n : Int) - (i : Nat)) 1) := (Walks.range hh _ a₀ 1 n).bound
  refine any_for_gen W Led m₀ P c₀ _ (fun i h st => ⟨_, st⟩) (fun i c h h' st hk _ => hk _ st)
    (by show IsRangeIter _ _ _ _ _; rw [hn]; simpa using Heap.get?_push_size _ rfl) (F.push _) (N.push F _) (allNe_of fun p hp' => Nat.ne_of_lt (Heap.lt_size (N p hp').1)) hp hx hpc ?_ done
  rintro i c v h tk o hi ⟨_, t, rfl⟩ hP hne F' N'
  rw [Int.mul_one] at F'
  exact turn i c t h tk _ o hi hP hne F' N'

theorem any_for_ints {l : Addr} {nn : Nat} {vs : List Value} {ns : List Int} (Led : σ → List (Addr × Obj)) (m₀ : σ → Str → Option Value) (P : Nat → σ → Prop) (c₀ : σ)
    (hl : ∀ c, (l, listOf vs.toArray nn) ∈ Led c) (hi : IntsAre vs ns) (F : Fr h₀ env.locals s.heap (m₀ c₀)) (N : News h₀ env.locals s.heap (Led c₀)) (hp : P 0 c₀)
    (hh : A.handled = none) (hx : env.kindOf x = some .local) (hpc : (env.scope.kind == .class || (env.scope.kind == .module && env.locals != env.globals)) = false)
    (turn : ∀ i c n t h tk I o, ns[i]? = some n → P i c → AllNe I (Led c) → Fr h₀ env.locals h (fun y => if y = x then some (.int n t) else m₀ c y) → News h₀ env.locals h ((I, o) :: Led c) →
      wpAny (model prog w) A (execs body env) (APost h₀ env.locals x m₀ Led (P (i + 1)) I o s Q) nope { s with heap := h, toks := tk })
    (done : ∀ c h tk (u : Str → Option Value), P ns.length c → Fr h₀ env.locals h (fun y => if y = x then u y else m₀ c y) → News h₀ env.locals h (Led c) → Q .next { s with heap := h, toks := tk }) :
    wpAny (model prog w) A (pyIter (.ref l)) (fun it s₂ => codeN (model prog w) A (.forLoop (.Name x px) it body [] env) Q s₂) nope s := by
  have hl0 : s.heap.IsList l vs.toArray := News.isList N (hl c₀)
  refine wpAny_pyIter_list hl0 ?_
  have hlt : l ≠ s.heap.objs.size := Nat.ne_of_lt (by obtain ⟨o, ho, _⟩ := hl0; exact Heap.lt_size ho)
  have W := Walks.list (prog := prog) (w := w) hh s.heap.objs.size l hlt vs.toArray
  have hlen : vs.toArray.size = ns.length := by simp [hi.length]
  rw [hlen] at W
  refine any_for_gen W Led m₀ P c₀ _ (fun i h st => let ⟨o, ho, _⟩ := st.1; ⟨o, ho⟩) (fun i c h h' st hk NL => ⟨let ⟨o, ho, r⟩ := st.1; ⟨o, hk o ho, r⟩, News.isList NL (hl c)⟩)
    ⟨⟨_, Heap.get?_push_size _ rfl, rfl, rfl⟩, hl0.at fun o e => Heap.get?_push_of_some _ e⟩ (F.push _) (N.push F _) (allNe_of fun p hp' => Nat.ne_of_lt (Heap.lt_size (N p hp').1)) hp hx hpc ?_ done
  rintro i c v h tk o hi' hPv hP hne F' N'
  obtain ⟨n, t, rfl, hn⟩ := IntsAre.at hi i v (by simpa using hPv)
  exact turn i c n t h tk _ o hn hP hne F' N'
end
end Mine
end -- ALoop

section -- W2
theorem Mine.plain_W2 : True := by w_top off; trivial
open PySem PySem.W PyProof.Rows PySem.Calls PySem.Spec
set_option maxRecDepth 100000
set_option linter.unusedVariables false

namespace Mine

abbrev szE (P : Params) (k1 k2 k3 k4 k5 k6 k7 v1 v2 v3 v4 v5 v6 v7 : Tok) (e : Int) : List DictEntry :=
  [⟨PyData.keyHash P (Str.ofString "bits"), .str (Str.ofString "bits") k1, .int 8 v1⟩,
   ⟨PyData.keyHash P (Str.ofString "widest"), .str (Str.ofString "widest") k2, .int 12 v2⟩,
   ⟨PyData.keyHash P (Str.ofString "early"), .str (Str.ofString "early") k3, .int e v3⟩,
   ⟨PyData.keyHash P (Str.ofString "clear"), .str (Str.ofString "clear") k4, .int 256 v4⟩,
   ⟨PyData.keyHash P (Str.ofString "end"), .str (Str.ofString "end") k5, .int 257 v5⟩,
   ⟨PyData.keyHash P (Str.ofString "first"), .str (Str.ofString "first") k6, .int 258 v6⟩,
   ⟨PyData.keyHash P (Str.ofString "full"), .str (Str.ofString "full") k7, .int 4096 v7⟩]


theorem intBits_9 (x : Int) (h0 : 256 ≤ x) (h1 : x < 512) : Builtin.Int.intBits x = 9 := by
  unfold Builtin.Int.intBits
  have hx : (x == 0) = false := by simp; (first | with_reducible assumption | omega -splitDisjunctions | omega)
  rw [hx]
  have : x.natAbs.log2 = 8 := (Nat.log2_eq_iff (by (first | with_reducible assumption | omega -splitDisjunctions | omega))).mpr ⟨by (first | with_reducible assumption | omega -splitDisjunctions | omega), by (first | with_reducible assumption | omega -splitDisjunctions | omega)⟩
  simp [this]
theorem intBits_10 (x : Int) (h0 : 512 ≤ x) (h1 : x < 1024) : Builtin.Int.intBits x = 10 := by
  unfold Builtin.Int.intBits
  have hx : (x == 0) = false := by simp; (first | with_reducible assumption | omega -splitDisjunctions | omega)
  rw [hx]
  have : x.natAbs.log2 = 9 := (Nat.log2_eq_iff (by (first | with_reducible assumption | omega -splitDisjunctions | omega))).mpr ⟨by (first | with_reducible assumption | omega -splitDisjunctions | omega), by (first | with_reducible assumption | omega -splitDisjunctions | omega)⟩
  simp [this]
theorem width_eq (x : Int) (h0 : 256 ≤ x) (h1 : x < 1024) : (if (if ((Builtin.Int.intBits x : Nat) : Int) < 12 then ((Builtin.Int.intBits x : Nat) : Int) else 12) > 8 + 1 then
            (if ((Builtin.Int.intBits x : Nat) : Int) < 12 then ((Builtin.Int.intBits x : Nat) : Int) else 12)
          else 8 + 1) = if x < 512 then (9 : Int) else 10 := by
  by_cases h : x < 512
  · rw [intBits_9 x h0 h, if_pos h]; decide
  · rw [intBits_10 x (by (first | with_reducible assumption | omega -splitDisjunctions | omega)) h1, if_neg h]; decide
def wid (e j : Nat) : Nat := if 258 + (j - 2) + e < 512 then 9 else 10
def Zf (e : Nat) : Nat → Nat
  | 0 => 0
  | i + 1 => Zf e i + wid e i
def Lf (e : Nat) (cs : List Int) : Nat → Nat
  | 0 => 0
  | i + 1 => Lf e cs i * 2 ^ wid e i + (cs.getD i 0).toNat
structure WS where
  cnt : Int
  beg : Bool
  ba : Array UInt8
  held : Int
  bits : Int
  u1 : Tok
  u2 : Tok
  u3 : Tok

abbrev cntE (P : Params) (t1 t2 t3 : Tok) (sz : Addr) (c : Int) (u : Tok) (b : Bool) : List DictEntry :=
  [⟨PyData.keyHash P (Str.ofString "sizes"), .str (Str.ofString "sizes") t1, .ref sz⟩,
   ⟨PyData.keyHash P (Str.ofString "count"), .str (Str.ofString "count") t2, .int c u⟩,
   ⟨PyData.keyHash P (Str.ofString "is_begun"), .str (Str.ofString "is_begun") t3, .bool b⟩]
abbrev outE (P : Params) (t1 t2 t3 : Tok) (S : Addr) (h : Int) (u : Tok) (c : Int) (v : Tok) : List DictEntry :=
  [⟨PyData.keyHash P (Str.ofString "made"), .str (Str.ofString "made") t1, .ref S⟩,
   ⟨PyData.keyHash P (Str.ofString "held"), .str (Str.ofString "held") t2, .int h u⟩,
   ⟨PyData.keyHash P (Str.ofString "count"), .str (Str.ofString "count") t3, .int c v⟩]

structure PS where
  ba : Array UInt8
  held : Int
  bits : Int
  u2 : Tok
  u3 : Tok
/-- what the octets made and the bits held tell: V is the line's number, Z its bits -/
structure Held (V Z : Nat) (ba : Array UInt8) (held bits : Int) : Prop where
  h0 : 0 ≤ held
  b0 : 0 ≤ bits
  lt : held < 2 ^ bits.toNat
  val : (baVal ba : Int) * 2 ^ bits.toNat + held = V
  size : 8 * (ba.size : Int) + bits = Z
structure WI (e : Nat) (cs : List Int) (i : Nat) (c : WS) : Prop where
  cnt : c.cnt = 258 + ((i - 2 : Nat) : Int)
  beg : c.beg = decide (2 ≤ i)
  b8 : c.bits < 8
  held : Held (Lf e cs i) (Zf e i) c.ba c.held c.bits
theorem WI.start (e : Nat) (cs : List Int) (u1 u2 u3 : Tok) : WI e cs 0 ⟨258, false, #[], 0, 0, u1, u2, u3⟩ :=
  ⟨rfl, rfl, (by decide : (0:Int) < 8), ⟨Int.le_refl 0, Int.le_refl 0, (by decide : (0:Int) < 2 ^ 0), by simp [baVal_empty, Lf], by simp [Zf]⟩⟩
theorem Zf_le (e : Nat) : ∀ i, Zf e i ≤ 10 * i
  | 0 => Nat.le_refl _
  | i + 1 => by have := Zf_le e i; unfold Zf wid; split <;> (first | with_reducible assumption | omega -splitDisjunctions | omega)
theorem Held.put {V Z : Nat} {ba : Array UInt8} {held bits n : Int} {W : Nat} (h : Held V Z ba held bits) (hn0 : 0 ≤ n) (hn : n < 2 ^ W) :
    Held (V * 2 ^ W + n.toNat) (Z + W) ba (held * 2 ^ W + n) (bits + W) := by
  obtain ⟨h0, b0, lt, val, size⟩ := h
  have hp : (0:Int) < 2 ^ W := Int.pow_pos (by decide)
  have e1 : (bits + (W : Int)).toNat = bits.toNat + W := by (first | with_reducible assumption | omega -splitDisjunctions | omega)
  refine ⟨Int.add_nonneg (Int.mul_nonneg h0 (Int.le_of_lt hp)) hn0, by (first | with_reducible assumption | omega -splitDisjunctions | omega), ?_, ?_, ?_⟩
  · rw [e1, Int.pow_add]
    have : held * 2 ^ W + 2 ^ W ≤ 2 ^ bits.toNat * 2 ^ W := by
      have := Int.mul_le_mul_of_nonneg_right (Int.add_one_le_of_lt lt) (Int.le_of_lt hp)
      rw [Int.add_mul, Int.one_mul] at this
      exact this
    (first | with_reducible assumption | omega -splitDisjunctions | omega)
  · rw [e1, Int.pow_add]
    push_cast
    rw [← val, Int.toNat_of_nonneg hn0, Int.add_mul, Int.mul_assoc]
    (first | with_reducible assumption | omega -splitDisjunctions | omega)
  · push_cast; (first | with_reducible assumption | omega -splitDisjunctions | omega)
theorem Held.out {V Z : Nat} {ba : Array UInt8} {held bits : Int} (h : Held V Z ba held bits) (h8 : 8 ≤ bits) :
    0 ≤ held / 2 ^ (bits - 8).toNat ∧ held / 2 ^ (bits - 8).toNat < 256 ∧ Held V Z (ba.push (held / 2 ^ (bits - 8).toNat).toNat.toUInt8) (held % 2 ^ (bits - 8).toNat) (bits - 8) := by
  obtain ⟨h0, b0, lt, val, size⟩ := h
  obtain ⟨k, hk⟩ : ∃ k : Nat, bits = k + 8 := ⟨(bits - 8).toNat, by (first | with_reducible assumption | omega -splitDisjunctions | omega)⟩
  subst hk
  have e1 : ((k : Int) + 8 - 8).toNat = k := by (first | with_reducible assumption | omega -splitDisjunctions | omega)
  have e2 : ((k : Int) + 8).toNat = k + 8 := by (first | with_reducible assumption | omega -splitDisjunctions | omega)
  rw [e1]; rw [e2] at lt val
  have hp : (0:Int) < 2 ^ k := Int.pow_pos (by decide)
  have q0 : 0 ≤ held / 2 ^ k := Int.ediv_nonneg h0 (Int.le_of_lt hp)
  have q1 : held / 2 ^ k < 256 := by
    apply Int.ediv_lt_of_lt_mul hp
    rw [Int.pow_add] at lt
    have : (2:Int)^8 = 256 := by decide
    rw [this] at lt
    rw [Int.mul_comm]; exact lt
  refine ⟨q0, q1, Int.emod_nonneg _ (Int.ne_of_gt hp), by (first | with_reducible assumption | omega -splitDisjunctions | omega), ?_, ?_, ?_⟩
  · rw [show ((k : Int) + 8 - 8).toNat = k from e1]; exact Int.emod_lt_of_pos _ hp
  · rw [show ((k : Int) + 8 - 8).toNat = k from e1, baVal_push]
    have hb : ((held / 2 ^ k).toNat.toUInt8.toNat : Int) = held / 2 ^ k := by
      have : (held / 2 ^ k).toNat < 256 := by (first | with_reducible assumption | omega -splitDisjunctions | omega)
      rw [show (held / 2 ^ k).toNat.toUInt8.toNat = (held / 2 ^ k).toNat by simp [Nat.toUInt8, UInt8.toNat_ofNat', Nat.mod_eq_of_lt this]]
      (first | with_reducible assumption | omega -splitDisjunctions | omega)
    push_cast
    rw [hb, ← val, Int.pow_add, Int.add_mul, Int.add_assoc, Int.mul_comm (held / 2 ^ k), Int.mul_ediv_add_emod]
    rw [show (2:Int)^8 = 256 by decide, Int.mul_assoc, Int.mul_comm (256 : Int)]
  · simp only [Array.size_push]; push_cast; (first | with_reducible assumption | omega -splitDisjunctions | omega)
theorem kw_W2_1 : True := by
  k_with_none
  k_with "getMethod ref" => (k_here; (with_reducible show wpAny _ _ (getMethod (Value.ref _) (PySem.Str.ofString "append") _) _ _ _); k_dflt (refine' ba_method ?kwqN ?kwqm ?_; (case kwqN => k_asm); (case kwqm => k_mem)))
  trivial

theorem kw_W2_2 : True := by
  k_with "ite" => (k_here; k_openite; first
    | (refine ite_pos (by with_reducible assumption) ?_; walk_say "MY POS")
    | (refine ite_neg (by with_reducible assumption) ?_; walk_say "MY NEG")
    | (refine ite_neg (by ((try simp only [decide_eq_true_eq, bne_iff_ne, ne_eq, Bool.not_eq_true', beq_iff_eq, decide_eq_false_iff_not, Bool.not_eq_true, Decidable.not_not]); first | with_reducible assumption | (first | with_reducible assumption | omega -splitDisjunctions | omega))) ?_; walk_say "MY NEG")
    | (refine ite_pos (by ((try simp only [decide_eq_true_eq, bne_iff_ne, ne_eq, Bool.not_eq_true', beq_iff_eq, decide_eq_false_iff_not, Bool.not_eq_true, Decidable.not_not]); first | with_reducible assumption | (first | with_reducible assumption | omega -splitDisjunctions | omega))) ?_; walk_say "MY POS"))
  trivial

/-- write_codes as the view holds it: the loop and the scope are read off there, not written out -/
noncomputable def dWC : DefRec := ((defOf hd.view_1 (Str.ofString "write_codes")).get (by rfl)).1
noncomputable def scX : Scope := dWC.scope
noncomputable def forX : Stmt := dWC.body[2]'(by decide +kernel)
set_option maxHeartbeats 8000000 in
theorem wc_for {w : World} {outer : List Env} {base g : Heap} {mg mb : Str → Option Value} {mean : ExcName → Option Value} {loose : List Str} {s : Shared} {Q : Flow → Shared → Prop}
  {k1 k2 k3 k4 k5 k6 k7 v1 v2 v3 v4 v5 v6 v7 t1 t2 t3 t4 t5 t6 u1 u2 u3 : Tok} {e : Nat} {sz szd cl L x2 d2 S x1 d1 : Addr} {nz nc : Nat} {cvs : List Value} {cs : List Int}
  (B : Below (atop 303 10 (some []) outer) base outer g) (X : (hd.heap_1 w.params).In g) (T : Top hd.view_1 loose mean mg mb g)
  (F : Fr g L s.heap (fun y => if y = Str.ofString "count" then some (.ref x2) else if y = Str.ofString "target" then some (.ref x1) else if y = Str.ofString "codes" then some (.ref cl) else if y = Str.ofString "sizes" then some (.ref sz) else none))
  (N : News g L s.heap [(x2, instObj 219 d2), (d2, dictOf (cntE w.params t1 t2 t3 sz 258 u1 false) 3), (S, baObj #[]), (x1, instObj 155 d1), (d1, dictOf (outE w.params t4 t5 t6 S 0 u2 0 u3) 3),
    (sz, instObj 184 szd), (szd, dictOf (szE w.params k1 k2 k3 k4 k5 k6 k7 v1 v2 v3 v4 v5 v6 v7 (e : Int)) nz), (cl, listOf cvs.toArray nc)])
  (hI : IntsAre cvs cs) (he : e = 0 ∨ e = 1) (o1 : @LT.lt Nat _ d2 x2 ∧ @LT.lt Nat _ S d2 ∧ @LT.lt Nat _ x1 S ∧ @LT.lt Nat _ d1 x1 ∧ @LT.lt Nat _ sz d1 ∧ @LT.lt Nat _ szd d1 ∧ @LT.lt Nat _ cl d1)
  (hcs : ∀ (i : Nat) (n : Int), cs[i]? = some n → 0 ≤ n ∧ n < 512) (hc0 : ∀ (i : Nat) (n : Int), cs[i]? = some n → (n = 256 ↔ i = 0)) (hlen : cs.length ≤ 300)
  (done : ∀ c h' tk' (u : Str → Option Value), WI e cs cs.length c → Fr g L h' (fun y => if y = Str.ofString "code" then u y else (if y = Str.ofString "count" then some (.ref x2) else if y = Str.ofString "target" then some (.ref x1) else if y = Str.ofString "codes" then some (.ref cl) else if y = Str.ofString "sizes" then some (.ref sz) else none)) →
    News g L h' [(x2, instObj 219 d2), (d2, dictOf (cntE w.params t1 t2 t3 sz c.cnt c.u1 c.beg) 3), (S, baObj c.ba), (x1, instObj 155 d1), (d1, dictOf (outE w.params t4 t5 t6 S c.held c.u2 c.bits c.u3) 3),
    (sz, instObj 184 szd), (szd, dictOf (szE w.params k1 k2 k3 k4 k5 k6 k7 v1 v2 v3 v4 v5 v6 v7 e) nz), (cl, listOf cvs.toArray nc)] → Q .next { s with heap := h', toks := tk' }) :
  wpC (model Challenge.rw_nn0205_01.row.prog w) ((atop 303 10 (some []) outer).deeper (envOf (Str.ofString "write_codes")
        scX
        L 230 (Value.ref 229)))
    (exec forX (envOf (Str.ofString "write_codes")
        scX
        L 230 (Value.ref 229))) Q s := by
  revert T; revert X; k_fill; intro X T
  show wpC _ ((atop 303 10 (some []) outer).deeper (envOf _ (Scope.mk _ _ _ _ _) L 230 (Value.ref 229))) (exec (Stmt.For _ _ _ _ _) (envOf _ (Scope.mk _ _ _ _ _) L 230 (Value.ref 229))) Q s
  refine c_For ?_
  walk1
  refine c_for_ints (nn := nc) (vs := cvs) (ns := cs) (σ := WS) (fun c => [(x2, instObj 219 d2), (d2, dictOf (cntE w.params t1 t2 t3 sz c.cnt c.u1 c.beg) 3), (S, baObj c.ba), (x1, instObj 155 d1), (d1, dictOf (outE w.params t4 t5 t6 S c.held c.u2 c.bits c.u3) 3),
    (sz, instObj 184 szd), (szd, dictOf (szE w.params k1 k2 k3 k4 k5 k6 k7 v1 v2 v3 v4 v5 v6 v7 (e : Int)) nz), (cl, listOf cvs.toArray nc)]) (WI e cs) ⟨258, false, #[], 0, 0, u1, u2, u3⟩ (fun c => by simp) hI F N (WI.start e cs u1 u2 u3) rfl rfl rfl ?_ (fun c h' tk' u hc F' N' => done c h' tk' u hc F' N')
  intro i c n t h tk I o hn hP hne F' N'
  simp only [AllNe, and_true] at hne
  obtain ⟨nI1, nI2, nI3, nI4, nI5, nI6, nI7, nI8⟩ := hne
  clear F N
  refine c_execs_cons (c_Expr (c_MethodCallO ?_))
  k_steps
  dsimp only
  refine' c_callWith_K (K := hd.heap_1 w.params) ?k1 ?k2 ?_; (case k1 => k_asm); (case k2 => k_is)
  k_steps
  have hnr := hcs i n hn
  have hi300 : i < 300 := by
    have := (List.getElem?_eq_some_iff.mp hn).1
    (first | with_reducible assumption | omega -splitDisjunctions | omega)
  have hkind : (i = 0 ∧ n = 256 ∧ c.beg = false) ∨ (i = 1 ∧ n ≠ 256 ∧ c.beg = false) ∨ (2 ≤ i ∧ n ≠ 256 ∧ c.beg = true) := by
    have := hc0 i n hn
    have hb := hP.beg
    rcases Nat.lt_or_ge i 1 with h | h
    · left; exact ⟨by (first | with_reducible assumption | omega -splitDisjunctions | omega), this.mpr (by (first | with_reducible assumption | omega -splitDisjunctions | omega)), by rw [hb]; simp; (first | with_reducible assumption | omega -splitDisjunctions | omega)⟩
    · rcases Nat.lt_or_ge i 2 with h' | h'
      · right; left; exact ⟨by (first | with_reducible assumption | omega -splitDisjunctions | omega), fun q => by have := this.mp q; (first | with_reducible assumption | omega -splitDisjunctions | omega), by rw [hb]; simp; (first | with_reducible assumption | omega -splitDisjunctions | omega)⟩
      · right; right; exact ⟨h', fun q => by have := this.mp q; (first | with_reducible assumption | omega -splitDisjunctions | omega), by rw [hb]; simp; (first | with_reducible assumption | omega -splitDisjunctions | omega)⟩
  have hget : cs.getD i 0 = n := by simp [List.getD, hn]
  obtain ⟨cnt, beg, ba, held, bits, y1, y2, y3⟩ := c
  dsimp only at hkind N' hP ⊢
  replace hkind := hid hkind
  obtain ⟨hcnt, hbeg, hb8, hH⟩ := hP
  dsimp only at hcnt hbeg hb8 hH
  clear hbeg
  have hcr := cnt_range hcnt hi300 (Nat.le_refl 300)
  have e1 : e ≤ 1 := by rcases he with rfl | rfl <;> decide
  have hc1 : 258 ≤ cnt ∧ cnt < 600 := by omega
  have hce : cnt + (e : Int) < 1024 := by omega
  have hheld : 0 ≤ held ∧ held < 128 := by
    refine ⟨hH.h0, Int.lt_of_lt_of_le hH.lt ?_⟩
    have : bits.toNat ≤ 7 := by have := hH.b0; (first | with_reducible assumption | omega -splitDisjunctions | omega)
    exact_mod_cast Nat.pow_le_pow_right (by decide : 0 < 2) this
  have hbits : 0 ≤ bits := hH.b0
  rw [width_eq (cnt + (e : Int)) (by (first | with_reducible assumption | omega -splitDisjunctions | omega)) (by (first | with_reducible assumption | omega -splitDisjunctions | omega))]
  have hwid : (if cnt + (e : Int) < 512 then (9 : Int) else 10) = ((wid e i : Nat) : Int) := by
    unfold wid; rw [hcnt]; split <;> split <;> first | rfl | (first | with_reducible assumption | omega -splitDisjunctions | omega)
  generalize hW : (if cnt + (e : Int) < 512 then (9 : Int) else 10) = W at *
  have hW9 : Hid (W = 9 ∨ W = 10) := hid (by rw [← hW]; split <;> simp)
  have hWr : 9 ≤ W ∧ W ≤ 10 := by rcases hW9 with rfl | rfl <;> decide
  have hW0 : 0 ≤ W := by (first | with_reducible assumption | omega -splitDisjunctions | omega)
  have hfit : n.fdiv (2 ^ W.toNat) = 0 := by
    rcases hW9 with rfl | rfl
    · show n.fdiv 512 = 0
      rw [Int.fdiv_eq_ediv_of_nonneg _ (by decide)]; (first | with_reducible assumption | omega -splitDisjunctions | omega)
    · show n.fdiv 1024 = 0
      rw [Int.fdiv_eq_ediv_of_nonneg _ (by decide)]; (first | with_reducible assumption | omega -splitDisjunctions | omega)
  clear hW
  refine c_call ?_
  (refine' codeC_def ?k1 ?k2 ?k3 ?k4 ?k5 ?kA ?kF ?kK ?k6 ?k7 ?k8 ?k9 ?kB ?_ ?c2 ?c3 ?c4 ?c5; (case kA => exact rfl); (case kF => exact rfl); (case kK => exact rfl); (case k1 => k_asm); (case k2 => k_asm); (case k3 => k_asm); (case k4 => k_asm); (case k5 => k_asm); (case k6 => k_is); (case k7 => k_is); (case k8 => k_room); (case k9 => (first | exact BindsTo.of_eq rfl | exact binds_K (by k_in) rfl (by k_is) rfl rfl rfl | fail "no rule for these arguments")); (case c5 => decide); (case kB => exact locs rfl); (case c2 => exact rfl); (case c3 => exact rfl); (case c4 => exact rfl); k_whole; intro g' L' h' FG' F' N' B' X' T'; (try dsimp only); (try k_lift B'))
  refine c_execs_consO ?_
  k_steps
  (try dsimp only); refine c_execs_consO ?_; k_steps; (try dsimp only)
  (try dsimp only); refine c_execs_consO ?_; k_steps; (try dsimp only)
  (rename News _ _ _ _ => NN)
  have hnW : n < 2 ^ W.toNat := by
    rcases hW9 with rfl | rfl
    · show n < 512; (first | with_reducible assumption | omega -splitDisjunctions | omega)
    · show n < 1024; (first | with_reducible assumption | omega -splitDisjunctions | omega)
  rw [or_add held n W.toNat hheld.1 hnr.1 hnW] at NN
  have hH1 := hH.put hnr.1 hnW
  have hWe : W = (wid e i : Int) := hwid
  have hWn : W.toNat = wid e i := by (first | with_reducible assumption | omega -splitDisjunctions | omega)
  have hV : Lf e cs i * 2 ^ W.toNat + n.toNat = Lf e cs (i + 1) := by rw [hWn]; simp only [Lf, hget]
  have hZ : Zf e i + W.toNat = Zf e (i + 1) := by rw [hWn]; rfl
  rw [hV, hZ, show ((W.toNat : Nat) : Int) = W by (first | with_reducible assumption | omega -splitDisjunctions | omega)] at hH1
  clear hH
  have hZ3 : Zf e (i + 1) ≤ 3010 := Nat.le_trans (Zf_le e (i + 1)) (by (first | with_reducible assumption | omega -splitDisjunctions | omega))
  refine c_execs_cons (c_While ?_)
  refine c_while_news (σ := PS) (fun c => [(I, o), (x2, instObj 219 d2), (d2, dictOf (cntE w.params t1 t2 t3 sz cnt y1 beg) 3), (S, baObj c.ba), (x1, instObj 155 d1), (d1, dictOf (outE w.params t4 t5 t6 S c.held c.u2 c.bits c.u3) 3),
    (sz, instObj 184 szd), (szd, dictOf (szE w.params k1 k2 k3 k4 k5 k6 k7 v1 v2 v3 v4 v5 v6 v7 e) nz), (cl, listOf cvs.toArray nc)]) (fun c => c.bits < 18 ∧ Held (Lf e cs (i + 1)) (Zf e (i + 1)) c.ba c.held c.bits) (fun c => c.bits.toNat) ⟨ba, _, _, _, _⟩ (by k_asm) NN ⟨by dsimp only; (first | with_reducible assumption | omega -splitDisjunctions | omega), hH1⟩ ?_
  rintro ⟨ba', held', bits', z2, z3⟩ h2 tk2 hP F2 N2
  clear NN
  dsimp only at hP N2 ⊢
  obtain ⟨hb18, hH2⟩ := hP
  have hb20 : 0 ≤ bits' := hH2.b0
  have hh20 : 0 ≤ held' := hH2.h0
  k_steps
  · -- a whole octet
    have h8 : 8 ≤ bits' := by assumption
    obtain ⟨q0, q1, hH3⟩ := hH2.out h8
    (try dsimp only); refine c_execs_consO ?_; k_steps; (try dsimp only)
    refine c_execs_cons (c_Expr (c_MethodCallO ?_))
    k_steps
    dsimp only
    refine c_callWith_B ?_
    k_steps
    (try dsimp only [List.cons_append, List.nil_append])
    rw [fdiv_pow held' (bits' - 8).toNat hh20]
    refine' ba_append_news ?k1 ?k2 ?k3 q0 q1 ?k4 ?k5 ?_; (case k1 => k_asm); (case k2 => k_asm); (case k3 => k_upd); (case k4 => (have := hH2.size; rw [sizeLine_eq]; (first | with_reducible assumption | omega -splitDisjunctions | omega))); (case k5 => exact rfl)
    intro h' F' N'; (try k_sweep)
    (try dsimp only); refine c_execs_consO ?_; k_steps; (try dsimp only)
    refine c_execs_nil ?_
    dsimp only [WPost]
    (rename News _ _ _ _ => NN)
    rw [and_mask held' (bits' - 8).toNat hh20] at NN
    exact WEnd.intro ⟨_, _, _, _, _⟩ (by k_asm) NN (fun p hp => hp) (fun _ => rfl) ⟨by dsimp only; (first | with_reducible assumption | omega -splitDisjunctions | omega), hH3⟩ (by dsimp only; (first | with_reducible assumption | omega -splitDisjunctions | omega))
  · have h8 : ¬ 8 ≤ bits' := by assumption
    (try dsimp only)
    refine c_execs_nil ?_
    k_steps
    (try dsimp only)
    clear F' N'
    have hnc := hcnt
    replace hWn := hid hWn
    rcases hkind with ⟨rfl, rfl, rfl⟩ | ⟨rfl, hn2, rfl⟩ | ⟨hi2, hn2, rfl⟩
    · (try dsimp only); refine c_execs_consO ?_; k_steps; (try dsimp only)
      refine c_execs_nil ?_
      dsimp only [FPost]
      (rename News _ _ _ _ => NN)
      exact FEnd.intro ⟨_, _, _, _, _, _, _, _⟩ (by k_asm) NN (.head _) (fun p hp => .tail _ hp) (by simp only [AllNe, and_true]; exact ⟨nI1, nI2, nI3, nI4, nI5, nI6, nI7, nI8⟩) (fun z hz => if_neg hz) ⟨by dsimp only; (first | with_reducible assumption | omega -splitDisjunctions | omega), rfl, by dsimp only; (first | with_reducible assumption | omega -splitDisjunctions | omega), hH2⟩
    · (try dsimp only); refine c_execs_consO ?_; k_steps; (try dsimp only)
      refine c_execs_nil ?_
      dsimp only [FPost]
      (rename News _ _ _ _ => NN)
      exact FEnd.intro ⟨_, _, _, _, _, _, _, _⟩ (by k_asm) NN (.head _) (fun p hp => .tail _ hp) (by simp only [AllNe, and_true]; exact ⟨nI1, nI2, nI3, nI4, nI5, nI6, nI7, nI8⟩) (fun z hz => if_neg hz) ⟨by dsimp only; (first | with_reducible assumption | omega -splitDisjunctions | omega), rfl, by dsimp only; (first | with_reducible assumption | omega -splitDisjunctions | omega), hH2⟩
    · have hcn := cnt_next hcnt hi2
      (try dsimp only); refine c_execs_consO ?_; k_steps; (try dsimp only)
      refine c_execs_nil ?_
      dsimp only [FPost]
      (rename News _ _ _ _ => NN)
      exact FEnd.intro ⟨_, _, _, _, _, _, _, _⟩ (by k_asm) NN (.head _) (fun p hp => .tail _ hp) (by simp only [AllNe, and_true]; exact ⟨nI1, nI2, nI3, nI4, nI5, nI6, nI7, nI8⟩) (fun z hz => if_neg hz) ⟨by dsimp only; (first | with_reducible assumption | omega -splitDisjunctions | omega), by dsimp only; simp; (first | with_reducible assumption | omega -splitDisjunctions | omega), by dsimp only; (first | with_reducible assumption | omega -splitDisjunctions | omega), hH2⟩
end Mine
end -- W2

section -- W3
theorem Mine.plain_W3 : True := by w_top off; trivial
open PySem PySem.W PyProof.Rows PySem.Calls PySem.Spec
set_option maxRecDepth 100000
set_option linter.unusedVariables false

namespace Mine

theorem kw_W3_1 : True := by
  k_with_none
  k_with "ite" => (k_here; k_openite; first
    | (refine ite_pos (by with_reducible assumption) ?_; walk_say "MY POS")
    | (refine ite_neg (by with_reducible assumption) ?_; walk_say "MY NEG")
    | (refine ite_neg (by ((try simp only [decide_eq_true_eq, bne_iff_ne, ne_eq, Bool.not_eq_true', beq_iff_eq, decide_eq_false_iff_not, Bool.not_eq_true, Decidable.not_not]); first | with_reducible assumption | (first | with_reducible assumption | omega -splitDisjunctions | omega))) ?_; walk_say "MY NEG")
    | (refine ite_pos (by ((try simp only [decide_eq_true_eq, bne_iff_ne, ne_eq, Bool.not_eq_true', beq_iff_eq, decide_eq_false_iff_not, Bool.not_eq_true, Decidable.not_not]); first | with_reducible assumption | (first | with_reducible assumption | omega -splitDisjunctions | omega))) ?_; walk_say "MY POS"))
  trivial

theorem kw_W3_2 : True := by
  k_with "call type:bytes" => (k_here; (with_reducible show wpAny _ _ (call (Value.type "bytes") [Value.ref _]) _ _ _); k_dflt (refine' bytes_ba_news ?kwqN ?kwqm ?kwqz ?_; (case kwqN => k_asm); (case kwqm => k_mem); (case kwqz => (first | assumption | (rw [sizeLine_eq]; (first | with_reducible assumption | omega -splitDisjunctions | omega))))); intro _ _)
  trivial

theorem kw_W3_3 : True := by
  k_with "binaryOp Add bytes bytes" => (k_here; (with_reducible show wpAny _ _ (binaryOp Operator.Add (Value.bytes _ _) (Value.bytes _ _)) _ _ _); (refine KBy.add_bytes (by ((try simp only [List.size_toArray, List.length_cons, List.length_nil]); (first | with_reducible assumption | omega -splitDisjunctions | omega))) ?_); intro _ _)
  trivial

theorem frEq {h₀ h : Heap} {L : Addr} {m m' : Str → Option Value} (F : Fr h₀ L h m) (e : ∀ y, m y = m' y) : Fr h₀ L h m' := by
  rw [← funext e]; exact F
theorem lookup2 {a b : Str} {v u : Value} (y : Str) : List.lookup y [(a, v), (b, u)] = if y = a then some v else if y = b then some u else none := by
  simp only [List.lookup]
  by_cases h1 : y = a
  · subst h1; simp
  · rw [if_neg h1, show (y == a) = false by simpa using h1]
    by_cases h2 : y = b
    · subst h2; simp
    · rw [if_neg h2, show (y == b) = false by simpa using h2]
set_option maxHeartbeats 8000000 in
theorem wc (w : World) (outer : List Env) (base g : Heap) (mg mb : Str → Option Value) (mean : ExcName → Option Value) (loose : List Str) (s : Shared) (Q : Value → Shared → Prop)
  (k1 k2 k3 k4 k5 k6 k7 v1 v2 v3 v4 v5 v6 v7 : Tok) (e : Nat) (sz szd cl : Addr) (nz nc : Nat) (cvs : List Value) (cs : List Int)
  (B : Below (atop 303 10 (some []) outer) base outer g) (X : (hd.heap_1 w.params).In g) (T : Top hd.view_1 loose mean mg mb g) (hs : g.StaysIn s.heap) (hz : g.objs.size ≤ s.heap.objs.size)
  (hN : ∀ q ∈ [(sz, instObj 184 szd), (szd, dictOf (szE w.params k1 k2 k3 k4 k5 k6 k7 v1 v2 v3 v4 v5 v6 v7 (e : Int)) nz), (cl, listOf cvs.toArray nc)], s.heap.get? q.1 = some q.2 ∧ g.get? q.1 = none)
  (hI : IntsAre cvs cs) (he : e = 0 ∨ e = 1)
  (hcs : ∀ (i : Nat) (n : Int), cs[i]? = some n → 0 ≤ n ∧ n < 512) (hc0 : ∀ (i : Nat) (n : Int), cs[i]? = some n → (n = 256 ↔ i = 0)) (hlen : cs.length ≤ 300)
  (ret : ∀ b t h' tk' (pad : Nat), g.StaysIn h' → (∀ q ∈ [(sz, instObj 184 szd), (szd, dictOf (szE w.params k1 k2 k3 k4 k5 k6 k7 v1 v2 v3 v4 v5 v6 v7 (e : Int)) nz), (cl, listOf cvs.toArray nc)], h'.get? q.1 = some q.2) →
    pad < 8 → 8 * b.size = Zf e cs.length + pad → baVal b = Lf e cs cs.length * 2 ^ pad → Q (.bytes b t) { s with heap := h', toks := tk' }) :
  codeC (model Challenge.rw_nn0205_01.row.prog w) (atop 303 10 (some []) outer) (.call (.ref 230) ⟨[.ref sz, .ref cl], []⟩) (fun fl s' => match fl with | .ret v => Q v s' | _ => False) s := by
  revert T; revert X; k_fill; intro X T
  (refine' enter_smallC X T hs hz hN ?k6 ?k7 ?k8 ?k9 ?kB ?_ ?c2 ?c3 ?c4 ?c5; (case k6 => k_is); (case k7 => k_is); (case k8 => k_room); (case k9 => (first | exact BindsTo.of_eq rfl | exact binds_K (by k_in) rfl (by k_is) rfl rfl rfl | fail "no rule for these arguments")); (case c5 => decide); (case kB => exact locs rfl); (case c2 => exact rfl); (case c3 => exact rfl); (case c4 => exact rfl); k_whole; intro L' h' F' N' l1 hL; (try k_lt l1); (try dsimp only))
  clear hN
  -- target = HighBitsOut()
  refine c_execs_cons (c_Assign_Name (c_CallO ?_))
  k_steps
  refine c_callWith_K0 (K := hd.heap_1 w.params) (by k_in) (by k_is) ?_
  (refine' c_make ?k1 ?k2 ?k3 ?k4 ?k5 ?k6 ?_; (case k1 => k_asm); (case k2 => k_asm); (case k3 => k_asm); (case k4 => k_is); (case k5 => k_is); (case k6 => k_is); k_whole; intro x' d' h' F' N' l1 l2; (try k_lt l1); (try k_lt2 l2); (try k_sweep))
  (refine' codeC_def ?k1 ?k2 ?k3 ?k4 ?k5 ?kA ?kF ?kK ?k6 ?k7 ?k8 ?k9 ?kB ?_ ?c2 ?c3 ?c4 ?c5; (case kA => exact rfl); (case kF => exact rfl); (case kK => exact rfl); (case k1 => k_asm); (case k2 => k_asm); (case k3 => k_asm); (case k4 => k_asm); (case k5 => k_asm); (case k6 => k_is); (case k7 => k_is); (case k8 => k_room); (case k9 => (first | exact BindsTo.of_eq rfl | exact binds_K (by k_in) rfl (by k_is) rfl rfl rfl | fail "no rule for these arguments")); (case c5 => decide); (case kB => exact locs rfl); (case c2 => exact rfl); (case c3 => exact rfl); (case c4 => exact rfl); k_whole; intro g' L' h' FG' F' N' B' X' T'; (try dsimp only); (try k_lift B'))
  refine c_execs_cons (c_Assign_Attribute (c_CallO ?_))
  k_steps
  refine c_callWith_T0 ?_
  (refine' ba_new_news ?k1 ?k2 ?k3 ?_; (case k1 => k_asm); (case k2 => k_asm); (case k3 => exact rfl); k_whole; intro S' h' F' N' l1; (try k_lt l1); (try k_sweep))
  k_steps
  (try dsimp only); refine c_of ?_
  k_steps
  -- count = Count(sizes)
  (try dsimp only); refine c_execs_consO ?_
  k_steps
  (try dsimp only)
  (rename Fr _ _ _ _ => FF); (rename News _ _ _ _ => NN)
  refine c_execs_cons ?_
  refine' wc_for B X T ?kF ?kN hI he ?ko hcs hc0 hlen ?kd
  case kN => exact NN
  case ko => (refine ⟨?_, ?_, ?_, ?_, ?_, ?_, ?_⟩ <;> (first | with_reducible assumption | omega -splitDisjunctions | omega))
  case kF => exact frEq FF fun y => by show (if y = _ then _ else if y = _ then _ else List.lookup y [(_, _), (_, _)]) = _; rw [lookup2]
  case kd =>
    clear FF NN
    intro c h' tk' u hc F' N'
    (try dsimp only)
    obtain ⟨cnt, beg, ba, held, bits, y1, y2, y3⟩ := c
    obtain ⟨hcnt, hbeg, hb8, hH⟩ := hc
    dsimp only at hcnt hbeg hb8 hH F' N' ⊢
    have hheld : 0 ≤ held ∧ held < 128 := by
      refine ⟨hH.h0, Int.lt_of_lt_of_le hH.lt ?_⟩
      have : bits.toNat ≤ 7 := by have := hH.b0; (first | with_reducible assumption | omega -splitDisjunctions | omega)
      exact_mod_cast Nat.pow_le_pow_right (by decide : 0 < 2) this
    have hbits : 0 ≤ bits := hH.b0
    have hZ3 : Zf e cs.length ≤ 3000 := Nat.le_trans (Zf_le e cs.length) (by (first | with_reducible assumption | omega -splitDisjunctions | omega))
    have hsz : ba.size ≤ 400 := by have := hH.size; (first | with_reducible assumption | omega -splitDisjunctions | omega)
    have hx0 : 0 ≤ held * 2 ^ (8 - bits).toNat := Int.mul_nonneg hheld.1 (Int.le_of_lt (Int.pow_pos (by decide)))
    have hx1 : held * 2 ^ (8 - bits).toNat < 256 := by
      have h1 := Int.mul_lt_mul_of_pos_right hH.lt (Int.pow_pos (by decide) : (0:Int) < 2 ^ (8 - bits).toNat)
      rw [← Int.pow_add, show bits.toNat + (8 - bits).toNat = 8 by (first | with_reducible assumption | omega -splitDisjunctions | omega)] at h1
      exact h1
    refine c_of ?_
    k_steps
    all_goals (try dsimp only)
    · -- no bits held
      have hb : bits = 0 := by assumption
      subst hb
      (rename Fr _ _ _ _ => FF); (rename News _ _ _ _ => NN)
      have hlt := hH.lt
      have hv := hH.val
      have hs8 := hH.size
      have h0 : held = 0 := by
        have : (2:Int) ^ (0:Int).toNat = 1 := rfl
        rw [this] at hlt; (first | with_reducible assumption | omega -splitDisjunctions | omega)
      subst h0
      have p0 : (2:Int) ^ (0:Int).toNat = 1 := rfl
      rw [p0] at hv
      exact ret _ _ _ _ 0 FF.keep (fun q hq => (NN q (by first | exact .tail _ (.tail _ (.tail _ (.tail _ (.tail _ hq)))) | exact .tail _ (.tail _ (.tail _ (.tail _ (.tail _ (.tail _ hq))))) | exact .tail _ (.tail _ (.tail _ (.tail _ (.tail _ (.tail _ (.tail _ hq)))))))).1) (by decide) (by (first | with_reducible assumption | omega -splitDisjunctions | omega)) (by (first | with_reducible assumption | omega -splitDisjunctions | omega))
    · have hb : ¬ bits = 0 := by assumption
      (rename Fr _ _ _ _ => FF); (rename News _ _ _ _ => NN)
      have hv := hH.val
      have hs8 := hH.size
      refine ret _ _ _ _ (8 - bits).toNat FF.keep (fun q hq => (NN q (by first | exact .tail _ (.tail _ (.tail _ (.tail _ (.tail _ hq)))) | exact .tail _ (.tail _ (.tail _ (.tail _ (.tail _ (.tail _ hq))))) | exact .tail _ (.tail _ (.tail _ (.tail _ (.tail _ (.tail _ (.tail _ hq)))))))).1) (by (first | with_reducible assumption | omega -splitDisjunctions | omega)) ?_ ?_
      · simp only [Array.size_append, List.size_toArray, List.length_cons, List.length_nil]
        (first | with_reducible assumption | omega -splitDisjunctions | omega)
      · have ex : ((held * 2 ^ (8 - bits).toNat).toNat.toUInt8.toNat : Int) = held * 2 ^ (8 - bits).toNat := by
          have hl : (held * 2 ^ (8 - bits).toNat).toNat < 256 := by (first | with_reducible assumption | omega -splitDisjunctions | omega)
          rw [show (held * 2 ^ (8 - bits).toNat).toNat.toUInt8.toNat = (held * 2 ^ (8 - bits).toNat).toNat by simp [Nat.toUInt8, UInt8.toNat_ofNat', Nat.mod_eq_of_lt hl]]
          (first | with_reducible assumption | omega -splitDisjunctions | omega)
        have e1 : ba ++ #[(held * 2 ^ (8 - bits).toNat).toNat.toUInt8] = ba.push (held * 2 ^ (8 - bits).toNat).toNat.toUInt8 := by simp
        have e2 : (baVal (ba.push (held * 2 ^ (8 - bits).toNat).toNat.toUInt8) : Int) = Lf e cs cs.length * 2 ^ (8 - bits).toNat := by
          rw [baVal_push]
          push_cast
          rw [ex, ← hv, Int.add_mul, Int.mul_assoc, ← Int.pow_add, show bits.toNat + (8 - bits).toNat = 8 by (first | with_reducible assumption | omega -splitDisjunctions | omega)]
          rfl
        rw [e1]
        exact_mod_cast e2
end Mine
end -- W3

section -- KTab
theorem Mine.plain_KTab : True := by w_top off; trivial
open PySem PySem.W PyProof.Rows PySem.Calls PySem.Spec
set_option maxRecDepth 100000
set_option linter.unusedVariables false
namespace Mine

section
variable {prog : Program} {w : World} {A : Around} {E : Value → Shared → Prop} {s : Shared} {h₀ : Heap} {L d a : Addr} {m : Str → Option Value} {news keys : List (Addr × Obj)} {o ok : Obj} {f : Int → Int → Option Int} {n : Nat} {x y : Int} {g : Obj → List (Addr × Obj)}

def KTab (prog : Program) (w : World) (d : Addr) (o : Obj) (keys : List (Addr × Obj)) (f : Int → Int → Option Int) (n : Nat) : Prop :=
  (d == sysModules) = false ∧ ∃ es ep, ∃ xs : List (List Int × Addr × Value), o.ExactDict ∧ o.data = .dict es ep ∧ es.toList = xs.map (entryOfKey (tupleKind (intKind prog w))) ∧ (xs.map (·.1)).Nodup ∧
    (∀ q ∈ xs, ∃ okq, (q.2.1, okq) ∈ keys ∧ TupKeyObj (intKind prog w) q.1 okq) ∧
    (∀ u v z, f u v = some z → ∃ ad t, atKey xs [u, v] = some (ad, .int z t)) ∧ (∀ u v, f u v = none → atKey xs [u, v] = none) ∧ xs.length = n

theorem KTab.new (lo : (d == sysModules) = false) (hd : o.IsDictOf (intKind prog w) []) : KTab prog w d o [] (fun _ _ => none) 0 := by
  obtain ⟨es, ep, hc, hdat, _, hp, _⟩ := hd
  have he : es.toList = [] := List.length_eq_zero_iff.mp hp.length
  exact ⟨lo, es, ep, [], hc, hdat, he, List.nodup_nil, (fun _ hx => nomatch hx), (fun _ _ _ h => nomatch h), (fun _ _ _ => rfl), rfl⟩

theorem KTab.at (T : KTab prog w d o keys f n) (N : News h₀ L s.heap news) (hd : (d, o) ∈ news) (hk : ∀ p ∈ keys, p ∈ news) : (d == sysModules) = false ∧ ∃ xs : List (List Int × Addr × Value), s.heap.DictOfH (tupleKind (intKind prog w)) d xs ∧
    (∀ q ∈ xs, ∃ okq, (q.2.1, okq) ∈ keys ∧ TupKeyObj (intKind prog w) q.1 okq) ∧ (∀ u v z, f u v = some z → ∃ ad t, atKey xs [u, v] = some (ad, .int z t)) ∧ (∀ u v, f u v = none → atKey xs [u, v] = none) ∧ xs.length = n :=
  let ⟨lo, es, ep, xs, hc, hdat, he, hn, hks, h1, h2, h3⟩ := T
  ⟨lo, xs, ⟨o, es, ep, N.get hd, hc, hdat, he, fun q hq => let ⟨_, hm, t⟩ := hks q hq; t.key (N.get (hk _ hm)), hn⟩, hks, h1, h2, h3⟩

theorem kt_in {Q : Value → Shared → Prop} (T : KTab prog w d o keys f n) (hu : A.units + 1 < cLine) (N : News h₀ L s.heap news) (hd : (d, o) ∈ news) (hk : ∀ p ∈ keys, p ∈ news) (hka : (a, ok) ∈ news) (tk : TupKeyObj (intKind prog w) [x, y] ok)
    (h : Q (.bool (f x y).isSome) { s with toks := s.toks + 3 }) : wpAny (model prog w) A (compareOp .In (.ref a) (.ref d)) Q E s := by
  obtain ⟨lo, xs, hD, _, h1, h2, _⟩ := T.at N hd hk
  refine wpAny_in_heap (knd := tupleKind (intKind prog w)) (tupleKind_room_in1 hu) (tk.key (N.get hka)) lo hD ?_
  have : (atKey xs [x, y]).isSome = (f x y).isSome := by
    cases hf : f x y with
    | none => rw [h2 _ _ hf]; rfl
    | some z => obtain ⟨ad, t, e⟩ := h1 _ _ _ hf; rw [e]; rfl
  rw [this]; exact h

theorem kt_in_yes {z : Int} {Q : Value → Shared → Prop} (T : KTab prog w d o keys f n) (hu : A.units + 1 < cLine) (N : News h₀ L s.heap news) (hd : (d, o) ∈ news) (hk : ∀ p ∈ keys, p ∈ news) (hka : (a, ok) ∈ news) (tk : TupKeyObj (intKind prog w) [x, y] ok)
    (hf : f x y = some z) (h : Q (.bool true) { s with toks := s.toks + 3 }) : wpAny (model prog w) A (compareOp .In (.ref a) (.ref d)) Q E s := kt_in T hu N hd hk hka tk (by rw [hf]; exact h)
theorem kt_in_no {Q : Value → Shared → Prop} (T : KTab prog w d o keys f n) (hu : A.units + 1 < cLine) (N : News h₀ L s.heap news) (hd : (d, o) ∈ news) (hk : ∀ p ∈ keys, p ∈ news) (hka : (a, ok) ∈ news) (tk : TupKeyObj (intKind prog w) [x, y] ok)
    (hf : f x y = none) (h : Q (.bool false) { s with toks := s.toks + 3 }) : wpAny (model prog w) A (compareOp .In (.ref a) (.ref d)) Q E s := kt_in T hu N hd hk hka tk (by rw [hf]; exact h)

theorem kt_item {value slice : Expr} {z : Int} {Q : Value → Shared → Prop} (T : KTab prog w d o keys f n) (hu : A.units + 1 < cLine) (N : News h₀ L s.heap news) (hd : (d, o) ∈ news) (hk : ∀ p ∈ keys, p ∈ news) (hka : (a, ok) ∈ news) (tk : TupKeyObj (intKind prog w) [x, y] ok)
    (hf : f x y = some z) (h : ∀ t, Q (.int z t) { s with toks := s.toks + 3 })
    (hs : subscripted slice false (.ref d) (.ref a) = operate [.ref d, .ref a] (getItem (.ref d) (.ref a)) := by with_unfolding_all rfl) (hg : ∀ r, letTemporaryGo value (.ref d) r = pure () := by intro _; with_unfolding_all rfl) :
    wpAny (model prog w) A (subscriptTail value slice (.ref d) (.ref a)) Q E s := by
  obtain ⟨lo, xs, hD, _, h1, h2, _⟩ := T.at N hd hk
  obtain ⟨ad, t, e⟩ := h1 _ _ _ hf
  exact subscriptTail_builtin hD.typeIs slot_dict_getitem.lookup (wpAny_getItem_heap (knd := tupleKind (intKind prog w)) (tupleKind_room_in1 hu) (tk.key (N.get hka)) hD e (h t)) hs hg

theorem atKey_append (xs : List (List Int × Addr × Value)) (k k' : List Int) (p : Addr × Value) : atKey (xs ++ [(k, p)]) k' = match atKey xs k' with | some q => some q | none => if k = k' then some p else none := by
  induction xs with
  | nil =>
    by_cases h : k = k' <;> simp [atKey, h]
  | cons z zs ih =>
    by_cases h : z.1 = k'
    · simp [atKey, h]
    · simpa [atKey, h] using ih

def updF (f : Int → Int → Option Int) (x y z : Int) : Int → Int → Option Int := fun u v => if u = x ∧ v = y then some z else f u v

theorem kt_set {z : Int} {t : Tok} {Q : Unit → Shared → Prop} (T : KTab prog w d o keys f n) (hu : A.units + 1 < cLine) (F : Fr h₀ L s.heap m) (N : News h₀ L s.heap news) (U : UpdF d o news g) (hk : ∀ p ∈ keys, p ∈ news) (hka : (a, ok) ∈ news) (tk : TupKeyObj (intKind prog w) [x, y] ok)
    (hf : f x y = none) (hn : n ≤ sizeLine) (h : ∀ h' o', Fr h₀ L h' m → News h₀ L h' (g o') → KTab prog w d o' ((a, ok) :: keys) (updF f x y z) (n + 1) → Q () { s with heap := h', toks := s.toks + 3 }) :
    wpAny (model prog w) A (setItem (.ref d) (.ref a) (.int z t)) Q E s := by
  obtain ⟨pre, post, rfl, hg, ha, hb⟩ := U.split
  have hd : (d, o) ∈ pre ++ (d, o) :: post := List.mem_append.mpr (.inr (.head _))
  obtain ⟨lo, xs, hD, hks, h1, h2, h3⟩ := T.at N hd hk
  refine wpAny_setItem_heap (hsz := by (first | omega -splitDisjunctions | omega)) (knd := tupleKind (intKind prog w)) (tupleKind_room_in1 hu) (tk.key (N.get hka)) hD fun h' hm' hs => ?_
  have nD := N _ hd
  obtain ⟨o', es', ep', ho', hc', hd', he', _, hn'⟩ := hm'
  refine h h' o' (F.change hs nD.2.1 nD.2.2) (by rw [hg]; exact news_set N ha hb hs ho') ?_
  rw [storedH_new (h2 _ _ hf)] at he' hn'
  refine ⟨lo, es', ep', _, hc', hd', he', hn', ?_, ?_, ?_, by simp [h3]⟩
  · intro q hq
    rcases List.mem_append.mp hq with hq | hq
    · obtain ⟨okq, hm, tq⟩ := hks q hq
      exact ⟨okq, .tail _ hm, tq⟩
    · simp only [List.mem_singleton] at hq
      subst hq
      exact ⟨ok, .head _, tk⟩
  · intro u v z' hz
    unfold updF at hz
    rw [atKey_append]
    by_cases huv : u = x ∧ v = y
    · rw [if_pos huv] at hz
      obtain ⟨rfl, rfl⟩ := huv
      obtain rfl := Option.some.inj hz
      rw [h2 _ _ hf]
      simp
    · rw [if_neg huv] at hz
      obtain ⟨ad, t', e⟩ := h1 _ _ _ hz
      rw [e]
      exact ⟨ad, t', rfl⟩
  · intro u v hz
    unfold updF at hz
    rw [atKey_append]
    by_cases huv : u = x ∧ v = y
    · rw [if_pos huv] at hz; cases hz
    · rw [if_neg huv] at hz
      rw [h2 _ _ hz]
      simp only [List.cons.injEq, and_true]
      rw [if_neg fun q => huv ⟨q.1.symm, q.2.symm⟩]
end
structure PkP where
  code : Int
  f : Int → Int → Option Int
  cnt : Int
  out : List Int
def pkStep (c : PkP) (x : Int) : PkP := if c.code < 0 then { c with code := x } else match c.f c.code x with
  | some z => { c with code := z }
  | none => ⟨x, updF c.f c.code x c.cnt, c.cnt + 1, c.out ++ [c.code]⟩
def pkRun (xs : List Int) : PkP := xs.foldl pkStep ⟨-1, fun _ _ => none, 258, [256]⟩
def pkAll (xs : List Int) : List Int := (if 0 ≤ (pkRun xs).code then (pkRun xs).out ++ [(pkRun xs).code] else (pkRun xs).out) ++ [257]
theorem pkRun_take (xs : List Int) (i : Nat) (x : Int) (h : xs[i]? = some x) : pkRun (xs.take (i + 1)) = pkStep (pkRun (xs.take i)) x := by
  rw [List.take_succ, h]; simp [pkRun]
end Mine
end -- KTab

section -- P2
theorem Mine.plain_P2 : True := by w_top off; trivial
open PySem PySem.W PyProof.Rows PySem.Calls PySem.Spec
set_option maxRecDepth 100000
set_option linter.unusedVariables false

namespace Mine
theorem kw_P2_1 : True := by
  k_with_none
  k_with "ite" => (k_here; k_openite; first
    | (refine ite_pos (by with_reducible assumption) ?_; walk_say "MY POS")
    | (refine ite_neg (by with_reducible assumption) ?_; walk_say "MY NEG")
    | (refine ite_neg (by ((try simp only [decide_eq_true_eq, bne_iff_ne, ne_eq, Bool.not_eq_true', beq_iff_eq, decide_eq_false_iff_not, Bool.not_eq_true, Decidable.not_not]); first | with_reducible assumption | (first | with_reducible assumption | omega -splitDisjunctions | omega))) ?_; walk_say "MY NEG")
    | (refine ite_pos (by ((try simp only [decide_eq_true_eq, bne_iff_ne, ne_eq, Bool.not_eq_true', beq_iff_eq, decide_eq_false_iff_not, Bool.not_eq_true, Decidable.not_not]); first | with_reducible assumption | (first | with_reducible assumption | omega -splitDisjunctions | omega))) ?_; walk_say "MY POS"))
  trivial

local macro_rules | `(tactic| k_all) => `(tactic| (refine allNe_all ?_; assumption))
theorem kw_P2_2 : True := by
  k_with "exec For Name Name cons nil" => (k_here; k_dflt (refine any_For ?_))
  trivial
theorem kw_P2_3 : True := by
  k_with "newTuple" => (k_here; k_dflt (refine' kup_newTuple ?kwqF ?kwqN ?_ ?kwqz; (case kwqF => k_asm); (case kwqN => k_asm); (case kwqz => kmk_size)); intro _ _ _ _ kwl1; (try k_lt kwl1); (try k_sweep))
  trivial
theorem kw_P2_4 : True := by
  k_with "compareOp In ref ref" => (k_here; (with_reducible show wpAny _ _ (compareOp CmpOp.In (Value.ref _) (Value.ref _)) _ _ _); k_dflt (first
    | (refine' kt_in_yes ?kwqT ?kwqhu ?kwqN ?kwqhd ?kwqhk ?kwqka ?kwqtk ?kwqhf ?_; (case kwqT => k_asm); (case kwqN => k_asm); (try (case kwqhd => k_mem)); (case kwqhu => k_units); (case kwqhk => (intro q hq; repeat' (first | exact hq | refine List.Mem.tail _ ?_))); (case kwqka => k_mem); (case kwqtk => exact TupKeyObj.made (by tuptab_items_int)); (case kwqhf => k_asm))
    | (refine' kt_in_no ?kwqT ?kwqhu ?kwqN ?kwqhd ?kwqhk ?kwqka ?kwqtk ?kwqhf ?_; (case kwqT => k_asm); (case kwqN => k_asm); (try (case kwqhd => k_mem)); (case kwqhu => k_units); (case kwqhk => (intro q hq; repeat' (first | exact hq | refine List.Mem.tail _ ?_))); (case kwqka => k_mem); (case kwqtk => exact TupKeyObj.made (by tuptab_items_int)); (case kwqhf => k_asm))))
  trivial
theorem kw_P2_5 : True := by
  k_with "subscriptTail" => (k_here; (with_reducible show wpAny _ _ (subscriptTail _ _ (Value.ref _) (Value.ref _)) _ _ _); k_dflt (refine' kt_item ?kwqT ?kwqhu ?kwqN ?kwqhd ?kwqhk ?kwqka ?kwqtk ?kwqhf ?_; (case kwqT => k_asm); (case kwqN => k_asm); (try (case kwqhd => k_mem)); (case kwqhu => k_units); (case kwqhk => (intro q hq; repeat' (first | exact hq | refine List.Mem.tail _ ?_))); (case kwqka => k_mem); (case kwqtk => exact TupKeyObj.made (by tuptab_items_int)); (case kwqhf => k_asm)); intro _)
  trivial
theorem kw_P2_6 : True := by
  k_with "setItem ref ref" => (k_here; k_dflt (refine' kt_set ?kwqT ?kwqhu ?kwqF ?kwqN ?kwqU ?kwqhk ?kwqka ?kwqtk ?kwqhf ?kwqhn ?_; (case kwqT => k_asm); (case kwqN => k_asm); (try (case kwqhd => k_mem)); (case kwqhu => k_units); (case kwqhk => (intro q hq; repeat' (first | exact hq | refine List.Mem.tail _ ?_))); (case kwqka => k_mem); (case kwqtk => exact TupKeyObj.made (by tuptab_items_int)); (case kwqhf => k_asm); (case kwqF => k_asm); (case kwqU => k_updF); (case kwqhn => (rw [sizeLine_eq]; (first | with_reducible assumption | omega -splitDisjunctions | omega)))); intro _ _ _ kwN' _; (try dsimp only at kwN'); (try k_sweep))
  trivial

structure PkS where
  p : PkP
  t1 : Tok
  t2 : Tok
  vs : List Value
  nn : Nat
  o : Obj
  keys : List (Addr × Obj)
  n : Nat
structure PkI (prog : Program) (w : World) (d l sz szd : Addr) (xs : List Int) (i : Nat) (c : PkS) : Prop where
  tab : KTab prog w d c.o c.keys c.p.f c.n
  hn : c.n ≤ i
  run : c.p = pkRun (xs.take i)
  cnt : 258 ≤ c.p.cnt ∧ c.p.cnt ≤ 258 + i
  hints : IntsAre c.vs c.p.out
  len : c.vs.length ≤ i + 1
  kd : AllNe d c.keys
  kl : AllNe l c.keys
  ks : AllNe sz c.keys
  kz : AllNe szd c.keys
theorem PkI.next {prog : Program} {w : World} {d l sz szd : Addr} {xs : List Int} {i : Nat} {o : Obj} {k : Addr × Obj} {keys : List (Addr × Obj)} {n : Nat} {code x cnt : Int} {f' : Int → Int → Option Int} {out : List Int} {vs : List Value} {t1 t2 t : Tok} {nn : Nat}
    (tab : KTab prog w d o (k :: keys) f' (n + 1)) (hn : n ≤ i) (run : pkRun (xs.take (i + 1)) = ⟨x, f', cnt + 1, out ++ [code]⟩) (hc : 258 ≤ cnt ∧ cnt ≤ 258 + i) (hI : IntsAre vs out) (hl : vs.length ≤ i + 1)
    (a1 : @Ne Nat k.1 d) (a2 : @Ne Nat k.1 l) (a3 : @Ne Nat k.1 sz) (a4 : @Ne Nat k.1 szd) (kd : AllNe d keys) (kl : AllNe l keys) (ks : AllNe sz keys) (kz : AllNe szd keys) :
    PkI prog w d l sz szd xs (i + 1) ⟨⟨x, f', cnt + 1, out ++ [code]⟩, t1, t2, vs ++ [.int code t], nn, o, k :: keys, n + 1⟩ :=
  ⟨tab, Nat.succ_le_succ hn, run.symm, by dsimp only; (first | with_reducible assumption | omega -splitDisjunctions | omega), intsAre_append hI (.cons _ _ .nil), by simp; (first | with_reducible assumption | omega -splitDisjunctions | omega), ⟨a1, kd⟩, ⟨a2, kl⟩, ⟨a3, ks⟩, ⟨a4, kz⟩⟩
theorem octVals_get {b : Array UInt8} {i : Nat} {v : UInt8} (h : b[i]? = some v) : (b.toList.map fun u => ((u.toNat : Nat) : Int))[i]? = some ((v.toNat : Nat) : Int) := by simp [h]
set_option maxHeartbeats 8000000 in
theorem pk (w : World) (outer : List Env) (base g : Heap) (mg mb : Str → Option Value) (mean : ExcName → Option Value) (loose : List Str) (s : Shared) (Q : Value → Shared → Prop)
  (k1 k2 k3 k4 k5 k6 k7 v1 v2 v3 v4 v5 v6 v7 tb : Tok) (e : Nat) (sz szd : Addr) (nz : Nat) (b : Array UInt8)
  (B : Below (atop 303 10 (some []) outer) base outer g) (X : (hd.heap_1 w.params).In g) (T : Top hd.view_1 loose mean mg mb g) (hs : g.StaysIn s.heap) (hz : g.objs.size ≤ s.heap.objs.size)
  (hN : ∀ q ∈ [(sz, instObj 184 szd), (szd, dictOf (szE w.params k1 k2 k3 k4 k5 k6 k7 v1 v2 v3 v4 v5 v6 v7 (e : Int)) nz)], s.heap.get? q.1 = some q.2 ∧ g.get? q.1 = none)
  (hb : b.size ≤ 300)
  (ret : ∀ cl h' tk' cvs nc, g.StaysIn h' → (∀ q ∈ [(cl, listOf cvs.toArray nc), (sz, instObj 184 szd), (szd, dictOf (szE w.params k1 k2 k3 k4 k5 k6 k7 v1 v2 v3 v4 v5 v6 v7 (e : Int)) nz)], h'.get? q.1 = some q.2 ∧ g.get? q.1 = none) →
     IntsAre cvs (pkAll (b.toList.map fun u => ((u.toNat : Nat) : Int))) → Q (.ref cl) { s with heap := h', toks := tk' }) :
  codeAny (model Challenge.rw_nn0205_01.row.prog w) (atop 303 10 (some []) outer) (.call (.ref 244) ⟨[.ref sz, .bytes b tb], []⟩) (fun r s' => match r with | .ok (.ret v) => Q v s' | _ => False) s := by
  revert T; revert X; k_fill; intro X T
  (refine' enter_small X T hs hz hN ?k6 ?k7 ?k8 ?k9 ?kB ?_ ?c2 ?c3 ?c4 ?c5; (case k6 => k_is); (case k7 => k_is); (case k8 => k_room); (case k9 => (first | exact BindsTo.of_eq rfl | exact binds_K (by k_in) rfl (by k_is) rfl rfl rfl | fail "no rule for these arguments")); (case c5 => decide); (case kB => exact locs rfl); (case c2 => exact rfl); (case c3 => exact rfl); (case c4 => exact rfl); k_whole; intro L' h' F' N' l1 hL; (try k_lt l1); (try dsimp only))
  clear hN
  k_steps

  rename_i l h5 l4 h4 d h3 od lo hs' fs' hi' fi' l3 h1 h2 h6 FF NN
  clear hs' fs' fi'
  generalize hxs : (b.toList.map fun u => ((u.toNat : Nat) : Int)) = xs at ret
  have hlx : xs.length = b.size := by rw [← hxs]; simp
  obtain ⟨t0, FF⟩ : ∃ t0, Fr g L' h6 (fun y => if y = Str.ofString "code" then some (.int (-1) t0) else if y = Str.ofString "count" then some (.int 258 v6) else if y = Str.ofString "table" then some (.ref d) else if y = Str.ofString "codes" then some (.ref l) else if y = Str.ofString "signs" then some (.bytes b tb) else if y = Str.ofString "sizes" then some (.ref sz) else none) :=
    ⟨_, frEq FF fun y => by
      show (if y = _ then _ else if y = _ then _ else if y = _ then _ else if y = _ then _ else List.lookup y [(_, _), (_, _)]) = _
      rw [lookup2]⟩
  refine any_for_bytes (σ := PkS) (fun c => (d, c.o) :: (l, listOf c.vs.toArray c.nn) :: (sz, instObj 184 szd) :: (szd, dictOf (szE w.params k1 k2 k3 k4 k5 k6 k7 v1 v2 v3 v4 v5 v6 v7 (e : Int)) nz) :: c.keys)
    (fun c y => if y = Str.ofString "code" then some (.int c.p.code c.t1) else if y = Str.ofString "count" then some (.int c.p.cnt c.t2) else if y = Str.ofString "table" then some (.ref d) else if y = Str.ofString "codes" then some (.ref l) else if y = Str.ofString "signs" then some (.bytes b tb) else if y = Str.ofString "sizes" then some (.ref sz) else none)
    (PkI _ w d l sz szd xs) ⟨⟨-1, fun _ _ => none, 258, [256]⟩, t0, v6, [.int 256 v4], 0, od, [], 0⟩ FF NN
    ⟨KTab.new lo hi', Nat.le_refl _, rfl, ⟨Int.le_refl 258, Int.le_refl 258⟩, .cons _ _ .nil, Nat.le_refl _, trivial, trivial, trivial, trivial⟩ rfl rfl rfl ?_ ?_
  · intro i c v t h tk I o hv hP hne F' N'
    have hi300 : i < 300 := by
      have := (Array.getElem?_eq_some_iff.mp hv).1
      (first | with_reducible assumption | omega -splitDisjunctions | omega)
    have hxv := octVals_get hv
    rw [hxs] at hxv
    clear FF NN
    obtain ⟨⟨code, f, cnt, out⟩, t1, t2, vs, nn, od, keys, n⟩ := c
    obtain ⟨tab, hn, run, hcnt, hints, len, kd, kl, ks, kz⟩ := hP
    dsimp only at tab hn run hcnt hints len kd kl ks kz F' N' hne ⊢
    simp only [AllNe] at hne
    obtain ⟨ne1, ne2, ne3, ne4, ne5⟩ := hne
    have hrun := pkRun_take xs i _ hxv
    rw [← run] at hrun
    have hv0 : (0 : Int) ≤ ((v.toNat : Nat) : Int) := by (first | with_reducible assumption | omega -splitDisjunctions | omega)
    generalize hx : ((v.toNat : Nat) : Int) = x at *
    by_cases hc : code < 0
    · k_steps
      have e1 : pkStep ⟨code, f, cnt, out⟩ x = ⟨x, f, cnt, out⟩ := by simp only [pkStep]; exact if_pos hc
      (dsimp only [APost]); (rename Fr _ _ _ _ => FF); (rename News _ _ _ _ => NN); refine AEnd.intro ⟨⟨x, f, cnt, out⟩, _, t2, vs, nn, od, keys, n⟩ (by k_asm) NN (by k_mem) (by (intro q hq; (try dsimp only at hq); (repeat (first | exact hq | (rcases List.mem_cons.mp hq with rfl | hq; k_mem))); (repeat' (first | exact hq | refine List.Mem.tail _ ?_)))) (by (simp only [AllNe]; (repeat' (first | exact And.intro (by (first | with_reducible assumption | omega -splitDisjunctions | omega)) (by assumption) | refine And.intro ?_ ?_ | (first | with_reducible assumption | omega -splitDisjunctions | omega) | assumption)))) (by (intro z hz; (repeat' (first | rfl | (simp only [if_neg hz]; done) | split)) <;> simp_all))
        ⟨tab, by dsimp only; (first | with_reducible assumption | omega -splitDisjunctions | omega), (hrun.trans e1).symm, by dsimp only; (first | with_reducible assumption | omega -splitDisjunctions | omega), hints, by dsimp only; (first | with_reducible assumption | omega -splitDisjunctions | omega), kd, kl, ks, kz⟩
    · cases hf : f code x with
      | some z =>
        k_steps
        have e1 : pkStep ⟨code, f, cnt, out⟩ x = ⟨z, f, cnt, out⟩ := by simp only [pkStep]; rw [if_neg hc, hf]
        (dsimp only [APost]); (rename Fr _ _ _ _ => FF); (rename News _ _ _ _ => NN); refine AEnd.intro ⟨⟨z, f, cnt, out⟩, _, t2, vs, nn, od, keys, n⟩ (by k_asm) NN (by k_mem) (by (intro q hq; (try dsimp only at hq); (repeat (first | exact hq | (rcases List.mem_cons.mp hq with rfl | hq; k_mem))); (repeat' (first | exact hq | refine List.Mem.tail _ ?_)))) (by (simp only [AllNe]; (repeat' (first | exact And.intro (by (first | with_reducible assumption | omega -splitDisjunctions | omega)) (by assumption) | refine And.intro ?_ ?_ | (first | with_reducible assumption | omega -splitDisjunctions | omega) | assumption)))) (by (intro z hz; (repeat' (first | rfl | (simp only [if_neg hz]; done) | split)) <;> simp_all))
          ⟨tab, by dsimp only; (first | with_reducible assumption | omega -splitDisjunctions | omega), (hrun.trans e1).symm, by dsimp only; (first | with_reducible assumption | omega -splitDisjunctions | omega), hints, by dsimp only; (first | with_reducible assumption | omega -splitDisjunctions | omega), kd, kl, ks, kz⟩
      | none =>
        k_steps
        have e1 : pkStep ⟨code, f, cnt, out⟩ x = ⟨x, updF f code x cnt, cnt + 1, out ++ [code]⟩ := by simp only [pkStep]; rw [if_neg hc, hf]
        (rename News _ _ _ _ => NN); simp only [List.push_toArray] at NN
        (rename KTab _ _ _ _ _ _ _ => TT)
        (dsimp only [APost]); (rename Fr _ _ _ _ => FF); (rename News _ _ _ _ => NN); refine AEnd.intro _ (by k_asm) NN (by k_mem) (by (intro q hq; (try dsimp only at hq); (repeat (first | exact hq | (rcases List.mem_cons.mp hq with rfl | hq; k_mem))); (repeat' (first | exact hq | refine List.Mem.tail _ ?_)))) (by (simp only [AllNe]; (repeat' (first | exact And.intro (by (first | with_reducible assumption | omega -splitDisjunctions | omega)) (by assumption) | refine And.intro ?_ ?_ | (first | with_reducible assumption | omega -splitDisjunctions | omega) | assumption)))) (by (intro z hz; (repeat' (first | rfl | (simp only [if_neg hz]; done) | split)) <;> simp_all))
          (PkI.next (t := t1) (nn := nn + 1) TT hn (hrun.trans e1) hcnt hints len (by dsimp only; (first | with_reducible assumption | omega -splitDisjunctions | omega)) (by dsimp only; (first | with_reducible assumption | omega -splitDisjunctions | omega)) (by dsimp only; (first | with_reducible assumption | omega -splitDisjunctions | omega)) (by dsimp only; (first | with_reducible assumption | omega -splitDisjunctions | omega)) kd kl ks kz)
  · intro c h tk u hP F' N'
    clear FF NN
    obtain ⟨⟨code, f, cnt, out⟩, t1, t2, vs, nn, od, keys, n⟩ := c
    obtain ⟨tab, hn, run, hcnt, hints, len, kd, kl, ks, kz⟩ := hP
    dsimp only at tab hn run hcnt hints len kd kl ks kz F' N' ⊢
    have hrun : pkRun xs = ⟨code, f, cnt, out⟩ := by rw [run, List.take_of_length_le (by (first | with_reducible assumption | omega -splitDisjunctions | omega))]
    have hall : pkAll xs = (if 0 ≤ code then out ++ [code] else out) ++ [257] := by unfold pkAll; rw [hrun]
    by_cases hc : 0 ≤ code
    · k_steps
      (rename Fr _ _ _ _ => FF); (rename News _ _ _ _ => NN)
      simp only [List.push_toArray] at NN
      rw [if_pos hc] at hall
      exact ret l _ _ _ _ FF.keep (fun q hq => by
        have := NN q (by revert hq; revert q; (intro q hq; (repeat (rcases List.mem_cons.mp hq with rfl | hq; k_mem)); (exact (nomatch hq))))
        exact ⟨this.1, this.2.2⟩) (hall ▸ intsAre_append (intsAre_append hints (.cons _ _ .nil)) (.cons _ _ .nil))
    · k_steps
      (rename Fr _ _ _ _ => FF); (rename News _ _ _ _ => NN)
      simp only [List.push_toArray] at NN
      rw [if_neg hc] at hall
      exact ret l _ _ _ _ FF.keep (fun q hq => by
        have := NN q (by revert hq; revert q; (intro q hq; (repeat (rcases List.mem_cons.mp hq with rfl | hq; k_mem)); (exact (nomatch hq))))
        exact ⟨this.1, this.2.2⟩) (hall ▸ intsAre_append hints (.cons _ _ .nil))
end Mine
end -- P2

section -- AWhile
theorem Mine.plain_AWhile : True := by w_top off; trivial
open PySem PySem.W PyProof.Rows PySem.Calls PySem.Spec
set_option maxRecDepth 100000
set_option linter.unusedVariables false
namespace Mine

def AWEnd {σ : Type} (h₀ : Heap) (L : Addr) (m₀ : σ → Str → Option Value) (Led : σ → List (Addr × Obj)) (P : σ → Prop) (μ : σ → Nat) (k : Nat) (s s' : Shared) : Prop :=
  ∃ c' h' tk' m' news', s' = { s with heap := h', toks := tk' } ∧ Fr h₀ L h' m' ∧ News h₀ L h' news' ∧ (∀ p ∈ Led c', p ∈ news') ∧ (∀ z, m' z = m₀ c' z) ∧ P c' ∧ μ c' < k
theorem AWEnd.intro {σ : Type} {h₀ : Heap} {L : Addr} {m₀ : σ → Str → Option Value} {Led : σ → List (Addr × Obj)} {P : σ → Prop} {μ : σ → Nat} {k : Nat} {s : Shared} (c' : σ) {h' : Heap} {tk' : Nat} {m' : Str → Option Value} {news' : List (Addr × Obj)}
    (F : Fr h₀ L h' m') (N : News h₀ L h' news') (hs : ∀ p ∈ Led c', p ∈ news') (hm : ∀ z, m' z = m₀ c' z) (hp : P c') (hk : μ c' < k) : AWEnd h₀ L m₀ Led P μ k s { s with heap := h', toks := tk' } :=
  ⟨c', h', tk', m', news', rfl, F, N, hs, hm, hp, hk⟩
def AWPost {σ : Type} (h₀ : Heap) (L : Addr) (m₀ : σ → Str → Option Value) (Led : σ → List (Addr × Obj)) (P : σ → Prop) (μ : σ → Nat) (k : Nat) (s : Shared) (Q : Flow → Shared → Prop) (f : Flow) (s' : Shared) : Prop :=
  match f with
  | .next | .cont => AWEnd h₀ L m₀ Led P μ k s s'
  | .brk => Q .next s'
  | .ret v => Q (.ret v) s'

section
variable {prog : Program} {w : World} {A : Around} {s : Shared} {env : Env} {h₀ : Heap} {body : List Stmt} {Q : Flow → Shared → Prop} {σ : Type}
theorem any_While {test : Expr} {pos : Pos} {E : Value → Shared → Prop} (h : codeN (model prog w) A (.whileLoop test body [] env) Q s) : wpAny (model prog w) A (exec (.While test body [] pos) env) Q E s := by
  refine wpAny_While (codeAny_mono h fun r s' hr => ?_)
  cases r with
  | ok f => exact hr
  | error e => exact hr.elim
theorem any_while {test : Expr} {L : Addr} (Led : σ → List (Addr × Obj)) (m₀ : σ → Str → Option Value) (P : σ → Prop) (μ : σ → Nat) (c₀ : σ) (F : Fr h₀ L s.heap (m₀ c₀)) (N : News h₀ L s.heap (Led c₀)) (hp : P c₀)
    (turn : ∀ c h tk, P c → Fr h₀ L h (m₀ c) → News h₀ L h (Led c) → wpAny (model prog w) A (isTrue test env (eval test env)) (fun b s₂ => if b then wpAny (model prog w) A (execs body env) (AWPost h₀ L m₀ Led P μ (μ c) s Q) nope s₂ else Q .next s₂) nope { s with heap := h, toks := tk }) :
    codeN (model prog w) A (.whileLoop test body [] env) Q s := by
  refine codeAny_whileLoop (I := fun k s' => ∃ c h tk, k = μ c ∧ s' = { s with heap := h, toks := tk } ∧ P c ∧ Fr h₀ L h (m₀ c) ∧ News h₀ L h (Led c)) ?_ (μ c₀) ⟨c₀, s.heap, s.toks, rfl, rfl, hp, F, N⟩
  rintro k s' ⟨c, h, tk, rfl, rfl, hP, F', N'⟩
  refine wpAny_mono (turn c h tk hP F' N') (fun b s₂ h₂ => ?_) fun _ _ x => x.elim
  cases b with
  | false =>
    simp only [Bool.false_eq_true, if_false] at h₂ ⊢
    exact wpAny_execs_nil h₂
  | true =>
    simp only [if_true] at h₂ ⊢
    refine wpAny_mono h₂ (fun f s₃ h₃ => ?_) fun _ _ x => x.elim
    have fin : AWEnd h₀ L m₀ Led P μ (μ c) s s₃ → ∃ m, m < μ c ∧ ∃ c h tk, m = μ c ∧ s₃ = { s with heap := h, toks := tk } ∧ P c ∧ Fr h₀ L h (m₀ c) ∧ News h₀ L h (Led c) := by
      rintro ⟨c', h', tk', m', news', rfl, F', N', hs', hm', hp', hk'⟩
      have em : m' = m₀ c' := funext hm'
      rw [em] at F'
      exact ⟨μ c', hk', c', h', tk', rfl, rfl, hp', F', fun p hp => N' p (hs' p hp)⟩
    cases f with
    | next => exact fin h₃
    | cont => exact fin h₃
    | brk => exact h₃
    | ret v => exact h₃
theorem any_whileC {test : Expr} {L : Addr} {m : Str → Option Value} (Led : σ → List (Addr × Obj)) (P : σ → Prop) (μ : σ → Nat) (c₀ : σ) (F : Fr h₀ L s.heap m) (N : News h₀ L s.heap (Led c₀)) (hp : P c₀)
    (turn : ∀ c h tk, P c → Fr h₀ L h m → News h₀ L h (Led c) → wpAny (model prog w) A (isTrue test env (eval test env)) (fun b s₂ => if b then wpAny (model prog w) A (execs body env) (AWPost h₀ L (fun _ => m) Led P μ (μ c) s Q) nope s₂ else Q .next s₂) nope { s with heap := h, toks := tk }) :
    codeN (model prog w) A (.whileLoop test body [] env) Q s := any_while Led (fun _ => m) P μ c₀ F N hp turn
end
section
variable {prog : Program} {w : World} {A : Around} {E : Value → Shared → Prop} {s : Shared} {h₀ : Heap} {L : Addr} {m : Str → Option Value} {news : List (Addr × Obj)}
theorem my_max {a b c : Int} {t u : Tok} {Q : Value → Shared → Prop} (hc : Hid ((if b > a then b else a) = c)) (hh : A.handled = none) (F : Fr h₀ L s.heap m) (N : News h₀ L s.heap news)
    (h : ∀ h' tk v, Fr h₀ L h' m → News h₀ L h' news → Q (.int c v) { s with heap := h', toks := tk }) : wpAny (model prog w) A (call (.builtin "max") [.int a t, .int b u]) Q E s :=
  max_two_N hh F N fun h' tk F' N' => by rw [show (if b > a then b else a) = c from hc]; exact h h' tk _ F' N'
theorem my_min {a b c : Int} {t u : Tok} {Q : Value → Shared → Prop} (hc : Hid ((if b < a then b else a) = c)) (hh : A.handled = none) (F : Fr h₀ L s.heap m) (N : News h₀ L s.heap news)
    (h : ∀ h' tk v, Fr h₀ L h' m → News h₀ L h' news → Q (.int c v) { s with heap := h', toks := tk }) : wpAny (model prog w) A (call (.builtin "min") [.int a t, .int b u]) Q E s :=
  min_two_N hh F N fun h' tk F' N' => by rw [show (if b < a then b else a) = c from hc]; exact h h' tk _ F' N'
theorem my_bitlen {a c : Int} {t : Tok} {Q : Value → Shared → Prop} (hc : ((Builtin.Int.intBits a : Nat) : Int) = c) (h : Q (.int c s.toks) { s with toks := s.toks + 1 }) : wpAny (model prog w) A (call (.builtin "int.bit_length") [.int a t]) Q E s :=
  call_int_bit_length (by rw [hc]; exact h)
theorem my_bytes_item {b : Array UInt8} {t u : Tok} {i : Int} {x : UInt8} {value slice : Expr} {Q : Value → Shared → Prop} (hx : b[i.toNat]? = some x) (hfit : b.size ≤ 1099511627776) (h0 : 0 ≤ i)
    (h : Q (.int ((x.toNat : Nat) : Int) s.toks) { s with toks := s.toks + 1 })
    (hs : subscripted slice false (.bytes b t) (.int i u) = operate [.bytes b t, .int i u] (getItem (.bytes b t) (.int i u)) := by with_unfolding_all rfl) (ht : ∀ r, letTemporaryGo value (.bytes b t) r = pure () := by intro _; with_unfolding_all rfl) :
    wpAny (model prog w) A (subscriptTail value slice (.bytes b t) (.int i u)) Q E s := by
  refine subscriptTail_builtin (typeIs_bytes _ _ _) FB.slot_bytes_getitem.lookup ?_ hs ht
  obtain ⟨l, rfl⟩ : ∃ l : List UInt8, b = l.toArray := ⟨b.toList, by simp⟩
  have hx' : l[i.toNat]? = some x := by simpa using hx
  have hlt := (List.getElem?_eq_some_iff.mp hx').1
  refine getItem_bytes (by simpa using hfit) h0 (by (first | omega -splitDisjunctions | omega)) ?_
  have : l.getD i.toNat 0 = x := by simp [List.getD, hx']
  rw [this]; exact h
end
end Mine
end -- AWhile

section -- R1
theorem Mine.plain_R1 : True := by w_top off; trivial
open PySem PySem.W PyProof.Rows PySem.Calls PySem.Spec
set_option maxRecDepth 100000
set_option linter.unusedVariables false
namespace Mine
theorem Zf_mono (e : Nat) {i k : Nat} (h : i ≤ k) : Zf e i ≤ Zf e k := by
  induction h with
  | refl => exact Nat.le_refl _
  | @step m _ ih => exact Nat.le_trans ih (by show Zf e m ≤ Zf e m + wid e m; (first | omega -splitDisjunctions | omega))
theorem ipow_le {k m : Nat} (h : k ≤ m) : (2:Int) ^ k ≤ 2 ^ m := by exact_mod_cast Nat.pow_le_pow_right (by decide : 0 < 2) h
theorem wid_9 (e i : Nat) : wid e i = 9 ∨ wid e i = 10 := by unfold wid; split <;> simp
theorem Lf_step (e : Nat) (cs : List Int) (k : Nat) (hcs : ∀ (i : Nat) (n : Int), cs[i]? = some n → 0 ≤ n ∧ n < 512) : Lf e cs (k + 1) / 2 ^ wid e k = Lf e cs k := by
  have hg : (cs.getD k 0).toNat < 512 := by
    cases h : cs[k]? with
    | none => simp [List.getD, h]
    | some n => have := hcs k n h; simp [List.getD, h]; (first | omega -splitDisjunctions | omega)
  have hp : (512 : Nat) ≤ 2 ^ wid e k := by rcases wid_9 e k with h | h <;> rw [h] <;> decide
  show (Lf e cs k * 2 ^ wid e k + _) / _ = _
  rw [Nat.mul_comm, Nat.mul_add_div (by (first | omega -splitDisjunctions | omega)), Nat.div_eq_of_lt (by (first | omega -splitDisjunctions | omega)), Nat.add_zero]
theorem Lf_div (e : Nat) (cs : List Int) (hcs : ∀ (i : Nat) (n : Int), cs[i]? = some n → 0 ≤ n ∧ n < 512) (i k : Nat) (h : i ≤ k) : Lf e cs k / 2 ^ (Zf e k - Zf e i) = Lf e cs i := by
  induction h with
  | refl => simp
  | @step m hm ih =>
    have hz := Zf_mono e hm
    have e1 : Zf e (m + 1) - Zf e i = wid e m + (Zf e m - Zf e i) := by show Zf e m + wid e m - _ = _; (first | omega -splitDisjunctions | omega)
    rw [e1, Nat.pow_add, ← Nat.div_div_eq_div_mul, Lf_step e cs m hcs, ih]
def pv (b : Array UInt8) : Nat → Nat
  | 0 => 0
  | k + 1 => pv b k * 256 + (b[k]?.getD 0).toNat
theorem pv_take (b : Array UInt8) (k : Nat) (h : k ≤ b.size) : pv b k = (b.toList.take k).foldl (fun a x => a * 256 + x.toNat) 0 := by
  induction k with
  | zero => simp [pv]
  | succ k ih =>
    have hk : b[k]? = some b[k] := by simp [show k < b.size by (first | omega -splitDisjunctions | omega)]
    have hk' : b.toList[k]? = some b[k] := by simp only [Array.getElem?_toList]; exact hk
    rw [List.take_add_one, hk', List.foldl_append, ← ih (by (first | omega -splitDisjunctions | omega))]
    simp [pv, hk]
theorem pv_all (b : Array UInt8) : pv b b.size = baVal b := by
  rw [pv_take b _ (Nat.le_refl _), baVal, List.take_of_length_le (by simp)]
theorem pv_div (b : Array UInt8) (i k : Nat) (h : i ≤ k) : pv b k / 2 ^ (8 * (k - i)) = pv b i := by
  induction h with
  | refl => simp
  | @step m hm ih =>
    have e1 : 8 * (m + 1 - i) = 8 + 8 * (m - i) := by have : i ≤ m := hm; (first | omega -splitDisjunctions | omega)
    show pv b (m + 1) / _ = _
    rw [e1, Nat.pow_add, ← Nat.div_div_eq_div_mul]
    have : pv b (m + 1) / 2 ^ 8 = pv b m := by
      show (pv b m * 256 + _) / 256 = _
      have := (b[m]?.getD 0).toNat_lt
      (first | omega -splitDisjunctions | omega)
    rw [this, ih]
structure Rd (b : Array UInt8) (e : Nat) (cs : List Int) (i : Nat) (pos held bits : Int) : Prop where
  h0 : 0 ≤ held
  b0 : 0 ≤ bits
  lt : held < 2 ^ bits.toNat
  p0 : 0 ≤ pos
  p1 : pos ≤ b.size
  val : (pv b pos.toNat : Int) = Lf e cs i * 2 ^ bits.toNat + held
  size : 8 * pos = Zf e i + bits
theorem Rd.start (b : Array UInt8) (e : Nat) (cs : List Int) : Rd b e cs 0 0 0 0 :=
  ⟨Int.le_refl _, Int.le_refl _, by decide, Int.le_refl _, by (first | omega -splitDisjunctions | omega), by simp [pv, Lf], by simp [Zf]⟩
theorem Rd.octet {b : Array UInt8} {e : Nat} {cs : List Int} {i : Nat} {pos held bits : Int} (h : Rd b e cs i pos held bits) {x : UInt8} (hx : b[pos.toNat]? = some x) :
    Rd b e cs i (pos + 1) (held * 2 ^ 8 + (x.toNat : Int)) (bits + 8) := by
  obtain ⟨h0, b0, lt, p0, p1, val, size⟩ := h
  have hlt := x.toNat_lt
  have e1 : (bits + 8).toNat = bits.toNat + 8 := by (first | omega -splitDisjunctions | omega)
  have e2 : (pos + 1).toNat = pos.toNat + 1 := by (first | omega -splitDisjunctions | omega)
  have h256 : (2:Int)^8 = 256 := by decide
  refine ⟨by rw [h256]; (first | omega -splitDisjunctions | omega), by (first | omega -splitDisjunctions | omega), ?_, by (first | omega -splitDisjunctions | omega), ?_, ?_, by (first | omega -splitDisjunctions | omega)⟩
  · rw [e1, Int.pow_add, h256]; (first | omega -splitDisjunctions | omega)
  · have := (Array.getElem?_eq_some_iff.mp hx).1; (first | omega -splitDisjunctions | omega)
  · rw [e2, e1, Int.pow_add, h256]
    show ((pv b pos.toNat * 256 + (b[pos.toNat]?.getD 0).toNat : Nat) : Int) = _
    rw [hx]
    push_cast
    rw [val, Int.add_mul, Int.mul_assoc]
    simp [Int.add_assoc]
theorem Rd.take {b : Array UInt8} {e : Nat} {cs : List Int} {i pad : Nat} {pos held bits n : Int} (h : Rd b e cs i pos held bits) (hcs : ∀ (i : Nat) (n : Int), cs[i]? = some n → 0 ≤ n ∧ n < 512)
    (hsz : 8 * b.size = Zf e cs.length + pad) (hv : baVal b = Lf e cs cs.length * 2 ^ pad) (hn : cs[i]? = some n) (hw : (wid e i : Int) ≤ bits) :
    held / 2 ^ (bits - (wid e i : Int)).toNat = n ∧ Rd b e cs (i + 1) pos (held % 2 ^ (bits - (wid e i : Int)).toNat) (bits - wid e i) := by
  obtain ⟨h0, b0, lt, p0, p1, val, size⟩ := h
  obtain ⟨k, hk⟩ : ∃ k : Nat, bits = k + wid e i := ⟨(bits - wid e i).toNat, by (first | omega -splitDisjunctions | omega)⟩
  subst hk
  have e1 : ((k : Int) + wid e i - wid e i).toNat = k := by (first | omega -splitDisjunctions | omega)
  have e2 : ((k : Int) + wid e i).toNat = wid e i + k := by (first | omega -splitDisjunctions | omega)
  have e3 : ((k : Int) + wid e i - wid e i) = k := by (first | omega -splitDisjunctions | omega)
  rw [e2] at val lt
  have hp : (0:Int) < 2 ^ k := Int.pow_pos (by decide)
  have him : i < cs.length := (List.getElem?_eq_some_iff.mp hn).1
  have hz1 := Zf_mono e (show i + 1 ≤ cs.length from him)
  have hz0 : Zf e (i + 1) = Zf e i + wid e i := rfl
  obtain ⟨a, ha⟩ : ∃ a : Nat, pos = a := ⟨pos.toNat, by (first | omega -splitDisjunctions | omega)⟩
  subst ha
  have ea : ((a : Int)).toNat = a := by (first | omega -splitDisjunctions | omega)
  rw [ea] at val
  -- the prefix of the line
  have key : pv b a / 2 ^ k = Lf e cs (i + 1) := by
    rw [← pv_div b a b.size (by (first | omega -splitDisjunctions | omega)), Nat.div_div_eq_div_mul, ← Nat.pow_add, pv_all, hv]
    have : 8 * (b.size - a) + k = pad + (Zf e cs.length - Zf e (i + 1)) := by (first | omega -splitDisjunctions | omega)
    rw [this, Nat.pow_add, ← Nat.div_div_eq_div_mul, Nat.mul_div_cancel _ (Nat.pow_pos (by decide)), Lf_div e cs hcs (i + 1) cs.length him]
  have hget : cs.getD i 0 = n := by simp [List.getD, hn]
  have hn0 := hcs i n hn
  have hL : (Lf e cs (i + 1) : Int) = Lf e cs i * 2 ^ wid e i + n := by
    show ((Lf e cs i * 2 ^ wid e i + (cs.getD i 0).toNat : Nat) : Int) = _
    rw [hget]; push_cast; (first | omega -splitDisjunctions | omega)
  have hq : (pv b a : Int) / 2 ^ k = Lf e cs i * 2 ^ wid e i + n := by
    rw [← hL, ← key]; push_cast; rfl
  have hd : held / 2 ^ k = n := by
    rw [val, Int.pow_add, ← Int.mul_assoc, Int.add_comm, Int.add_mul_ediv_right _ _ (Int.ne_of_gt hp)] at hq
    (first | omega -splitDisjunctions | omega)
  have hm := Int.mul_ediv_add_emod held (2 ^ k)
  rw [hd] at hm
  rw [e1]
  refine ⟨hd, Int.emod_nonneg _ (Int.ne_of_gt hp), by (first | omega -splitDisjunctions | omega), ?_, by (first | omega -splitDisjunctions | omega), by (first | omega -splitDisjunctions | omega), ?_, by (first | omega -splitDisjunctions | omega)⟩
  · rw [e1]; exact Int.emod_lt_of_pos _ hp
  · rw [e1, ea, val, hL, Int.pow_add, Int.add_mul, ← Int.mul_assoc]
    rw [Int.mul_comm n, Int.add_assoc, hm]
theorem digits_val : ∀ (k V : Nat), V < 256 ^ k → baVal (((List.range k).map fun i => (((V : Int) / 2 ^ (8 * (k - 1 - i)) % 256).toNat.toUInt8 : UInt8)).toArray) = V
  | 0, V, h => by simp [baVal] at h ⊢; (first | omega -splitDisjunctions | omega)
  | k + 1, V, h => by
    have hd : V / 256 < 256 ^ k := by
      rw [Nat.pow_succ] at h
      exact Nat.div_lt_of_lt_mul (by rw [Nat.mul_comm]; exact h)
    have ih := digits_val k (V / 256) hd
    have e1 : ((List.range (k + 1)).map fun i => (((V : Int) / 2 ^ (8 * (k + 1 - 1 - i)) % 256).toNat.toUInt8 : UInt8)) =
        ((List.range k).map fun i => ((((V / 256 : Nat) : Int) / 2 ^ (8 * (k - 1 - i)) % 256).toNat.toUInt8 : UInt8)) ++ [((V : Int) % 256).toNat.toUInt8] := by
      rw [List.range_succ, List.map_append]
      congr 1
      · refine List.map_congr_left fun i hi => ?_
        have hi' := List.mem_range.mp hi
        have e : 8 * (k + 1 - 1 - i) = 8 + 8 * (k - 1 - i) := by (first | omega -splitDisjunctions | omega)
        rw [e, Int.pow_add]
        congr 3
        push_cast
        first
          | exact (Int.ediv_ediv_of_nonneg (by decide)).symm
          | exact (Int.ediv_ediv_eq_ediv_mul _ (by decide)).symm
          | exact (Int.ediv_ediv (by decide)).symm
      · simp
    rw [e1, ← List.push_toArray, baVal_push, ih]
    have : (((V : Int) % 256).toNat.toUInt8).toNat = V % 256 := by
      have h1 : ((V : Int) % 256).toNat = V % 256 := by (first | omega -splitDisjunctions | omega)
      rw [h1]
      have : V % 256 < 256 := Nat.mod_lt _ (by decide)
      simp [Nat.toUInt8, UInt8.toNat_ofNat', Nat.mod_eq_of_lt this]
    rw [this]
    (first | omega -splitDisjunctions | omega)
end Mine
namespace Mine
theorem same_line {a b : Array UInt8} {Z V p q : Nat} (hp : p < 8) (ha : 8 * a.size = Z + p) (va : baVal a = V * 2 ^ p) (hq : q < 8) (hb : 8 * b.size = Z + q) (vb : baVal b = V * 2 ^ q) : a = b := by
  have e1 : p = q := by (first | omega -splitDisjunctions | omega)
  subst e1
  exact baVal_inj (by (first | omega -splitDisjunctions | omega)) (va.trans vb.symm)
end Mine
end -- R1

section -- R2
theorem Mine.plain_R2 : True := by w_top off; trivial
open PySem PySem.W PyProof.Rows PySem.Calls PySem.Spec
set_option maxRecDepth 100000
set_option linter.unusedVariables false

namespace Mine
theorem kw_R2_1 : True := by
  k_with_none
  k_with "ite" => (k_here; k_openite; first
    | (refine ite_pos (by with_reducible assumption) ?_; walk_say "MY POS")
    | (refine ite_neg (by with_reducible assumption) ?_; walk_say "MY NEG")
    | (refine ite_neg (by ((try simp only [decide_eq_true_eq, bne_iff_ne, ne_eq, Bool.not_eq_true', beq_iff_eq, decide_eq_false_iff_not, Bool.not_eq_true, Decidable.not_not]); first | with_reducible assumption | (first | with_reducible assumption | omega -splitDisjunctions | omega))) ?_; walk_say "MY NEG")
    | (refine ite_pos (by ((try simp only [decide_eq_true_eq, bne_iff_ne, ne_eq, Bool.not_eq_true', beq_iff_eq, decide_eq_false_iff_not, Bool.not_eq_true, Decidable.not_not]); first | with_reducible assumption | (first | with_reducible assumption | omega -splitDisjunctions | omega))) ?_; walk_say "MY POS"))
  trivial

theorem kw_R2_2 : True := by
  k_with "exec While Compare" => (k_here; k_dflt (refine any_While ?_))
  trivial
theorem kw_R2_3 : True := by
  k_with "exec While Constant" => (k_here; k_dflt (refine any_While ?_))
  trivial
theorem kw_R2_4 : True := by
  k_with "exec While" => (k_here; k_dflt (refine any_While ?_))
  trivial
theorem kw_R2_5 : True := by
  k_with "call builtin:max" => (k_here; (with_reducible show wpAny _ _ (call (Value.builtin _) [Value.int _ _, Value.int _ _]) _ _ _); k_dflt (refine' my_max ?kwqc rfl ?kwqF ?kwqN ?_; (case kwqc => k_asm); (case kwqF => k_asm); (case kwqN => k_asm)); intro _ _ _ _ _; (try k_sweep))
  trivial
theorem kw_R2_6 : True := by
  k_with "call builtin:min" => (k_here; (with_reducible show wpAny _ _ (call (Value.builtin _) [Value.int _ _, Value.int _ _]) _ _ _); k_dflt (refine' my_min ?kwqc rfl ?kwqF ?kwqN ?_; (case kwqc => k_asm); (case kwqF => k_asm); (case kwqN => k_asm)); intro _ _ _ _ _; (try k_sweep))
  trivial
theorem kw_R2_7 : True := by
  k_with "call builtin:int.bit_length" => (k_here; k_dflt (refine' my_bitlen ?kwqc ?_; (case kwqc => k_asm)))
  trivial

theorem kw_R2_8 : True := by
  k_with "call builtin:len" => (k_here; (with_reducible show wpAny _ _ (call (Value.builtin "len") [Value.bytes _ _]) _ _ _); k_dflt (refine len_bytes (by (first | with_reducible assumption | omega -splitDisjunctions | omega)) ?_))
  trivial
theorem kw_R2_9 : True := by
  k_with "subscriptTail" => (k_here; (with_reducible show wpAny _ _ (subscriptTail _ _ (Value.bytes _ _) (Value.int _ _)) _ _ _); k_dflt (refine' my_bytes_item ?kwqx ?kwqf ?kwqz ?_; (case kwqx => k_asm); (case kwqf => (first | with_reducible assumption | omega -splitDisjunctions | omega)); (case kwqz => (first | with_reducible assumption | omega -splitDisjunctions | omega))))
  trivial

abbrev inE (P : Params) (t1 t2 t3 t4 : Tok) (b : Array UInt8) (tb : Tok) (pos : Int) (u1 : Tok) (held : Int) (u2 : Tok) (c : Int) (u3 : Tok) : List DictEntry :=
  [⟨PyData.keyHash P (Str.ofString "data"), .str (Str.ofString "data") t1, .bytes b tb⟩,
   ⟨PyData.keyHash P (Str.ofString "at"), .str (Str.ofString "at") t2, .int pos u1⟩,
   ⟨PyData.keyHash P (Str.ofString "held"), .str (Str.ofString "held") t3, .int held u2⟩,
   ⟨PyData.keyHash P (Str.ofString "count"), .str (Str.ofString "count") t4, .int c u3⟩]
structure RS where
  i : Nat
  vs : List Value
  nn : Nat
  cnt : Int
  beg : Bool
  pos : Int
  held : Int
  bits : Int
  y0 : Tok
  y1 : Tok
  y2 : Tok
  y3 : Tok
  u : Option Value
structure RT where
  pos : Int
  held : Int
  bits : Int
  y1 : Tok
  y2 : Tok
  y3 : Tok
structure RI (b : Array UInt8) (e : Nat) (cs : List Int) (c : RS) : Prop where
  hi : c.i < cs.length
  cnt : c.cnt = 258 + ((c.i - 2 : Nat) : Int)
  beg : c.beg = decide (2 ≤ c.i)
  b8 : c.bits < 8
  rd : Rd b e cs c.i c.pos c.held c.bits
  hints : IntsAre c.vs (cs.take c.i)
  len : c.vs.length = c.i
set_option maxHeartbeats 8000000 in
theorem rc (w : World) (outer : List Env) (base g : Heap) (mg mb : Str → Option Value) (mean : ExcName → Option Value) (loose : List Str) (s : Shared) (Q : Value → Shared → Prop)
  (k1 k2 k3 k4 k5 k6 k7 v1 v2 v3 v4 v5 v6 v7 tb : Tok) (e : Nat) (sz szd : Addr) (nz : Nat) (b : Array UInt8) (cs : List Int) (pad : Nat)
  (B : Below (atop 303 10 (some []) outer) base outer g) (X : (hd.heap_1 w.params).In g) (T : Top hd.view_1 loose mean mg mb g) (hs : g.StaysIn s.heap) (hz : g.objs.size ≤ s.heap.objs.size)
  (hN : ∀ q ∈ [(sz, instObj 184 szd), (szd, dictOf (szE w.params k1 k2 k3 k4 k5 k6 k7 v1 v2 v3 v4 v5 v6 v7 (e : Int)) nz)], s.heap.get? q.1 = some q.2 ∧ g.get? q.1 = none)
  (he : e = 0 ∨ e = 1) (hcs : ∀ (i : Nat) (n : Int), cs[i]? = some n → 0 ≤ n ∧ n < 512) (hc0 : ∀ (i : Nat) (n : Int), cs[i]? = some n → (n = 256 ↔ i = 0)) (hc1 : ∀ (i : Nat) (n : Int), cs[i]? = some n → (n = 257 ↔ i + 1 = cs.length)) (hlen : cs.length ≤ 300) (hlen0 : 0 < cs.length)
  (hsz : 8 * b.size = Zf e cs.length + pad) (hpad : pad < 8) (hv : baVal b = Lf e cs cs.length * 2 ^ pad)
  (ret : ∀ cl h' tk' cvs nc, g.StaysIn h' → (∀ q ∈ [(cl, listOf cvs.toArray nc), (sz, instObj 184 szd), (szd, dictOf (szE w.params k1 k2 k3 k4 k5 k6 k7 v1 v2 v3 v4 v5 v6 v7 (e : Int)) nz)], h'.get? q.1 = some q.2 ∧ g.get? q.1 = none) →
     IntsAre cvs cs → Q (.ref cl) { s with heap := h', toks := tk' }) :
  codeAny (model Challenge.rw_nn0205_01.row.prog w) (atop 303 10 (some []) outer) (.call (.ref 237) ⟨[.ref sz, .bytes b tb], []⟩) (fun r s' => match r with | .ok (.ret v) => Q v s' | _ => False) s := by
  revert T; revert X; k_fill; intro X T
  (refine' enter_small X T hs hz hN ?k6 ?k7 ?k8 ?k9 ?kB ?_ ?c2 ?c3 ?c4 ?c5; (case k6 => k_is); (case k7 => k_is); (case k8 => k_room); (case k9 => (first | exact BindsTo.of_eq rfl | exact binds_K (by k_in) rfl (by k_is) rfl rfl rfl | fail "no rule for these arguments")); (case c5 => decide); (case kB => exact locs rfl); (case c2 => exact rfl); (case c3 => exact rfl); (case c4 => exact rfl); k_whole; intro L' h' F' N' l1 hL; (try k_lt l1); (try dsimp only))
  clear hN
  have hb400 : b.size ≤ 400 := by have := Zf_le e cs.length; (first | with_reducible assumption | omega -splitDisjunctions | omega)
  k_steps
  rename_i x1 d1 hA l1a l2a g1 L1 hB B1 X1 T1 qk1 ek1 tkA h12 h11 h10 h9 F2 N2 Tc1 kX1 h8 tk2 x2 d2 h7 l1b l2b g2 L2 h6 B2 X2 T2 tk1 h5 h4 h3 F1 N1 Tc2 kX2 h2 tk0 l h1 l1c h0 FF NN
  obtain ⟨t1, t2, t3, u1, t4, t5, t6, t7, u2, u3, u4, NN⟩ : ∃ t1 t2 t3 u1 t4 t5 t6 t7 u2 u3 u4, News g L' h0 [(l, listOf [].toArray 0), (x2, instObj 219 d2), (d2, dictOf (cntE w.params t1 t2 t3 sz 258 u1 false) 3), (x1, instObj 113 d1), (d1, dictOf (inE w.params t4 t5 t6 t7 b tb 0 u2 0 u3 0 u4) 4), (sz, instObj 184 szd), (szd, dictOf (szE w.params k1 k2 k3 k4 k5 k6 k7 v1 v2 v3 v4 v5 v6 v7 (e : Int)) nz)] :=
    ⟨_, _, _, _, _, _, _, _, _, _, _, NN⟩
  have FF : Fr g L' h0 (fun y => if y = Str.ofString "code" then none else if y = Str.ofString "codes" then some (.ref l) else if y = Str.ofString "count" then some (.ref x2) else if y = Str.ofString "source" then some (.ref x1) else if y = Str.ofString "data" then some (.bytes b tb) else if y = Str.ofString "sizes" then some (.ref sz) else none) := frEq FF fun y => by
    show (if y = _ then _ else if y = _ then _ else if y = _ then _ else List.lookup y [(_, _), (_, _)]) = _
    rw [lookup2]
    by_cases h : y = Str.ofString "code"
    · subst h; rfl
    · rw [if_neg h]
  clear N1 F1 N2 F2 Tc1 Tc2 kX1 kX2 B1 X1 T1 B2 X2 T2
  clear ek1 qk1
  have hl1 : @LT.lt Nat _ szd d1 ∧ @LT.lt Nat _ sz d1 ∧ @LT.lt Nat _ d1 x1 ∧ @LT.lt Nat _ x1 d2 ∧ @LT.lt Nat _ d2 x2 ∧ @LT.lt Nat _ x2 l := by refine ⟨?_, ?_, ?_, ?_, ?_, ?_⟩ <;> (first | with_reducible assumption | omega -splitDisjunctions | omega)
  refine any_while (σ := RS) (fun c => [(l, listOf c.vs.toArray c.nn), (x2, instObj 219 d2), (d2, dictOf (cntE w.params t1 t2 t3 sz c.cnt c.y0 c.beg) 3), (x1, instObj 113 d1), (d1, dictOf (inE w.params t4 t5 t6 t7 b tb c.pos c.y1 c.held c.y2 c.bits c.y3) 4), (sz, instObj 184 szd), (szd, dictOf (szE w.params k1 k2 k3 k4 k5 k6 k7 v1 v2 v3 v4 v5 v6 v7 (e : Int)) nz)])
    (fun c y => if y = Str.ofString "code" then c.u else if y = Str.ofString "codes" then some (.ref l) else if y = Str.ofString "count" then some (.ref x2) else if y = Str.ofString "source" then some (.ref x1) else if y = Str.ofString "data" then some (.bytes b tb) else if y = Str.ofString "sizes" then some (.ref sz) else none)
    (RI b e cs) (fun c => cs.length - c.i) ⟨0, [], 0, 258, false, 0, 0, 0, u1, u2, u3, u4, none⟩ FF NN
    ⟨hlen0, rfl, rfl, (by decide : (0:Int) < 8), Rd.start b e cs, .nil, rfl⟩ ?_
  clear FF NN
  rintro ⟨i, vs, nn, cnt, beg, pos, held, bits, y0, y1, y2, y3, uc⟩ h tk ⟨hi, hcnt, hbeg, hb8, hrd, hints, hlv⟩ F' N'
  dsimp only at hi hcnt hbeg hb8 hrd hints hlv F' N' ⊢
  obtain ⟨n, hn⟩ : ∃ n, cs[i]? = some n := ⟨cs[i], by simp [hi]⟩
  have hnr := hcs i n hn
  have hget : cs.getD i 0 = n := by simp [List.getD, hn]
  have hkind : (i = 0 ∧ n = 256 ∧ beg = false) ∨ (i = 1 ∧ n ≠ 256 ∧ beg = false) ∨ (2 ≤ i ∧ n ≠ 256 ∧ beg = true) := by
    have := hc0 i n hn
    rcases Nat.lt_or_ge i 1 with h | h
    · left; exact ⟨by (first | with_reducible assumption | omega -splitDisjunctions | omega), this.mpr (by (first | with_reducible assumption | omega -splitDisjunctions | omega)), by rw [hbeg]; simp; (first | with_reducible assumption | omega -splitDisjunctions | omega)⟩
    · rcases Nat.lt_or_ge i 2 with h' | h'
      · right; left; exact ⟨by (first | with_reducible assumption | omega -splitDisjunctions | omega), fun q => by have := this.mp q; (first | with_reducible assumption | omega -splitDisjunctions | omega), by rw [hbeg]; simp; (first | with_reducible assumption | omega -splitDisjunctions | omega)⟩
      · right; right; exact ⟨h', fun q => by have := this.mp q; (first | with_reducible assumption | omega -splitDisjunctions | omega), by rw [hbeg]; simp; (first | with_reducible assumption | omega -splitDisjunctions | omega)⟩
  have hend := hc1 i n hn
  clear hbeg
  have hcr := cnt_range hcnt hi hlen
  have e1 : e ≤ 1 := by rcases he with rfl | rfl <;> decide
  have hce : cnt + (e : Int) < 1024 := by clear hkind hend; omega
  have hc4 : cnt < 4096 := by clear hkind hend; omega
  have hlt1 : cs.length - (i + 1) < cs.length - i := Nat.sub_lt_sub_left hi (Nat.lt_succ_self i)
  replace hkind := hid hkind
  replace hend := hid hend
  obtain ⟨W, hW⟩ : ∃ W, W = wid e i := ⟨_, rfl⟩
  have hW9 : 9 ≤ W ∧ W ≤ 10 := by have h9 := wid_9 e i; rw [← hW] at h9; omega
  have hbl : ((Builtin.Int.intBits (cnt + (e : Int)) : Nat) : Int) = (W : Int) := by
    rw [hW]; unfold wid
    by_cases h5 : cnt + (e : Int) < 512
    · rw [intBits_9 _ (by (first | with_reducible assumption | omega -splitDisjunctions | omega)) h5, if_pos (by (first | with_reducible assumption | omega -splitDisjunctions | omega))]
    · rw [intBits_10 _ (by (first | with_reducible assumption | omega -splitDisjunctions | omega)) (by (first | with_reducible assumption | omega -splitDisjunctions | omega)), if_neg (by (first | with_reducible assumption | omega -splitDisjunctions | omega))]
  have hmn : Hid ((if (W : Int) < 12 then (W : Int) else 12) = (W : Int)) := hid (if_pos (by omega))
  have hmx : Hid ((if (W : Int) > 8 + 1 then (W : Int) else 8 + 1) = (W : Int)) := hid (by clear hmn; split <;> omega)
  have hleft : (W : Int) ≤ bits + 8 * ((b.size : Int) - pos) := by
    have h1 := hrd.size
    have h2 := Zf_mono e (show i + 1 ≤ cs.length from hi)
    have h3 : Zf e (i + 1) = Zf e i + W := by rw [hW]; rfl
    (first | with_reducible assumption | omega -splitDisjunctions | omega)
  have hpos := hrd.p0
  have hbits0 := hrd.b0
  k_steps
  (rename Fr _ _ _ _ => FF); (rename News _ _ _ _ => NN)
  refine any_whileC (σ := RT) (fun c => [(l, listOf vs.toArray nn), (x2, instObj 219 d2), (d2, dictOf (cntE w.params t1 t2 t3 sz cnt y0 beg) 3), (x1, instObj 113 d1), (d1, dictOf (inE w.params t4 t5 t6 t7 b tb c.pos c.y1 c.held c.y2 c.bits c.y3) 4), (sz, instObj 184 szd), (szd, dictOf (szE w.params k1 k2 k3 k4 k5 k6 k7 v1 v2 v3 v4 v5 v6 v7 (e : Int)) nz)])
    (fun c => Rd b e cs i c.pos c.held c.bits ∧ c.bits < (W : Int) + 8) (fun c => b.size - c.pos.toNat) ⟨pos, held, bits, y1, y2, y3⟩ FF NN ⟨hrd, by dsimp only; (first | with_reducible assumption | omega -splitDisjunctions | omega)⟩ ?_
  clear FF NN hrd hpos hbits0
  rintro ⟨pos', held', bits', y1', y2', y3'⟩ h' tk' ⟨hrd, hb18⟩ F' N'
  dsimp only at hrd hb18 F' N' ⊢
  have hpos := hrd.p0
  have hbits0 := hrd.b0
  have hheld0 := hrd.h0
  by_cases hlt : bits' < W
  · have hps : pos' < b.size := by
      have h1 := hrd.size
      have h2 := Zf_mono e (show i + 1 ≤ cs.length from hi)
      have h3 : Zf e (i + 1) = Zf e i + W := by rw [hW]; rfl
      (first | with_reducible assumption | omega -splitDisjunctions | omega)
    obtain ⟨x, hx⟩ : ∃ x, b[pos'.toNat]? = some x := ⟨b[pos'.toNat]'(by (first | with_reducible assumption | omega -splitDisjunctions | omega)), by simp⟩
    have hx256 := x.toNat_lt
    have hmp := meas_pos hpos hps
    have hheld : 0 ≤ held' ∧ held' < 512 := ⟨hheld0, Int.lt_of_lt_of_le hrd.lt (by
      have : bits'.toNat ≤ 9 := toNat_le_of (by omega)
      exact_mod_cast Nat.pow_le_pow_right (by decide : 0 < 2) this)⟩
    k_steps
    (rename News _ _ _ _ => NN)
    have hrd' := hrd.octet hx
    rw [or_add held' ((x.toNat : Nat) : Int) (8:Int).toNat hheld0 (by (first | with_reducible assumption | omega -splitDisjunctions | omega)) (by show ((x.toNat : Nat) : Int) < 256; (first | with_reducible assumption | omega -splitDisjunctions | omega))] at NN
    dsimp only [AWPost]
    exact AWEnd.intro ⟨_, _, _, _, _, _⟩ (by k_asm) NN (fun p hp => hp) (fun _ => rfl) ⟨hrd', by dsimp only; (first | with_reducible assumption | omega -splitDisjunctions | omega)⟩ (by dsimp only; (first | with_reducible assumption | omega -splitDisjunctions | omega))
  · have hheld : 0 ≤ held' ∧ held' < 262144 := ⟨hheld0, Int.lt_of_lt_of_le hrd.lt (by
      have : bits'.toNat ≤ 18 := toNat_le_of (by omega)
      rw [show (262144:Int) = 2 ^ 18 by decide]
      exact ipow_le this)⟩
    have hcb : 0 ≤ bits' - (W : Int) := by (first | with_reducible assumption | omega -splitDisjunctions | omega)
    obtain ⟨hval, hrd'⟩ := hrd.take (n := n) hcs hsz hv hn (by (first | with_reducible assumption | omega -splitDisjunctions | omega))
    rw [← hW] at hval hrd'
    have hval' : held'.fdiv (2 ^ (bits' - (W : Int)).toNat) = n := by rw [fdiv_pow _ _ hheld0]; exact hval
    have hb8' : bits' - (W : Int) < 8 := by (first | with_reducible assumption | omega -splitDisjunctions | omega)
    have htk : cs.take (i + 1) = cs.take i ++ [n] := by rw [List.take_add_one, hn]; rfl
    by_cases hl : i + 1 = cs.length
    · have hf257 : held'.fdiv (2 ^ (bits' - (W : Int)).toNat) = 257 := by rw [hval']; exact (show _ ↔ _ from hend).mpr hl
      k_steps
      (rename Fr _ _ _ _ => FF); (rename News _ _ _ _ => NN)
      rw [List.push_toArray, hval'] at NN
      refine ret l _ _ _ _ FF.keep (fun q hq => by
        have := NN q (by revert hq; revert q; (intro q hq; (repeat (rcases List.mem_cons.mp hq with rfl | hq; k_mem)); (exact (nomatch hq))))
        exact ⟨this.1, this.2.2⟩) ?_
      have hcc : cs = cs.take i ++ [n] := by rw [← htk, List.take_of_length_le (by (first | with_reducible assumption | omega -splitDisjunctions | omega))]
      rw [hcc]
      exact intsAre_append hints (.cons n _ .nil)
    · have hf257 : ¬ held'.fdiv (2 ^ (bits' - (W : Int)).toNat) = 257 := by rw [hval']; exact fun q => hl ((show _ ↔ _ from hend).mp q)
      rcases hkind with ⟨hi0, hn2, rfl⟩ | ⟨hi0, hn2, rfl⟩ | ⟨hi0, hn2, rfl⟩
      · have hf256 : held'.fdiv (2 ^ (bits' - (W : Int)).toNat) = 256 := by rw [hval']; exact hn2
        replace hn2 := hid hn2
        k_steps
        (rename Fr _ _ _ _ => FF); (rename News _ _ _ _ => NN)
        rw [List.push_toArray, hval', and_mask held' (bits' - (W : Int)).toNat hheld0] at NN
        dsimp only [AWPost]
        refine AWEnd.intro ⟨i + 1, _, _, _, _, _, _, _, _, _, _, _, _⟩ FF NN (fun p hp => hp) (by intro z; by_cases hz : z = Str.ofString "code"; (rw [if_pos hz]; exact (if_pos hz).symm); (rw [if_neg hz, if_neg hz]; exact (if_neg hz).symm)) ⟨by dsimp only; (first | with_reducible assumption | omega -splitDisjunctions | omega), by dsimp only; (first | with_reducible assumption | omega -splitDisjunctions | omega), by dsimp only; simp; (first | with_reducible assumption | omega -splitDisjunctions | omega), hb8', hrd', by dsimp only; rw [htk]; exact intsAre_append hints (.cons n _ .nil), by simp [hlv]⟩ (by dsimp only; (first | with_reducible assumption | omega -splitDisjunctions | omega))
      · have hf256 : ¬ held'.fdiv (2 ^ (bits' - (W : Int)).toNat) = 256 := by rw [hval']; exact hn2
        have hcn := cnt_stay hcnt (show i < 2 by omega)
        replace hn2 := hid hn2
        k_steps
        (rename Fr _ _ _ _ => FF); (rename News _ _ _ _ => NN)
        rw [List.push_toArray, hval', and_mask held' (bits' - (W : Int)).toNat hheld0] at NN
        dsimp only [AWPost]
        refine AWEnd.intro ⟨i + 1, _, _, _, _, _, _, _, _, _, _, _, _⟩ FF NN (fun p hp => hp) (by intro z; by_cases hz : z = Str.ofString "code"; (rw [if_pos hz]; exact (if_pos hz).symm); (rw [if_neg hz, if_neg hz]; exact (if_neg hz).symm)) ⟨by dsimp only; (first | with_reducible assumption | omega -splitDisjunctions | omega), by dsimp only; (first | with_reducible assumption | omega -splitDisjunctions | omega), by dsimp only; simp; (first | with_reducible assumption | omega -splitDisjunctions | omega), hb8', hrd', by dsimp only; rw [htk]; exact intsAre_append hints (.cons n _ .nil), by simp [hlv]⟩ (by dsimp only; (first | with_reducible assumption | omega -splitDisjunctions | omega))
      · have hf256 : ¬ held'.fdiv (2 ^ (bits' - (W : Int)).toNat) = 256 := by rw [hval']; exact hn2
        have hcn := cnt_next hcnt hi0
        replace hn2 := hid hn2
        k_steps
        (rename Fr _ _ _ _ => FF); (rename News _ _ _ _ => NN)
        rw [List.push_toArray, hval', and_mask held' (bits' - (W : Int)).toNat hheld0] at NN
        dsimp only [AWPost]
        refine AWEnd.intro ⟨i + 1, _, _, _, _, _, _, _, _, _, _, _, _⟩ FF NN (fun p hp => hp) (by intro z; by_cases hz : z = Str.ofString "code"; (rw [if_pos hz]; exact (if_pos hz).symm); (rw [if_neg hz, if_neg hz]; exact (if_neg hz).symm)) ⟨by dsimp only; (first | with_reducible assumption | omega -splitDisjunctions | omega), by dsimp only; (first | with_reducible assumption | omega -splitDisjunctions | omega), by dsimp only; simp; (first | with_reducible assumption | omega -splitDisjunctions | omega), hb8', hrd', by dsimp only; rw [htk]; exact intsAre_append hints (.cons n _ .nil), by simp [hlv]⟩ (by dsimp only; (first | with_reducible assumption | omega -splitDisjunctions | omega))
end Mine
end -- R2

section -- TSlice
theorem Mine.plain_TSlice : True := by w_top off; trivial
open PySem PySem.W PyProof.Rows PySem.Calls PySem.Spec
set_option maxRecDepth 100000
set_option linter.unusedVariables false
namespace Mine
abbrev tupO (vs : List Value) : Obj := { cls := .type "tuple", data := .seq vs.toArray }
section
variable {prog : Program} {w : World} {A : Around} {E : Value → Shared → Prop} {s : Shared} {h₀ : Heap} {L : Addr} {m : Str → Option Value} {news : List (Addr × Obj)}

theorem sliceApplied_one {sl : Addr} {n : Nat} {u : Tok} {Q : Int × Int × Nat → Shared → Prop} (hs : s.heap.IsSliceOf sl .none (.int 1 u) .none) (hn : 1 ≤ n) (h : Q (0, 1, 1) s) :
    wpAny (model prog w) A (Builtin.Slice.sliceApplied (.ref sl) (pure (n : Int))) Q E s := by
  obtain ⟨os, hos, hcs, hds⟩ := id hs
  unfold Builtin.Slice.sliceApplied Builtin.Slice.sliceFields
  refine wpAny_bind (wpAny_bind (wpAny_field hos hds (x := .none) rfl (wpAny_bind (wpAny_field hos hds (x := .int 1 u) rfl (wpAny_bind (wpAny_field hos hds (x := .none) rfl (wpAny_pure ?_)))))))
  refine wpAny_bind (slicePart_none ?_)
  show wpAny _ _ (if ((1 : Int) == 0) = true then _ else _) _ _ s
  rw [if_neg (by decide)]
  refine wpAny_bind (slicePart_none (wpAny_bind (slicePart_int (wpAny_bind (wpAny_pure ?_)))))
  show wpAny _ _ (match Builtin.Slice.sliceAdjust none (some 1) 1 (n : Int) with | (lo, hi) => pure (lo, (1 : Int), Builtin.Slice.slicePlaces lo hi 1)) _ _ s
  have e1 : Builtin.Slice.sliceAdjust none (some 1) 1 (n : Int) = (0, 1) := by
    unfold Builtin.Slice.sliceAdjust
    have h1 : ¬ ((1 : Int) < 0) := by (first | omega -splitDisjunctions | omega)
    simp only [h1, if_false]
    congr 1
    (first | omega -splitDisjunctions | omega)
  rw [e1]
  have e2 : Builtin.Slice.slicePlaces 0 1 1 = 1 := by decide
  show wpAny _ _ (pure ((0 : Int), (1 : Int), Builtin.Slice.slicePlaces 0 1 1)) _ _ s
  rw [e2]
  exact wpAny_pure h

theorem getItem_tuple_one {t sl : Addr} {vs : List Value} {x : Value} {u : Tok} {Q : Value → Shared → Prop} (ht : IsTup s.heap t (x :: vs).toArray) (hs : s.heap.IsSliceOf sl .none (.int 1 u) .none)
    (h1 : vs = [] → Q (.ref t) s) (h2 : vs ≠ [] → Q (.ref s.heap.objs.size) { s with heap := s.heap.push (tupO [x]) }) : wpAny (model prog w) A (getItem (.ref t) (.ref sl)) Q E s := by
  have hdrop : sizeOk (.seq #[x]) := by
    show (1 : Nat) ≤ sizeLine
    rw [sizeLine_eq]; (first | omega -splitDisjunctions | omega)
  obtain ⟨os, hos, hcs, hds⟩ := id hs
  have hTs : s.TypeIs (.ref sl) "slice" := ⟨os, hos, hcs⟩
  unfold getItem
  try with_reducible refine wpAny_holding ?_
  first | refine wpAny_bind (wpAny_pure ?_) | skip
  refine wpAny_bind (wpAny_sequenceKey ht.typeIs (by decide) ?_)
  refine wpAny_bind (wpAny_callSpecial?_slot (name := Str.ofString "__getitem__") ht.typeIs slot_tuple_getitem
    (wpAny_call_entry slot_tuple_getitem ht.typeIs entry_tuple_getitem ?_ (args_tuple_getitem _ _)))
  show wpAny _ _ (Builtin.Tuple.tupleItemsOf (.ref t) >>= _) _ _ s
  refine wpAny_bind (tupleItemsOf_ ht ?_)
  refine wpAny_bind (wpAny_typeOf hTs ?_)
  rw [if_pos (by decide)]
  refine wpAny_bind (sliceApplied_one hs (by simp) ?_)
  show wpAny _ _ (if ((0 : Int) == 0 && (1 : Int) == 1 && (1 : Nat) == (x :: vs).toArray.size) = true then _ else _) _ _ s
  cases vs with
  | nil =>
    rw [if_pos (by rfl)]
    refine wpAny_bind (m := Builtin.Tuple.tupleIsExact _) (wpAny_bind (wpAny_typeOf ht.typeIs (wpAny_pure ?_)))
    rw [if_pos (by decide)]
    have hq := h1 rfl
    refine wpAny_bind (wpAny_rule ?_)
    first
      | exact wpAny_pure ⟨_, rfl, wpAny_pure hq⟩
      | exact wpAny_bind (wpAny_pure (wpAny_pure ⟨_, rfl, wpAny_pure hq⟩))
      | exact wpAny_bind (wpAny_pure ⟨_, rfl, wpAny_pure hq⟩)
      | trace_state
  | cons y ys =>
    rw [if_neg (by simp)]
    have hq := h2 (by simp)
    show wpAny _ _ (Builtin.Tuple.tupleExact #[x] >>= _) _ _ s
    first
      | exact wpAny_bind (m := Builtin.Tuple.tupleExact _) (wpAny_newObj_type (wpAny_pure ⟨_, rfl, wpAny_pure hq⟩) hdrop)
      | exact wpAny_bind (m := Builtin.Tuple.tupleExact _) (wpAny_newObj_type (wpAny_bind (wpAny_pure (wpAny_pure ⟨_, rfl, wpAny_pure hq⟩))) hdrop)
      | exact wpAny_bind (wpAny_bind (m := Builtin.Tuple.tupleExact _) (wpAny_newObj_type (wpAny_pure (wpAny_pure ⟨_, rfl, wpAny_pure hq⟩)) hdrop))
      | exact wpAny_bind (wpAny_bind (m := Builtin.Tuple.tupleExact _) (wpAny_newObj_type (wpAny_pure ⟨_, rfl, wpAny_pure hq⟩) hdrop))

theorem slice_tuple_one {value slice : Expr} {t : Addr} {vs : List Value} {x : Value} {u : Tok} {Q : Value → Shared → Prop}
    (F : Fr h₀ L s.heap m) (N : News h₀ L s.heap news) (ht : (t, tupO (x :: vs)) ∈ news)
    (h1 : vs = [] → ∀ h', Fr h₀ L h' m → News h₀ L h' news → Q (.ref t) { s with heap := h' })
    (h2 : vs ≠ [] → ∀ D h', Fr h₀ L h' m → News h₀ L h' ((D, tupO [x]) :: news) → (∀ p ∈ news, p.1 < D) → Q (.ref D) { s with heap := h' })
    (hs : subscripted slice false (.ref t) (.ref s.heap.objs.size) = operate [.ref s.heap.objs.size, .ref t] (getItem (.ref t) (.ref s.heap.objs.size)) := by with_unfolding_all rfl)
    (hg : ∀ r, letTemporaryGo value (.ref t) r = pure () := by intro _; with_unfolding_all rfl) :
    wpAny (model prog w) A (subscriptTail value slice (.ref t) (.ref s.heap.objs.size)) Q E { s with heap := s.heap.push { cls := .type "slice", data := .fields #[.none, .int 1 u, .none] } } := by
  have ht0 : IsTup s.heap t (x :: vs).toArray := ⟨_, N.get ht, rfl, _, rfl⟩
  have ht' : IsTup (s.heap.push { cls := .type "slice", data := .fields #[.none, .int 1 u, .none] }) t (x :: vs).toArray := ht0.keeps fun _ _ e => Heap.get?_push_of_some _ e
  refine subscriptTail_ops (s := { s with heap := s.heap.push { cls := .type "slice", data := .fields #[.none, .int 1 u, .none] } }) ht'.typeIs slot_tuple_getitem.lookup
    (getItem_tuple_one ht' (Heap.IsSliceOf.new ..) (fun e => h1 e _ (F.push _) (N.grown fun _ _ e => Heap.get?_push_of_some _ e)) (fun e => ?_)) hs hg
  have N1 := News.push (F.push { cls := .type "slice", data := .fields #[.none, .int 1 u, .none] }) (N.grown fun _ _ e => Heap.get?_push_of_some _ e) (tupO [x])
  rw [Heap.size_push] at N1
  show Q (.ref (s.heap.push _).objs.size) _
  rw [Heap.size_push]
  exact h2 e _ _ ((F.push _).push _) N1 fun p hp => Nat.lt_succ_of_lt (Heap.lt_size (N p hp).1)

theorem tup_add {t b : Addr} {vs ws : List Value} {Q : Value → Shared → Prop} (F : Fr h₀ L s.heap m) (N : News h₀ L s.heap news) (ht : (t, tupO vs) ∈ news) (hb : (b, tupO ws) ∈ news) (hv : vs ≠ []) (hw : ws ≠ []) (hz : vs.length + ws.length ≤ sizeLine)
    (h : ∀ D h', Fr h₀ L h' m → News h₀ L h' ((D, tupO (vs ++ ws)) :: news) → (∀ p ∈ news, p.1 < D) → Q (.ref D) { s with heap := h' }) : wpAny (model prog w) A (binaryOp .Add (.ref t) (.ref b)) Q E s :=
  add_tuples F N ⟨_, N.get ht, rfl, _, rfl⟩ ⟨_, N.get hb, rfl, _, rfl⟩ (fun q => absurd q hv) (fun _ q => absurd q hw) (fun _ _ h' F' N' => h _ h' F' N' fun p hp => Heap.lt_size (N p hp).1) hz

theorem tup_truthy {t : Addr} {vs : List Value} {b : Bool} {Q : Bool → Shared → Prop} (N : News h₀ L s.heap news) (ht : (t, tupO vs) ∈ news) (hb : (!vs.isEmpty) = b) (hz : vs.length ≤ 1000)
    (h : Q b { s with toks := s.toks + 1 + 1 }) : wpAny (model prog w) A (truthy (.ref t)) Q E s :=
  truthy_tuple ⟨_, N.get ht, rfl, _, rfl⟩ (by rw [List.size_toArray]; (first | omega -splitDisjunctions | omega)) (by rw [List.isEmpty_toArray, hb]; exact h)

theorem slice1_same {value slice : Expr} {t : Addr} {x : Value} {u : Tok} {Q : Value → Shared → Prop} (F : Fr h₀ L s.heap m) (N : News h₀ L s.heap news) (ht : (t, tupO [x]) ∈ news)
    (h : ∀ h', Fr h₀ L h' m → News h₀ L h' news → Q (.ref t) { s with heap := h' })
    (hs : subscripted slice false (.ref t) (.ref s.heap.objs.size) = operate [.ref s.heap.objs.size, .ref t] (getItem (.ref t) (.ref s.heap.objs.size)) := by with_unfolding_all rfl)
    (hg : ∀ r, letTemporaryGo value (.ref t) r = pure () := by intro _; with_unfolding_all rfl) :
    wpAny (model prog w) A (subscriptTail value slice (.ref t) (.ref s.heap.objs.size)) Q E { s with heap := s.heap.push { cls := .type "slice", data := .fields #[.none, .int 1 u, .none] } } :=
  slice_tuple_one F N ht (fun _ => h) (fun q => absurd rfl q) hs hg
theorem slice1_more {value slice : Expr} {t : Addr} {x y : Value} {vs : List Value} {u : Tok} {Q : Value → Shared → Prop} (F : Fr h₀ L s.heap m) (N : News h₀ L s.heap news) (ht : (t, tupO (x :: y :: vs)) ∈ news)
    (h : ∀ D h', Fr h₀ L h' m → News h₀ L h' ((D, tupO [x]) :: news) → (∀ p ∈ news, p.1 < D) → Q (.ref D) { s with heap := h' })
    (hs : subscripted slice false (.ref t) (.ref s.heap.objs.size) = operate [.ref s.heap.objs.size, .ref t] (getItem (.ref t) (.ref s.heap.objs.size)) := by with_unfolding_all rfl)
    (hg : ∀ r, letTemporaryGo value (.ref t) r = pure () := by intro _; with_unfolding_all rfl) :
    wpAny (model prog w) A (subscriptTail value slice (.ref t) (.ref s.heap.objs.size)) Q E { s with heap := s.heap.push { cls := .type "slice", data := .fields #[.none, .int 1 u, .none] } } :=
  slice_tuple_one F N ht (fun q => by cases q) (fun _ => h) hs hg
theorem my_len {l : Addr} {vs : List Value} {n k : Nat} {Q : Value → Shared → Prop} (N : News h₀ L s.heap news) (hm : (l, listOf vs.toArray n) ∈ news) (hk : vs.length = k) (hz : k ≤ 1000000)
    (h : Q (.int ((k : Nat) : Int) (s.toks + 1)) { s with toks := s.toks + 1 + 1 }) : wpAny (model prog w) A (call (.builtin "len") [.ref l]) Q E s :=
  len_list (News.isList N hm) (by rw [List.size_toArray]; (first | omega -splitDisjunctions | omega)) (by rw [List.size_toArray, hk]; exact h)
theorem my_item {value slice : Expr} {l : Addr} {vs : List Value} {n : Nat} {k : Int} {u : Tok} {x : Value} {Q : Value → Shared → Prop} (N : News h₀ L s.heap news) (hm : (l, listOf vs.toArray n) ∈ news) (hx : vs[k.toNat]? = some x) (h0 : 0 ≤ k) (hz : k < 1000000) (h : Q x s)
    (hs : subscripted slice false (.ref l) (.int k u) = operate [.ref l, .int k u] (getItem (.ref l) (.int k u)) := by with_unfolding_all rfl) (hg : ∀ r, letTemporaryGo value (.ref l) r = pure () := by intro _; with_unfolding_all rfl) :
    wpAny (model prog w) A (subscriptTail value slice (.ref l) (.int k u)) Q E s :=
  item_list (News.isList N hm) h0 (by (first | omega -splitDisjunctions | omega)) (by rw [List.getElem?_toArray]; exact hx) h hs hg
theorem my_extend {D b : Addr} {vs ws : List Value} {n : Nat} {news' : List (Addr × Obj)} {Q : Value → Shared → Prop} (F : Fr h₀ L s.heap m) (N : News h₀ L s.heap news) (hb : (b, tupO ws) ∈ news) (hw : ws ≠ [])
    (U : Upd D (listOf vs.toArray n) (listOf (vs ++ ws).toArray (n + 1)) news news') (hz : vs.length + ws.length ≤ 1000000)
    (h : ∀ h', Fr h₀ L h' m → News h₀ L h' news' → Q .none { s with heap := h' }) : wpAny (model prog w) A (call (.builtin "list.extend") [.ref D, .ref b]) Q E s :=
  kup_extend F N hb (by simp) (by simpa using hw) U (by
    intro hq
    simp only [List.size_toArray, Bool.and_eq_true, Bool.not_eq_true'] at hq
    have := hq.2
    unfold Builtin.List.listTooLong at this
    simp [sizeLine_eq] at this
    (first | omega -splitDisjunctions | omega)) (by simp; rw [sizeLine_eq]; (first | omega -splitDisjunctions | omega)) (by simp; rw [sizeLine_eq]; (first | omega -splitDisjunctions | omega)) h
end
end Mine
end -- TSlice

section -- U1
theorem Mine.plain_U1 : True := by w_top off; trivial
open PySem PySem.W PyProof.Rows PySem.Calls PySem.Spec
set_option maxRecDepth 100000
set_option linter.unusedVariables false

namespace Mine
structure UdP where
  before : List Int
  ws : List (List Int)
  out : List Int
def udStep (c : UdP) (x : Int) : Option UdP :=
  if x = 256 then some ⟨[], [], c.out⟩
  else if x < 256 then (if 0 ≤ x then some ⟨[x], if c.before = [] then c.ws else c.ws ++ [c.before ++ [x]], c.out ++ [x]⟩ else none)
  else match c.ws[(x - 258).toNat]? with
    | some (y :: z :: r) => if x < 258 ∨ c.before = [] then none else some ⟨y :: z :: r, c.ws ++ [c.before ++ [y]], c.out ++ y :: z :: r⟩
    | _ => none
def ud (cs : List Int) : Nat → Option UdP
  | 0 => some ⟨[], [], []⟩
  | i + 1 => (ud cs i).bind fun c => udStep c (cs.getD i 0)
theorem ud_prefix (cs : List Int) {i k : Nat} (h : i ≤ k) : ∀ {st : UdP}, ud cs k = some st → ∃ st', ud cs i = some st' := by
  induction h with
  | refl => intro st h; exact ⟨st, h⟩
  | @step m _ ih =>
    intro st h
    cases hm : ud cs m with
    | none => rw [ud, hm] at h; cases h
    | some st' => exact ih hm
structure US where
  p : UdP
  bref : Addr
  bvs : List Value
  wl : Addr
  wrefs : List Value
  nw : Nat
  svs : List Value
  ns : Nat
  tups : List (Addr × Obj)
  wd : Option Value
def WRel (ws : List (List Int)) (wrefs : List Value) (tups : List (Addr × Obj)) (k : Nat) : Prop :=
  ∀ (j : Nat) (w : List Int), ws[j]? = some w → ∃ a vs, wrefs[j]? = some (.ref a) ∧ (a, tupO vs) ∈ tups ∧ IntsAre vs w ∧ w.length ≤ k
theorem WRel.nil {tups : List (Addr × Obj)} {k : Nat} : WRel [] [] tups k := fun j w h => by simp at h
theorem WRel.mono {ws : List (List Int)} {wrefs : List Value} {tups tups' : List (Addr × Obj)} {k k' : Nat} (h : WRel ws wrefs tups k) (ht : ∀ p ∈ tups, p ∈ tups') (hk : k ≤ k') : WRel ws wrefs tups' k' :=
  fun j w hw => let ⟨a, vs, h1, h2, h3, h4⟩ := h j w hw; ⟨a, vs, h1, ht _ h2, h3, Nat.le_trans h4 hk⟩
theorem WRel.snoc {ws : List (List Int)} {wrefs : List Value} {tups : List (Addr × Obj)} {k : Nat} (h : WRel ws wrefs tups k) (hl : wrefs.length = ws.length) {a : Addr} {vs : List Value} {w : List Int} (ha : (a, tupO vs) ∈ tups) (hi : IntsAre vs w) (hw : w.length ≤ k) : WRel (ws ++ [w]) (wrefs ++ [.ref a]) tups k := by
  intro j w' hj
  by_cases hjl : j < ws.length
  · rw [List.getElem?_append_left hjl] at hj
    obtain ⟨a', vs', h1, h2, h3, h4⟩ := h j w' hj
    exact ⟨a', vs', by rw [List.getElem?_append_left (by (first | with_reducible assumption | omega -splitDisjunctions | omega))]; exact h1, h2, h3, h4⟩
  · rw [List.getElem?_append_right (by (first | with_reducible assumption | omega -splitDisjunctions | omega))] at hj
    have hj0 : j - ws.length = 0 := by
      have := (List.getElem?_eq_some_iff.mp hj).1
      simp at this; (first | with_reducible assumption | omega -splitDisjunctions | omega)
    rw [hj0] at hj
    have hw' : w = w' := by simpa using hj
    subst hw'
    exact ⟨a, vs, by rw [List.getElem?_append_right (by (first | with_reducible assumption | omega -splitDisjunctions | omega)), hl, hj0]; rfl, ha, hi, hw⟩
structure UI (cs : List Int) (sg : Addr) (i : Nat) (c : US) : Prop where
  run : ud cs i = some c.p
  hws : WRel c.p.ws c.wrefs c.tups (i + 1)
  hwl : c.wrefs.length = c.p.ws.length
  hwi : c.p.ws.length ≤ i
  hbt : (c.bref, tupO c.bvs) ∈ c.tups
  hbi : IntsAre c.bvs c.p.before
  hbl : c.p.before.length ≤ i + 1
  hso : IntsAre c.svs c.p.out
  hsl : c.svs.length ≤ 301 * i
  hord : @LT.lt Nat _ sg c.wl
  aw : AllNe c.wl c.tups
  as : AllNe sg c.tups
theorem kw_U1_1 : True := by
  k_with_none
  k_with "ite" => (k_here; k_openite; first
    | (refine ite_pos (by with_reducible assumption) ?_; walk_say "MY POS")
    | (refine ite_neg (by with_reducible assumption) ?_; walk_say "MY NEG")
    | (refine ite_neg (by ((try simp only [decide_eq_true_eq, bne_iff_ne, ne_eq, Bool.not_eq_true', beq_iff_eq, decide_eq_false_iff_not, Bool.not_eq_true, Decidable.not_not]); first | with_reducible assumption | (first | with_reducible assumption | omega -splitDisjunctions | omega))) ?_; walk_say "MY NEG")
    | (refine ite_pos (by ((try simp only [decide_eq_true_eq, bne_iff_ne, ne_eq, Bool.not_eq_true', beq_iff_eq, decide_eq_false_iff_not, Bool.not_eq_true, Decidable.not_not]); first | with_reducible assumption | (first | with_reducible assumption | omega -splitDisjunctions | omega))) ?_; walk_say "MY POS"))
  trivial

local macro_rules | `(tactic| k_all) => `(tactic| (refine allNe_all ?_; assumption))
local macro_rules | `(tactic| k_mem) => `(tactic| ((repeat (refine List.Mem.tail _ ?_)); assumption))
theorem kw_U1_2 : True := by
  k_with "exec For Name Name cons nil" => (k_here; k_dflt (refine any_For ?_))
  trivial
theorem kw_U1_3 : True := by
  k_with "newTuple" => (k_here; k_dflt (refine' kup_newTuple ?kwqF ?kwqN ?_ ?kwqz; (case kwqF => k_asm); (case kwqN => k_asm); (case kwqz => kmk_size)); intro _ _ _ _ kwl1; (try k_lt kwl1); (try k_sweep))
  trivial
theorem kw_U1_4 : True := by
  k_with "subscriptTail Name Slice ref ref" => (k_here; (with_reducible show wpAny _ _ (subscriptTail _ (PySem.Expr.Slice _ _ none _) (Value.ref _) (Value.ref _)) _ _ _); k_dflt (first
    | (refine' slice1_same ?kwqF ?kwqN ?kwqt ?_ ?kwqs ?kwqg; (case kwqF => k_asm); (case kwqN => k_asm); (case kwqt => k_mem); (case kwqs => with_unfolding_all rfl); (case kwqg => kmk_pure); (intro _ _ _; (try k_sweep)))
    | (refine' slice1_more ?kwqF ?kwqN ?kwqt ?_ ?kwqs ?kwqg; (case kwqF => k_asm); (case kwqN => k_asm); (case kwqt => k_mem); (case kwqs => with_unfolding_all rfl); (case kwqg => kmk_pure); (intro _ _ _ _ kwl1; (try k_lt kwl1); (try k_sweep)))))
  trivial
theorem kw_U1_5 : True := by
  k_with "binaryOp Add ref ref" => (k_here; (with_reducible show wpAny _ _ (binaryOp _ (Value.ref _) (Value.ref _)) _ _ _); k_dflt (refine' tup_add ?kwqF ?kwqN ?kwqt ?kwqb ?kwqv ?kwqw ?kwqz ?_; (case kwqF => k_asm); (case kwqN => k_asm); (case kwqt => k_mem); (case kwqb => k_mem); (case kwqv => first | assumption | exact List.cons_ne_nil _ _); (case kwqw => first | assumption | exact List.cons_ne_nil _ _); (case kwqz => ((try simp only [sizeLine_eq, List.length_cons, List.length_nil]); (first | with_reducible assumption | omega -splitDisjunctions | omega))); (intro _ _ _ _ kwl1; (try k_lt kwl1); (try k_sweep))))
  trivial
theorem kw_U1_6 : True := by
  k_with "truthy ref" => (k_here; k_dflt (refine' tup_truthy ?kwqN ?kwqt ?kwqb ?kwqz ?_; (case kwqN => k_asm); (case kwqt => k_mem); (case kwqb => first | assumption | exact rfl); (case kwqz => ((try simp only [List.length_cons, List.length_nil]); (first | with_reducible assumption | omega -splitDisjunctions | omega)))))
  trivial
theorem kw_U1_7 : True := by
  k_with "call builtin:len" => (k_here; (with_reducible show wpAny _ _ (call (Value.builtin "len") [Value.ref _]) _ _ _); k_dflt (refine' my_len ?kwqN ?kwqm ?kwqk ?kwqz ?_; (case kwqN => k_asm); (case kwqm => k_mem); (case kwqk => k_asm); (case kwqz => (first | with_reducible assumption | omega -splitDisjunctions | omega))))
  trivial
theorem kw_U1_8 : True := by
  k_with "subscriptTail" => (k_here; (with_reducible show wpAny _ _ (subscriptTail _ _ (Value.ref _) (Value.int _ _)) _ _ _); k_dflt (refine' my_item ?kwqN ?kwqm ?kwqx ?kwqo ?kwqz ?_ ?kwqs ?kwqg; (case kwqN => k_asm); (case kwqm => k_mem); (case kwqx => k_asm); (case kwqo => (first | with_reducible assumption | omega -splitDisjunctions | omega)); (case kwqz => (first | with_reducible assumption | omega -splitDisjunctions | omega)); (case kwqs => with_unfolding_all rfl); (case kwqg => kmk_pure)))
  trivial
theorem kw_U1_9 : True := by
  k_with "call builtin:list.extend" => (k_here; (with_reducible show wpAny _ _ (call (Value.builtin _) [Value.ref _, Value.ref _]) _ _ _); k_dflt (refine' my_extend ?kwqF ?kwqN ?kwqb ?kwqw ?kwqU ?kwqz ?_; (case kwqF => k_asm); (case kwqN => k_asm); (case kwqb => k_mem); (case kwqw => first | assumption | exact List.cons_ne_nil _ _); (case kwqU => k_upd); (case kwqz => ((try simp only [List.length_cons, List.length_nil]); (first | with_reducible assumption | omega -splitDisjunctions | omega))); (intro _ _ _; (try k_sweep))))
  trivial

set_option maxHeartbeats 8000000 in
theorem uc (w : World) (outer : List Env) (base g : Heap) (mg mb : Str → Option Value) (mean : ExcName → Option Value) (loose : List Str) (s : Shared) (Q : Value → Shared → Prop)
  (k1 k2 k3 k4 k5 k6 k7 v1 v2 v3 v4 v5 v6 v7 tb : Tok) (e : Nat) (sz szd cl : Addr) (nz nc : Nat) (cvs : List Value) (cs : List Int) (st : UdP)
  (B : Below (atop 303 10 (some []) outer) base outer g) (X : (hd.heap_1 w.params).In g) (T : Top hd.view_1 loose mean mg mb g) (hs : g.StaysIn s.heap) (hz : g.objs.size ≤ s.heap.objs.size)
  (hN : ∀ q ∈ [(cl, listOf cvs.toArray nc), (sz, instObj 184 szd), (szd, dictOf (szE w.params k1 k2 k3 k4 k5 k6 k7 v1 v2 v3 v4 v5 v6 v7 (e : Int)) nz)], s.heap.get? q.1 = some q.2 ∧ g.get? q.1 = none)
  (hI : IntsAre cvs cs) (hc1 : ∀ (i : Nat) (n : Int), cs[i]? = some n → (n = 257 ↔ i + 1 = cs.length)) (hlen : cs.length ≤ 300) (hlen0 : 0 < cs.length) (hrun : ud cs (cs.length - 1) = some st)
  (ret : ∀ sg h' tk' svs ns, g.StaysIn h' → (∀ q ∈ [(sg, listOf svs.toArray ns), (cl, listOf cvs.toArray nc), (sz, instObj 184 szd), (szd, dictOf (szE w.params k1 k2 k3 k4 k5 k6 k7 v1 v2 v3 v4 v5 v6 v7 (e : Int)) nz)], h'.get? q.1 = some q.2 ∧ g.get? q.1 = none) →
     IntsAre svs st.out → Q (.ref sg) { s with heap := h', toks := tk' }) :
  codeAny (model Challenge.rw_nn0205_01.row.prog w) (atop 303 10 (some []) outer) (.call (.ref 258) ⟨[.ref sz, .ref cl], []⟩) (fun r s' => match r with | .ok (.ret v) => Q v s' | _ => False) s := by
  revert T; revert X; k_fill; intro X T
  (refine' enter_small X T hs hz hN ?k6 ?k7 ?k8 ?k9 ?kB ?_ ?c2 ?c3 ?c4 ?c5; (case k6 => k_is); (case k7 => k_is); (case k8 => k_room); (case k9 => (first | exact BindsTo.of_eq rfl | exact binds_K (by k_in) rfl (by k_is) rfl rfl rfl | fail "no rule for these arguments")); (case c5 => decide); (case kB => exact locs rfl); (case c2 => exact rfl); (case c3 => exact rfl); (case c4 => exact rfl); k_whole; intro L' h' F' N' l1 hL; (try k_lt l1); (try dsimp only))
  clear hN
  k_steps
  rename_i sg h5 l1a h4 tkA wl h3 l1b h2 tkB D h1 h0 FF NN; (revert kwl1; intro l1c)
  have FF : Fr g L' h0 (fun y => if y = Str.ofString "word" then none else if y = Str.ofString "before" then some (.ref D) else if y = Str.ofString "words" then some (.ref wl) else if y = Str.ofString "signs" then some (.ref sg) else if y = Str.ofString "codes" then some (.ref cl) else if y = Str.ofString "sizes" then some (.ref sz) else none) := frEq FF fun y => by
    show (if y = _ then _ else if y = _ then _ else if y = _ then _ else List.lookup y [(_, _), (_, _)]) = _
    rw [lookup2]
    by_cases h : y = Str.ofString "word"
    · subst h; rfl
    · rw [if_neg h]
  refine any_for_ints (σ := US) (vs := cvs) (ns := cs) (nn := nc) (fun c => (sg, listOf c.svs.toArray c.ns) :: (c.wl, listOf c.wrefs.toArray c.nw) :: (cl, listOf cvs.toArray nc) :: (sz, instObj 184 szd) :: (szd, dictOf (szE w.params k1 k2 k3 k4 k5 k6 k7 v1 v2 v3 v4 v5 v6 v7 (e : Int)) nz) :: c.tups)
    (fun c y => if y = Str.ofString "word" then c.wd else if y = Str.ofString "before" then some (.ref c.bref) else if y = Str.ofString "words" then some (.ref c.wl) else if y = Str.ofString "signs" then some (.ref sg) else if y = Str.ofString "codes" then some (.ref cl) else if y = Str.ofString "sizes" then some (.ref sz) else none)
    (UI cs sg) ⟨⟨[], [], []⟩, D, [], wl, [], 0, [], 0, [(D, tupO [])], none⟩ (fun c => .tail _ (.tail _ (.head _))) hI FF (fun p hp => NN p (by revert hp; revert p; (intro q hq; (repeat (rcases List.mem_cons.mp hq with rfl | hq; k_mem)); (exact (nomatch hq)))))
    ⟨rfl, WRel.nil, rfl, Nat.le_refl _, .head _, .nil, Nat.zero_le _, .nil, Nat.le_refl _, by dsimp only; (first | with_reducible assumption | omega -splitDisjunctions | omega), ⟨by dsimp only; (first | with_reducible assumption | omega -splitDisjunctions | omega), trivial⟩, ⟨by dsimp only; (first | with_reducible assumption | omega -splitDisjunctions | omega), trivial⟩⟩ rfl rfl rfl ?_ ?_
  · intro i c n t h tk I o hn hP hne F' N'
    clear FF NN
    have hi : i < cs.length := (List.getElem?_eq_some_iff.mp hn).1
    obtain ⟨⟨bf, ws, out⟩, bref, bvs, wl, wrefs, nw, svs, ns, tups, wd⟩ := c
    obtain ⟨run, hws, hwl, hwi, hbt, hbi, hbl, hso, hsl, hord, aw, as⟩ := hP
    dsimp only at run hws hwl hwi hbt hbi hbl hso hsl hord aw as F' N' hne ⊢
    simp only [AllNe] at hne
    obtain ⟨ne1, ne2, ne3, ne4, ne5, ne6⟩ := hne
    have hend := hc1 i n hn
    have hget : cs.getD i 0 = n := by simp [List.getD, hn]
    have hwn : wrefs.length = ws.length := hwl
    have hblv : bvs.length ≤ i + 1 := by rw [hbi.length]; exact hbl
    have hwk1 : @Ne Nat wl cl ∧ @Ne Nat wl sz ∧ @Ne Nat wl szd := ⟨Nat.ne_of_gt (Nat.lt_trans l1a.1 hord), Nat.ne_of_gt (Nat.lt_trans l1a.2.1 hord), Nat.ne_of_gt (Nat.lt_trans l1a.2.2 hord)⟩
    by_cases hl : i + 1 = cs.length
    · have hn257 : n = 257 := hend.mpr hl
      have hst : (⟨bf, ws, out⟩ : UdP) = st := by
        have : i = cs.length - 1 := by (first | with_reducible assumption | omega -splitDisjunctions | omega)
        rw [this, hrun] at run; exact (Option.some.inj run).symm
      k_steps
      dsimp only [APost]
      k_steps
      (rename Fr _ _ _ _ => FF); (rename News _ _ _ _ => NN)
      dsimp only
      exact ret sg _ _ _ _ FF.keep (fun q hq => by
        have := NN q (by revert hq; revert q; (intro q hq; (repeat (rcases List.mem_cons.mp hq with rfl | hq; k_mem)); (exact (nomatch hq))))
        exact ⟨this.1, this.2.2⟩) (by rw [← hst]; exact hso)
    · obtain ⟨st', hst'⟩ := ud_prefix cs (show i + 1 ≤ cs.length - 1 by (first | with_reducible assumption | omega -splitDisjunctions | omega)) hrun
      have hstep : udStep ⟨bf, ws, out⟩ n = some st' := by rw [ud, run, hget] at hst'; exact hst'
      have hn257 : n ≠ 257 := fun q => hl (hend.mp q)
      unfold udStep at hstep
      dsimp only at hstep
      by_cases h256 : n = 256
      · rw [if_pos h256] at hstep
        obtain rfl := Option.some.inj hstep
        k_steps
        rename_i wl2 hh3 FA NA la hh2 tkk D2 hh1 hh0 FF NN; (revert kwl1; intro lb)
        dsimp only [APost]
        exact AEnd.intro (⟨⟨[], [], out⟩, D2, [], wl2, [], 0, svs, ns, [(D2, tupO [])], wd⟩ : US) FF NN (by k_mem) (by (intro q hq; (repeat (rcases List.mem_cons.mp hq with rfl | hq; k_mem)); (exact (nomatch hq)))) (by (simp only [AllNe]; refine ⟨?_, ?_, ?_, ?_, ?_, ?_, trivial⟩ <;> (first | with_reducible assumption | omega -splitDisjunctions | omega))) (by (intro z hz; dsimp only; by_cases q1 : z = Str.ofString "word"; (subst q1; rfl); by_cases q2 : z = Str.ofString "before"; (subst q2; rfl); by_cases q3 : z = Str.ofString "words"; (subst q3; rfl); simp only [if_neg q1, if_neg q2, if_neg q3, if_neg hz]))
          ⟨hst', WRel.nil, rfl, Nat.zero_le _, .head _, .nil, Nat.zero_le _, hso, by dsimp only; (first | with_reducible assumption | omega -splitDisjunctions | omega), by dsimp only; (first | with_reducible assumption | omega -splitDisjunctions | omega), ⟨by dsimp only; (first | with_reducible assumption | omega -splitDisjunctions | omega), trivial⟩, ⟨by dsimp only; (first | with_reducible assumption | omega -splitDisjunctions | omega), trivial⟩⟩
      · rw [if_neg h256] at hstep
        by_cases hlt : n < 256
        · rw [if_pos hlt] at hstep
          have hn0 : 0 ≤ n := by
            by_cases h : 0 ≤ n
            · exact h
            · rw [if_neg h] at hstep; cases hstep
          rw [if_pos hn0] at hstep
          obtain rfl := Option.some.inj hstep
          cases hbi with
          | nil =>
            rw [if_pos rfl] at hst'
            k_steps
            rename_i D2 hh3 FA NA TA kA hh2 tk1 hh1 tk0 hh0 FF NN; (revert kwl1; intro la)
            dsimp only [APost]
            exact AEnd.intro (⟨⟨[n], ws, out ++ [n]⟩, D2, [.int n t], wl, wrefs, nw, svs ++ [.int n t], ns + 1, (D2, tupO [.int n t]) :: tups, some (.ref D2)⟩ : US) FF NN (by k_mem) (by (intro q hq; (try dsimp only at hq); (repeat (first | exact hq | (rcases List.mem_cons.mp hq with rfl | hq; k_mem))); (repeat' (first | exact hq | refine List.Mem.tail _ ?_)))) (by (simp only [AllNe]; (repeat' (first | exact And.intro (by (first | with_reducible assumption | omega -splitDisjunctions | omega)) (by assumption) | refine And.intro ?_ ?_ | (first | with_reducible assumption | omega -splitDisjunctions | omega) | assumption)))) (by (intro z hz; dsimp only; by_cases q1 : z = Str.ofString "word"; (subst q1; rfl); by_cases q2 : z = Str.ofString "before"; (subst q2; rfl); by_cases q3 : z = Str.ofString "words"; (subst q3; rfl); simp only [if_neg q1, if_neg q2, if_neg q3, if_neg hz]))
              ⟨hst', hws.mono (fun p hp => .tail _ hp) (Nat.le_succ _), hwl, by dsimp only; (first | with_reducible assumption | omega -splitDisjunctions | omega), .head _, .cons _ _ .nil, by simp, intsAre_append hso (.cons _ _ .nil), by simp; (first | with_reducible assumption | omega -splitDisjunctions | omega), hord, ⟨by dsimp only; (first | with_reducible assumption | omega -splitDisjunctions | omega), aw⟩, ⟨by dsimp only; (first | with_reducible assumption | omega -splitDisjunctions | omega), as⟩⟩
          | @cons b0 tb0 bvr bfr hbr =>
            rw [if_neg (List.cons_ne_nil _ _)] at hst'
            simp only [List.length_cons] at hblv hbl
            k_steps
            · (rename (List.isEmpty _ = true) => he); cases he
            · rename_i D2 hh6 FA NA la TA kA hh5 tk2 hh4 tk1 ha tk0 hh3 E2 hh2 hh1 hh0 FF NN; (revert kwl1; intro lb)
              rw [List.push_toArray] at NN
              dsimp only [APost]
              exact AEnd.intro (⟨⟨[n], ws ++ [b0 :: bfr ++ [n]], out ++ [n]⟩, D2, [.int n t], wl, wrefs ++ [.ref E2], nw + 1, svs ++ [.int n t], ns + 1, (E2, tupO (.int b0 tb0 :: bvr ++ [.int n t])) :: (D2, tupO [.int n t]) :: tups, some (.ref D2)⟩ : US) FF NN (by k_mem) (by (intro q hq; (try dsimp only at hq); (repeat (first | exact hq | (rcases List.mem_cons.mp hq with rfl | hq; k_mem))); (repeat' (first | exact hq | refine List.Mem.tail _ ?_)))) (by (simp only [AllNe]; (repeat' (first | exact And.intro (by (first | with_reducible assumption | omega -splitDisjunctions | omega)) (by assumption) | refine And.intro ?_ ?_ | (first | with_reducible assumption | omega -splitDisjunctions | omega) | assumption)))) (by (intro z hz; dsimp only; by_cases q1 : z = Str.ofString "word"; (subst q1; rfl); by_cases q2 : z = Str.ofString "before"; (subst q2; rfl); by_cases q3 : z = Str.ofString "words"; (subst q3; rfl); simp only [if_neg q1, if_neg q2, if_neg q3, if_neg hz]))
                ⟨hst', (hws.mono (fun p hp => .tail _ (.tail _ hp)) (Nat.le_succ _)).snoc hwl (.head _) (intsAre_append (.cons _ _ hbr) (.cons _ _ .nil)) (by simp; (first | with_reducible assumption | omega -splitDisjunctions | omega)), by simp [hwl], by simp; (first | with_reducible assumption | omega -splitDisjunctions | omega), .tail _ (.head _), .cons _ _ .nil, by simp, intsAre_append hso (.cons _ _ .nil), by simp; (first | with_reducible assumption | omega -splitDisjunctions | omega), hord, ⟨by dsimp only; (first | with_reducible assumption | omega -splitDisjunctions | omega), by dsimp only; (first | with_reducible assumption | omega -splitDisjunctions | omega), aw⟩, ⟨by dsimp only; (first | with_reducible assumption | omega -splitDisjunctions | omega), by dsimp only; (first | with_reducible assumption | omega -splitDisjunctions | omega), as⟩⟩
        · rw [if_neg hlt] at hstep
          obtain ⟨y, z, r, hw, hb0, hstep⟩ : ∃ y z r, ws[(n - 258).toNat]? = some (y :: z :: r) ∧ bf ≠ [] ∧ some (⟨y :: z :: r, ws ++ [bf ++ [y]], out ++ y :: z :: r⟩ : UdP) = some st' := by
            split at hstep
            · rename_i y z r hw
              by_cases h : n < 258 ∨ bf = []
              · rw [if_pos h] at hstep; cases hstep
              · rw [if_neg h] at hstep
                exact ⟨y, z, r, hw, fun q => h (.inr q), hstep⟩
            · cases hstep
          obtain rfl := Option.some.inj hstep
          obtain ⟨a, vs, hwa, hat, hia, hil⟩ := hws _ _ hw
          have hpl := (List.getElem?_eq_some_iff.mp hw).1
          have hn258 : 258 ≤ n := by (first | with_reducible assumption | omega -splitDisjunctions | omega)
          cases hia with
          | @cons _ ty vs' _ hia' =>
            cases hia' with
            | @cons _ tz vr _ hir =>
              have hvr : vr.length = r.length := hir.length
              simp only [List.length_cons] at hil
              cases hbi with
              | nil => exact absurd rfl hb0
              | @cons b0 tb0 bvr bfr hbr =>
                simp only [List.length_cons] at hblv hbl
                k_steps
                · (rename (List.isEmpty _ = true) => he); cases he
                · rename_i ha tk0 D2 hh3 la E2 hh2 hh1 hh0 FF NN; (revert kwl1; intro lb)
                  rw [List.push_toArray] at NN
                  dsimp only [APost]
                  exact AEnd.intro (⟨⟨y :: z :: r, ws ++ [b0 :: bfr ++ [y]], out ++ y :: z :: r⟩, a, .int y ty :: .int z tz :: vr, wl, wrefs ++ [.ref E2], nw + 1, svs ++ .int y ty :: .int z tz :: vr, ns + 1, (E2, tupO (.int b0 tb0 :: bvr ++ [.int y ty])) :: (D2, tupO [.int y ty]) :: tups, some (.ref a)⟩ : US) FF NN (by k_mem) (by (intro q hq; (try dsimp only at hq); (repeat (first | exact hq | (rcases List.mem_cons.mp hq with rfl | hq; k_mem))); (repeat' (first | exact hq | refine List.Mem.tail _ ?_)))) (by (simp only [AllNe]; (repeat' (first | exact And.intro (by (first | with_reducible assumption | omega -splitDisjunctions | omega)) (by assumption) | refine And.intro ?_ ?_ | (first | with_reducible assumption | omega -splitDisjunctions | omega) | assumption)))) (by (intro z hz; dsimp only; by_cases q1 : z = Str.ofString "word"; (subst q1; rfl); by_cases q2 : z = Str.ofString "before"; (subst q2; rfl); by_cases q3 : z = Str.ofString "words"; (subst q3; rfl); simp only [if_neg q1, if_neg q2, if_neg q3, if_neg hz]))
                    ⟨hst', (hws.mono (fun p hp => .tail _ (.tail _ hp)) (Nat.le_succ _)).snoc hwl (.head _) (intsAre_append (.cons _ _ hbr) (.cons _ _ .nil)) (by simp; (first | with_reducible assumption | omega -splitDisjunctions | omega)), by simp [hwl], by simp; (first | with_reducible assumption | omega -splitDisjunctions | omega), .tail _ (.tail _ hat), .cons _ _ (.cons _ _ hir), by simp; (first | with_reducible assumption | omega -splitDisjunctions | omega), intsAre_append hso (.cons _ _ (.cons _ _ hir)), by simp; (first | with_reducible assumption | omega -splitDisjunctions | omega), hord, ⟨by dsimp only; (first | with_reducible assumption | omega -splitDisjunctions | omega), by dsimp only; (first | with_reducible assumption | omega -splitDisjunctions | omega), aw⟩, ⟨by dsimp only; (first | with_reducible assumption | omega -splitDisjunctions | omega), by dsimp only; (first | with_reducible assumption | omega -splitDisjunctions | omega), as⟩⟩
  · intro c h tk u hP F' N'
    exfalso
    have hr := hP.run
    have e1 : cs.length = (cs.length - 1) + 1 := by (first | with_reducible assumption | omega -splitDisjunctions | omega)
    rw [e1, ud, hrun] at hr
    obtain ⟨n, hn⟩ : ∃ n, cs[cs.length - 1]? = some n := ⟨cs[cs.length - 1]'(by (first | with_reducible assumption | omega -splitDisjunctions | omega)), by simp⟩
    have h257 := (hc1 _ n hn).mpr (by (first | with_reducible assumption | omega -splitDisjunctions | omega))
    have hg : cs.getD (cs.length - 1) 0 = 257 := by simp [List.getD, hn, h257]
    rw [hg] at hr
    simp only [Option.bind, udStep] at hr
    rw [if_neg (by decide), if_neg (by decide)] at hr
    split at hr
    · rw [if_pos (.inl (by decide))] at hr; cases hr
    · cases hr
end Mine
end -- U1

section -- UseC
theorem Mine.plain_UseC : True := by w_top off; trivial
open PySem PySem.W PyProof.Rows PySem.Calls PySem.Spec
set_option maxRecDepth 100000
set_option linter.unusedVariables false

namespace Mine
section
variable {s : Shared} {env : Env} {outer : List Env} {A₀ A : Around} {base h₀ : Heap} {L : Addr} {m : Str → Option Value} {news small : List (Addr × Obj)} {p : PySem.Program} {loose : List Str} {mean : ExcName → Option Value} {mg mb : Str → Option Value} {K : Frag}

theorem use_call (B : Below A₀ base outer h₀) (X : K.In h₀) (T : Top hd.view_1 loose mean mg mb h₀) (F : Fr h₀ L s.heap m) (N : News h₀ L s.heap news) (hA : A.frames = some (env :: outer)) (hf : env.frame = some L) (hke : env.scope.kind = .function) (hsub : ∀ p ∈ small, p ∈ news) :
    ∃ g, Below A base (env :: outer) g ∧ K.In g ∧ Top hd.view_1 loose mean mg mb g ∧ g.StaysIn s.heap ∧ g.objs.size ≤ s.heap.objs.size ∧ (∀ q ∈ small, s.heap.get? q.1 = some q.2 ∧ g.get? q.1 = none) ∧
      (∀ h', g.StaysIn h' → (∀ q ∈ small, h'.get? q.1 = some q.2) → Fr h₀ L h' m ∧ News h₀ L h' news) ∧
      (∀ h' l o, h'.get? l = some o → g.get? l = none → News h₀ L h' news → News h₀ L h' ((l, o) :: news)) := by
  have Ns : News h₀ L s.heap small := fun p hp => N p (hsub p hp)
  obtain ⟨FG, BG, st, -⟩ := groundX (R := fun _ _ => True) B F Ns hA hf hke
  refine ⟨_, BG, X.keeps st, T.keeps st, fun b o e => of_hideAll _ e, Nat.le_of_eq (hideAll_size _ _), fun q hq => ⟨(Ns q hq).1, hideAll_none _ (List.mem_map_of_mem hq)⟩, fun h' hs' hk => ?_, fun h' l o hl hg N' => ?_⟩
  · obtain ⟨oL, es, ep, hL, r⟩ := FG.ns
    refine ⟨⟨⟨oL, es, ep, hs' _ _ hL, r⟩, fun b o e => hs' _ _ (st b o e), F.above⟩, fun p hp => ⟨?_, (N p hp).2⟩⟩
    by_cases hm : p.1 ∈ small.map (·.1)
    · obtain ⟨q, hq, e⟩ := List.mem_map.mp hm
      have h1 := (Ns q hq).1
      rw [e, (N p hp).1] at h1
      have h2 := hk q hq
      rw [e] at h2
      rw [h2]; exact h1.symm
    · exact hs' _ _ (hideAll_get _ (N p hp).1 hm)
  · obtain ⟨oL, es, ep, hL, r⟩ := FG.ns
    intro q hq
    rcases List.mem_cons.mp hq with rfl | hq
    · refine ⟨hl, fun e => ?_, ?_⟩
      · dsimp only at e; rw [e, hL] at hg; cases hg
      · cases hh : h₀.get? l with
        | none => rfl
        | some o' => rw [st _ _ hh] at hg; cases hg
    · exact N' q hq
end
section
variable {w : World} {s : Shared} {env : Env} {outer : List Env} {A₀ A : Around} {base h₀ : Heap} {L : Addr} {m : Str → Option Value} {news small : List (Addr × Obj)} {loose : List Str} {mean : ExcName → Option Value} {mg mb : Str → Option Value} {Q : Value → Shared → Prop}
  {E : Value → Shared → Prop} {k1 k2 k3 k4 k5 k6 k7 v1 v2 v3 v4 v5 v6 v7 tb : Tok} {e : Nat} {sz szd cl : Addr} {nz nc : Nat} {b : Array UInt8} {cvs : List Value} {cs : List Int}

theorem call_pk (hAA : A = atop 303 10 (some []) (env :: outer)) (B : Below A₀ base outer h₀) (X : (hd.heap_1 w.params).In h₀) (T : Top hd.view_1 loose mean mg mb h₀) (F : Fr h₀ L s.heap m) (N : News h₀ L s.heap news) (hf : env.frame = some L) (hke : env.scope.kind = .function)
    (h1 : (sz, instObj 184 szd) ∈ news) (h2 : (szd, dictOf (szE w.params k1 k2 k3 k4 k5 k6 k7 v1 v2 v3 v4 v5 v6 v7 (e : Int)) nz) ∈ news) (hb : b.size ≤ 300)
    (ret : ∀ cl h' tk' cvs nc, Fr h₀ L h' m → News h₀ L h' ((cl, listOf cvs.toArray nc) :: news) → IntsAre cvs (pkAll (b.toList.map fun u => ((u.toNat : Nat) : Int))) → Q (.ref cl) { s with heap := h', toks := tk' }) :
    wpAny (model Challenge.rw_nn0205_01.row.prog w) A (call (.ref 244) [.ref sz, .bytes b tb]) Q E s := by
  subst hAA
  obtain ⟨g, BG, XG, TG, g1, g2, g3, g4, g5⟩ := use_call (A := atop 303 10 (some []) (env :: outer)) B X T F N rfl hf hke (small := [(sz, instObj 184 szd), (szd, dictOf (szE w.params k1 k2 k3 k4 k5 k6 k7 v1 v2 v3 v4 v5 v6 v7 (e : Int)) nz)])
    (fun p hp => by rcases List.mem_cons.mp hp with rfl | hp; exact h1; rcases List.mem_cons.mp hp with rfl | hp; exact h2; cases hp)
  refine wpAny_call (codeAny_mono (pk w (env :: outer) base g mg mb mean loose s Q k1 k2 k3 k4 k5 k6 k7 v1 v2 v3 v4 v5 v6 v7 tb e sz szd nz b BG XG TG g1 g2 g3 hb fun cl h' tk' cvs nc q1 q2 q3 => ?_) fun r s' hr => ?_)
  · obtain ⟨F', N'⟩ := g4 h' q1 fun q hq => (q2 q (.tail _ hq)).1
    have := q2 _ (.head _)
    exact ret _ _ _ _ _ F' (g5 h' cl _ this.1 this.2 N') q3
  · cases r with
    | ok f => cases f <;> first | exact hr | exact False.elim hr
    | error e => exact False.elim hr

theorem call_rc {pad : Nat} (hAA : A = atop 303 10 (some []) (env :: outer)) (B : Below A₀ base outer h₀) (X : (hd.heap_1 w.params).In h₀) (T : Top hd.view_1 loose mean mg mb h₀) (F : Fr h₀ L s.heap m) (N : News h₀ L s.heap news) (hf : env.frame = some L) (hke : env.scope.kind = .function)
    (h1 : (sz, instObj 184 szd) ∈ news) (h2 : (szd, dictOf (szE w.params k1 k2 k3 k4 k5 k6 k7 v1 v2 v3 v4 v5 v6 v7 (e : Int)) nz) ∈ news)
    (he : e = 0 ∨ e = 1) (hcs : ∀ (i : Nat) (n : Int), cs[i]? = some n → 0 ≤ n ∧ n < 512) (hc0 : ∀ (i : Nat) (n : Int), cs[i]? = some n → (n = 256 ↔ i = 0)) (hc1 : ∀ (i : Nat) (n : Int), cs[i]? = some n → (n = 257 ↔ i + 1 = cs.length)) (hlen : cs.length ≤ 300) (hlen0 : 0 < cs.length)
    (hsz : 8 * b.size = Zf e cs.length + pad) (hpad : pad < 8) (hv : baVal b = Lf e cs cs.length * 2 ^ pad)
    (ret : ∀ cl h' tk' cvs nc, Fr h₀ L h' m → News h₀ L h' ((cl, listOf cvs.toArray nc) :: news) → IntsAre cvs cs → Q (.ref cl) { s with heap := h', toks := tk' }) :
    wpAny (model Challenge.rw_nn0205_01.row.prog w) A (call (.ref 237) [.ref sz, .bytes b tb]) Q E s := by
  subst hAA
  obtain ⟨g, BG, XG, TG, g1, g2, g3, g4, g5⟩ := use_call (A := atop 303 10 (some []) (env :: outer)) B X T F N rfl hf hke (small := [(sz, instObj 184 szd), (szd, dictOf (szE w.params k1 k2 k3 k4 k5 k6 k7 v1 v2 v3 v4 v5 v6 v7 (e : Int)) nz)])
    (fun p hp => by rcases List.mem_cons.mp hp with rfl | hp; exact h1; rcases List.mem_cons.mp hp with rfl | hp; exact h2; cases hp)
  refine wpAny_call (codeAny_mono (rc w (env :: outer) base g mg mb mean loose s Q k1 k2 k3 k4 k5 k6 k7 v1 v2 v3 v4 v5 v6 v7 tb e sz szd nz b cs pad BG XG TG g1 g2 g3 he hcs hc0 hc1 hlen hlen0 hsz hpad hv fun cl h' tk' cvs nc q1 q2 q3 => ?_) fun r s' hr => ?_)
  · obtain ⟨F', N'⟩ := g4 h' q1 fun q hq => (q2 q (.tail _ hq)).1
    have := q2 _ (.head _)
    exact ret _ _ _ _ _ F' (g5 h' cl _ this.1 this.2 N') q3
  · cases r with
    | ok f => cases f <;> first | exact hr | exact False.elim hr
    | error e => exact False.elim hr

theorem call_uc {st : UdP} (hAA : A = atop 303 10 (some []) (env :: outer)) (B : Below A₀ base outer h₀) (X : (hd.heap_1 w.params).In h₀) (T : Top hd.view_1 loose mean mg mb h₀) (F : Fr h₀ L s.heap m) (N : News h₀ L s.heap news) (hf : env.frame = some L) (hke : env.scope.kind = .function)
    (h0 : (cl, listOf cvs.toArray nc) ∈ news) (h1 : (sz, instObj 184 szd) ∈ news) (h2 : (szd, dictOf (szE w.params k1 k2 k3 k4 k5 k6 k7 v1 v2 v3 v4 v5 v6 v7 (e : Int)) nz) ∈ news)
    (hI : IntsAre cvs cs) (hc1 : ∀ (i : Nat) (n : Int), cs[i]? = some n → (n = 257 ↔ i + 1 = cs.length)) (hlen : cs.length ≤ 300) (hlen0 : 0 < cs.length) (hrun : ud cs (cs.length - 1) = some st)
    (ret : ∀ sg h' tk' svs ns, Fr h₀ L h' m → News h₀ L h' ((sg, listOf svs.toArray ns) :: news) → IntsAre svs st.out → Q (.ref sg) { s with heap := h', toks := tk' }) :
    wpAny (model Challenge.rw_nn0205_01.row.prog w) A (call (.ref 258) [.ref sz, .ref cl]) Q E s := by
  subst hAA
  obtain ⟨g, BG, XG, TG, g1, g2, g3, g4, g5⟩ := use_call (A := atop 303 10 (some []) (env :: outer)) B X T F N rfl hf hke (small := [(cl, listOf cvs.toArray nc), (sz, instObj 184 szd), (szd, dictOf (szE w.params k1 k2 k3 k4 k5 k6 k7 v1 v2 v3 v4 v5 v6 v7 (e : Int)) nz)])
    (fun p hp => by rcases List.mem_cons.mp hp with rfl | hp; exact h0; rcases List.mem_cons.mp hp with rfl | hp; exact h1; rcases List.mem_cons.mp hp with rfl | hp; exact h2; cases hp)
  refine wpAny_call (codeAny_mono (uc w (env :: outer) base g mg mb mean loose s Q k1 k2 k3 k4 k5 k6 k7 v1 v2 v3 v4 v5 v6 v7 v1 e sz szd cl nz nc cvs cs st BG XG TG g1 g2 g3 hI hc1 hlen hlen0 hrun fun sg h' tk' svs ns q1 q2 q3 => ?_) fun r s' hr => ?_)
  · obtain ⟨F', N'⟩ := g4 h' q1 fun q hq => (q2 q (.tail _ hq)).1
    have := q2 _ (.head _)
    exact ret _ _ _ _ _ F' (g5 h' sg _ this.1 this.2 N') q3
  · cases r with
    | ok f => cases f <;> first | exact hr | exact False.elim hr
    | error e => exact False.elim hr

theorem call_wc (hAA : A = atop 303 10 (some []) (env :: outer)) (B : Below A₀ base outer h₀) (X : (hd.heap_1 w.params).In h₀) (T : Top hd.view_1 loose mean mg mb h₀) (F : Fr h₀ L s.heap m) (N : News h₀ L s.heap news) (hf : env.frame = some L) (hke : env.scope.kind = .function)
    (h0 : (cl, listOf cvs.toArray nc) ∈ news) (h1 : (sz, instObj 184 szd) ∈ news) (h2 : (szd, dictOf (szE w.params k1 k2 k3 k4 k5 k6 k7 v1 v2 v3 v4 v5 v6 v7 (e : Int)) nz) ∈ news)
    (hI : IntsAre cvs cs) (he : e = 0 ∨ e = 1) (hcs : ∀ (i : Nat) (n : Int), cs[i]? = some n → 0 ≤ n ∧ n < 512) (hc0 : ∀ (i : Nat) (n : Int), cs[i]? = some n → (n = 256 ↔ i = 0)) (hlen : cs.length ≤ 300)
    (ret : ∀ b t h' tk' (pad : Nat), Fr h₀ L h' m → News h₀ L h' news → pad < 8 → 8 * b.size = Zf e cs.length + pad → baVal b = Lf e cs cs.length * 2 ^ pad → Q (.bytes b t) { s with heap := h', toks := tk' }) :
    wpC (model Challenge.rw_nn0205_01.row.prog w) A (call (.ref 230) [.ref sz, .ref cl]) Q s := by
  subst hAA
  obtain ⟨g, BG, XG, TG, g1, g2, g3, g4, g5⟩ := use_call (A := atop 303 10 (some []) (env :: outer)) B X T F N rfl hf hke (small := [(sz, instObj 184 szd), (szd, dictOf (szE w.params k1 k2 k3 k4 k5 k6 k7 v1 v2 v3 v4 v5 v6 v7 (e : Int)) nz), (cl, listOf cvs.toArray nc)])
    (fun p hp => by rcases List.mem_cons.mp hp with rfl | hp; exact h1; rcases List.mem_cons.mp hp with rfl | hp; exact h2; rcases List.mem_cons.mp hp with rfl | hp; exact h0; cases hp)
  refine c_call (wc w (env :: outer) base g mg mb mean loose s Q k1 k2 k3 k4 k5 k6 k7 v1 v2 v3 v4 v5 v6 v7 e sz szd cl nz nc cvs cs BG XG TG g1 g2 g3 hI he hcs hc0 hlen fun b t h' tk' pad q1 q2 q3 q4 q5 => ?_)
  obtain ⟨F', N'⟩ := g4 h' q1 q2
  exact ret _ _ _ _ _ F' N' q3 q4 q5
end
end Mine
end -- UseC

section -- LE
theorem Mine.plain_LE : True := by w_top off; trivial
open PySem PySem.W PyProof.Rows PySem.Calls PySem.Spec
set_option maxRecDepth 100000
set_option linter.unusedVariables false

namespace Mine
theorem kw_LE_1 : True := by
  k_with_none
  k_with "ite" => (k_here; k_openite; first
    | (refine ite_pos (by with_reducible assumption) ?_; walk_say "MY POS")
    | (refine ite_neg (by with_reducible assumption) ?_; walk_say "MY NEG")
    | (refine ite_neg (by ((try simp only [decide_eq_true_eq, bne_iff_ne, ne_eq, Bool.not_eq_true', beq_iff_eq, decide_eq_false_iff_not, Bool.not_eq_true, Decidable.not_not]); first | with_reducible assumption | (first | with_reducible assumption | omega -splitDisjunctions | omega))) ?_; walk_say "MY NEG")
    | (refine ite_pos (by ((try simp only [decide_eq_true_eq, bne_iff_ne, ne_eq, Bool.not_eq_true', beq_iff_eq, decide_eq_false_iff_not, Bool.not_eq_true, Decidable.not_not]); first | with_reducible assumption | (first | with_reducible assumption | omega -splitDisjunctions | omega))) ?_; walk_say "MY POS"))
  trivial

theorem kw_LE_2 : True := by
  k_with "call ref" => (k_here; (with_reducible show wpAny _ _ (call (Value.ref 244) [Value.ref _, Value.bytes _ _]) _ _ _); k_dflt (refine' call_pk ?kwqa ?kwqB ?kwqX ?kwqT ?kwqF ?kwqN ?kwqf ?kwqk ?kwqh1 ?kwqh2 ?kwqz ?_; (case kwqa => rfl); (case kwqB => k_asm); (case kwqX => k_asm); (case kwqT => k_asm); (case kwqF => k_asm); (case kwqN => k_asm); (case kwqf => rfl); (case kwqk => rfl); (case kwqh1 => k_mem); (case kwqh2 => k_mem); (case kwqz => k_asm); (intro _ _ _ _ _ _ _ _; (try k_sweep))))
  trivial
set_option maxHeartbeats 8000000 in
theorem le (w : World) (outer : List Env) (base g : Heap) (mg mb : Str → Option Value) (mean : ExcName → Option Value) (loose : List Str) (s : Shared) (Q : Value → Shared → Prop) (tb te : Tok) (e : Nat) (b : Array UInt8)
  (B : Below (atop 302 7 (some []) outer) base outer g) (X : (hd.heap_1 w.params).In g) (T : Top hd.view_1 loose mean mg mb g) (hs : g.StaysIn s.heap) (hz : g.objs.size ≤ s.heap.objs.size)
  (hb : b.size ≤ 300) (he : e = 0 ∨ e = 1) (cs : List Int) (hcsv : cs = pkAll (b.toList.map fun u => ((u.toNat : Nat) : Int)))
  (hcs : ∀ (i : Nat) (n : Int), cs[i]? = some n → 0 ≤ n ∧ n < 512) (hc0 : ∀ (i : Nat) (n : Int), cs[i]? = some n → (n = 256 ↔ i = 0)) (hlen : cs.length ≤ 300)
  (ret : ∀ r t h' tk' (pad : Nat), g.StaysIn h' → pad < 8 → 8 * r.size = Zf e cs.length + pad → baVal r = Lf e cs cs.length * 2 ^ pad → Q (.bytes r t) { s with heap := h', toks := tk' }) :
  codeC (model Challenge.rw_nn0205_01.row.prog w) (atop 302 7 (some []) outer) (.call (.ref 266) ⟨[.bytes b tb, .int (e : Int) te], []⟩) (fun fl s' => match fl with | .ret v => Q v s' | _ => False) s := by
  have hN : ∀ q ∈ ([] : List (Addr × Obj)), s.heap.get? q.1 = some q.2 ∧ g.get? q.1 = none := fun q hq => nomatch hq
  revert T; revert X; k_fill; intro X T
  (refine' enter_smallC X T hs hz hN ?k6 ?k7 ?k8 ?k9 ?kB ?_ ?c2 ?c3 ?c4 ?c5; (case k6 => k_is); (case k7 => k_is); (case k8 => k_room); (case k9 => (first | exact BindsTo.of_eq rfl | exact binds_K (by k_in) rfl (by k_is) rfl rfl rfl | exact binds_K (X.keeps hs) rfl (by k_is) rfl rfl rfl | fail "no rule for these arguments")); (case c5 => decide); (case kB => exact locs rfl); (case c2 => exact rfl); (case c3 => exact rfl); (case c4 => exact rfl); k_whole; intro L' h' F' N' l1 hL; (try k_lt l1); (try dsimp only))
  clear hN
  (try dsimp only); refine c_execs_consO ?_
  k_steps
  (try dsimp only)
  refine c_execs_cons (c_Return (c_CallO ?_))
  k_steps
  (try dsimp only)
  refine' c_callWith_K (K := hd.heap_1 w.params) ?k1 ?k2 ?_; (case k1 => k_asm); (case k2 => k_is)
  k_steps
  (try dsimp only)
  (rename Fr _ _ _ _ => FF); (rename News _ _ _ _ => NN); (rename IntsAre _ _ => hI)
  rw [← hcsv] at hI
  refine' call_wc rfl ?B ?X ?T FF NN rfl rfl ?h0 ?h1 ?h2 hI he hcs hc0 hlen ?_
  case B => k_asm
  case X => k_asm
  case T => k_asm
  case h0 => k_mem
  case h1 => k_mem
  case h2 => k_mem
  intro r t h' tk' pad F' N' p1 p2 p3
  exact ret r t h' tk' pad F'.keep p1 p2 p3
theorem kw_LE_3 : True := by
  k_with "call ref" => (k_here; (with_reducible show wpAny _ _ (call (Value.ref 237) [Value.ref _, Value.bytes _ _]) _ _ _); k_dflt (refine' call_rc ?kwqa ?kwqB ?kwqX ?kwqT ?kwqF ?kwqN ?kwqf ?kwqk ?kwqh1 ?kwqh2 ?kwqe ?kwqc1 ?kwqc2 ?kwqc3 ?kwqc4 ?kwqc5 ?kwqc6 ?kwqc7 ?kwqc8 ?_; (case kwqa => rfl); (case kwqB => k_asm); (case kwqX => k_asm); (case kwqT => k_asm); (case kwqF => k_asm); (case kwqN => k_asm); (case kwqf => rfl); (case kwqk => rfl); (case kwqh1 => k_mem); (case kwqh2 => k_mem); (case kwqc8 => k_asm); (case kwqe => k_asm); (case kwqc1 => k_asm); (case kwqc2 => k_asm); (case kwqc3 => k_asm); (case kwqc4 => k_asm); (case kwqc5 => k_asm); (case kwqc6 => k_asm); (case kwqc7 => k_asm); (intro _ _ _ _ _ _ _ _; (try k_sweep))))
  trivial
theorem kw_LE_4 : True := by
  k_with "call ref" => (k_here; (with_reducible show wpAny _ _ (call (Value.ref 258) [Value.ref _, Value.ref _]) _ _ _); k_dflt (refine' call_uc ?kwqa ?kwqB ?kwqX ?kwqT ?kwqF ?kwqN ?kwqf ?kwqk ?kwqh0 ?kwqh1 ?kwqh2 ?kwqi ?kwqc1 ?kwqc2 ?kwqc3 ?kwqc4 ?_; (case kwqa => rfl); (case kwqB => k_asm); (case kwqX => k_asm); (case kwqT => k_asm); (case kwqF => k_asm); (case kwqN => k_asm); (case kwqf => rfl); (case kwqk => rfl); (case kwqh0 => k_mem); (case kwqh1 => k_mem); (case kwqh2 => k_mem); (case kwqi => k_asm); (case kwqc1 => k_asm); (case kwqc2 => k_asm); (case kwqc3 => k_asm); (case kwqc4 => k_asm); (intro _ _ _ _ _ _ _ _; (try k_sweep))))
  trivial
theorem kw_LE_5 : True := by
  k_with "call type:bytes" => (k_here; (with_reducible show wpAny _ _ (call (Value.type _) [Value.ref _]) _ _ _); k_dflt (refine' bytes_K ?kwqF ?kwqN ?kwql ?kwqi ?kwqr ?kwqz ?kwqh ?_; (case kwqF => k_asm); (case kwqN => k_asm); (case kwql => is_list); (case kwqi => k_asm); (case kwqr => k_asm); (case kwqh => with_unfolding_all rfl); (case kwqz => ((rename IntsAre _ _ => kwhIz); rw [kwhIz.length, sizeLine_eq]; (first | with_reducible assumption | omega -splitDisjunctions | omega))); (intro _ _ _ _ _ _)))
  trivial
set_option maxHeartbeats 8000000 in
theorem ld (w : World) (outer : List Env) (base g : Heap) (mg mb : Str → Option Value) (mean : ExcName → Option Value) (loose : List Str) (s : Shared) (Q : Value → Shared → Prop) (tb te : Tok) (e : Nat) (b : Array UInt8) (cs : List Int) (pad : Nat) (st : UdP)
  (B : Below (atop 302 7 (some []) outer) base outer g) (X : (hd.heap_1 w.params).In g) (T : Top hd.view_1 loose mean mg mb g) (hs : g.StaysIn s.heap) (hz : g.objs.size ≤ s.heap.objs.size)
  (he : e = 0 ∨ e = 1) (hcs : ∀ (i : Nat) (n : Int), cs[i]? = some n → 0 ≤ n ∧ n < 512) (hc0 : ∀ (i : Nat) (n : Int), cs[i]? = some n → (n = 256 ↔ i = 0)) (hc1 : ∀ (i : Nat) (n : Int), cs[i]? = some n → (n = 257 ↔ i + 1 = cs.length)) (hlen : cs.length ≤ 300) (hlen0 : 0 < cs.length)
  (hsz : 8 * b.size = Zf e cs.length + pad) (hpad : pad < 8) (hv : baVal b = Lf e cs cs.length * 2 ^ pad) (hrun : ud cs (cs.length - 1) = some st) (hout : ∀ n ∈ st.out, 0 ≤ n ∧ n < 256) (hol : st.out.length ≤ 1000)
  (ret : ∀ t h' tk', g.StaysIn h' → Q (.bytes (st.out.map fun n => n.toNat.toUInt8).toArray t) { s with heap := h', toks := tk' }) :
  codeAny (model Challenge.rw_nn0205_01.row.prog w) (atop 302 7 (some []) outer) (.call (.ref 274) ⟨[.bytes b tb, .int (e : Int) te], []⟩) (fun r s' => match r with | .ok (.ret v) => Q v s' | _ => False) s := by
  have hN : ∀ q ∈ ([] : List (Addr × Obj)), s.heap.get? q.1 = some q.2 ∧ g.get? q.1 = none := fun q hq => nomatch hq
  revert T; revert X; k_fill; intro X T
  (refine' enter_small X T hs hz hN ?k6 ?k7 ?k8 ?k9 ?kB ?_ ?c2 ?c3 ?c4 ?c5; (case k6 => k_is); (case k7 => k_is); (case k8 => k_room); (case k9 => (first | exact BindsTo.of_eq rfl | exact binds_K (by k_in) rfl (by k_is) rfl rfl rfl | exact binds_K (X.keeps hs) rfl (by k_is) rfl rfl rfl | fail "no rule for these arguments")); (case c5 => decide); (case kB => exact locs rfl); (case c2 => exact rfl); (case c3 => exact rfl); (case c4 => exact rfl); k_whole; intro L' h' F' N' l1 hL; (try k_lt l1); (try dsimp only))
  clear hN
  k_steps
  (rename Fr _ _ _ _ => FF)
  exact ret _ _ _ FF.keep
end Mine
end -- LE

section -- AEnum
theorem Mine.plain_AEnum : True := by w_top off; trivial
open PySem PySem.W PyProof.Rows PySem.Calls PySem.Spec
set_option maxRecDepth 100000
set_option linter.unusedVariables false
namespace Mine

def EEnd {σ : Type} (h₀ : Heap) (L : Addr) (xi xv : Str) (m₀ : σ → Str → Option Value) (Led : σ → List (Addr × Obj)) (P : σ → Prop) (I J : Addr) (o p : Obj) (s s' : Shared) : Prop :=
  ∃ c' h' tk' m' news', s' = { s with heap := h', toks := tk' } ∧ Fr h₀ L h' m' ∧ News h₀ L h' news' ∧ (I, o) ∈ news' ∧ (J, p) ∈ news' ∧ (∀ p ∈ Led c', p ∈ news') ∧ AllNe I (Led c') ∧ AllNe J (Led c') ∧ (∀ z, z ≠ xi → z ≠ xv → m' z = m₀ c' z) ∧ P c'
theorem EEnd.intro {σ : Type} {h₀ : Heap} {L : Addr} {xi xv : Str} {m₀ : σ → Str → Option Value} {Led : σ → List (Addr × Obj)} {P : σ → Prop} {I J : Addr} {o p : Obj} {s : Shared} (c' : σ) {h' : Heap} {tk' : Nat} {m' : Str → Option Value} {news' : List (Addr × Obj)}
    (F : Fr h₀ L h' m') (N : News h₀ L h' news') (hI : (I, o) ∈ news') (hJ : (J, p) ∈ news') (hs : ∀ p ∈ Led c', p ∈ news') (hn : AllNe I (Led c')) (hn2 : AllNe J (Led c')) (hm : ∀ z, z ≠ xi → z ≠ xv → m' z = m₀ c' z) (hp : P c') : EEnd h₀ L xi xv m₀ Led P I J o p s { s with heap := h', toks := tk' } :=
  ⟨c', h', tk', m', news', rfl, F, N, hI, hJ, hs, hn, hn2, hm, hp⟩
def EPost {σ : Type} (h₀ : Heap) (L : Addr) (xi xv : Str) (m₀ : σ → Str → Option Value) (Led : σ → List (Addr × Obj)) (P : σ → Prop) (I J : Addr) (o p : Obj) (s : Shared) (Q : Flow → Shared → Prop) (f : Flow) (s' : Shared) : Prop :=
  match f with
  | .next | .cont => EEnd h₀ L xi xv m₀ Led P I J o p s s'
  | .brk => Q .next s'
  | .ret v => Q (.ret v) s'

section
variable {prog : Program} {w : World} {A : Around} {s : Shared} {env : Env} {h₀ : Heap} {xi xv : Str} {pi pv pt : Pos} {x1 : Nat} {body : List Stmt} {Q : Flow → Shared → Prop} {σ : Type}

theorem any_enum {l : Addr} {nn : Nat} {vs : List Value} {ns : List Int} (Led : σ → List (Addr × Obj)) (m₀ : σ → Str → Option Value) (P : Nat → σ → Prop) (c₀ : σ)
    (hl : ∀ c, (l, listOf vs.toArray nn) ∈ Led c) (hi : IntsAre vs ns) (F : Fr h₀ env.locals s.heap (m₀ c₀)) (N : News h₀ env.locals s.heap (Led c₀)) (hp : P 0 c₀)
    (hh : A.handled = none) (hxi : env.kindOf xi = some .local) (hxv : env.kindOf xv = some .local) (hpc : (env.scope.kind == .class || (env.scope.kind == .module && env.locals != env.globals)) = false)
    (turn : ∀ i c n t t2 h tk I J o p, ns[i]? = some n → P i c → AllNe I (Led c) → AllNe J (Led c) → @Ne Nat I J → Fr h₀ env.locals h (fun y => if y = xv then some (.int n t) else if y = xi then some (.int ((i : Nat) : Int) t2) else m₀ c y) → News h₀ env.locals h ((I, o) :: (J, p) :: Led c) →
      wpAny (model prog w) A (execs body env) (EPost h₀ env.locals xi xv m₀ Led (P (i + 1)) I J o p s Q) nope { s with heap := h, toks := tk })
    (done : ∀ c h tk (u v : Str → Option Value), P ns.length c → Fr h₀ env.locals h (fun y => if y = xv then u y else if y = xi then v y else m₀ c y) → News h₀ env.locals h (Led c) → Q .next { s with heap := h, toks := tk }) :
    wpAny (model prog w) A (call (.type "enumerate") [.ref l]) (fun xval s₁ => wpAny (model prog w) A (pyIter xval) (fun it s₂ => codeN (model prog w) A (.forLoop (.Tuple [.Name xi pi, .Name xv pv] x1 pt) it body [] env) Q s₂) nope s₁) nope s := by
  have hlen : vs.length = ns.length := hi.length
  refine call_enumerate_1 (items := vs.toArray) (n := nn) (N.get (hl c₀)) fun h₁ he hit hsz hk => ?_
  refine wpAny_pyIter_enum he ?_
  refine codeAny_forLoop_any (I := fun k s' => ∃ c h tk m i old, s' = { s with heap := h, toks := tk } ∧ k = ns.length + 1 - i ∧ i ≤ ns.length ∧ P i c ∧ AllNe (s.heap.objs.size + 1) (Led c) ∧ AllNe s.heap.objs.size (Led c) ∧
      IsEnum h (s.heap.objs.size + 1) s.heap.objs.size ((i : Nat) : Int) old ∧ h.IsListIter s.heap.objs.size l i ∧ Fr h₀ env.locals h m ∧ News h₀ env.locals h (Led c) ∧ (∀ z, z ≠ xi → z ≠ xv → m z = m₀ c z)) ?_ (ns.length + 1)
    ⟨c₀, h₁, s.toks, m₀ c₀, 0, .none, rfl, rfl, Nat.zero_le _, hp, allNe_of fun p hp' => Nat.ne_of_lt (Nat.lt_succ_of_lt (Heap.lt_size (N p hp').1)), allNe_of fun p hp' => Nat.ne_of_lt (Heap.lt_size (N p hp').1), he, hit,
      ⟨F.ns.at' fun o e => hk _ o e, fun b o e => hk b o (F.keep b o e), F.above⟩, fun p hp' => ⟨hk _ _ (N p hp').1, (N p hp').2⟩, fun _ _ _ => rfl⟩
  have hLs : env.locals < s.heap.objs.size := by obtain ⟨oL, _, _, hL, _⟩ := F.ns; exact Heap.lt_size hL
  have h0s : h₀.objs.size ≤ s.heap.objs.size := Nat.le_trans F.above (Nat.le_of_lt hLs)
  have gE : h₀.get? (s.heap.objs.size + 1) = none := by
    cases hq : h₀.get? (s.heap.objs.size + 1) with
    | none => rfl
    | some o => exact absurd (Heap.lt_size hq) (Nat.not_lt.mpr (Nat.le_succ_of_le h0s))
  have gI : h₀.get? s.heap.objs.size = none := by
    cases hq : h₀.get? s.heap.objs.size with
    | none => rfl
    | some o => exact absurd (Heap.lt_size hq) (Nat.not_lt.mpr h0s)
  have hei : s.heap.objs.size + 1 ≠ s.heap.objs.size := Nat.succ_ne_self _
  have heL : s.heap.objs.size + 1 ≠ env.locals := Nat.ne_of_gt (Nat.lt_succ_of_lt hLs)
  have hiL : s.heap.objs.size ≠ env.locals := Nat.ne_of_gt hLs
  generalize s.heap.objs.size + 1 = e at *
  generalize s.heap.objs.size = it at *
  rintro k s' ⟨c, H, tk, m, i, old, rfl, rfl, hile, hP, hne, hne2, he', hit', F', N', hm⟩
  have hl' : H.IsList l vs.toArray := News.isList N' (hl c)
  have hle : l ≠ e := allNe_all hne _ (hl c)
  have hli : l ≠ it := allNe_all hne2 _ (hl c)
  have next : ∀ h₃ : Heap, (∀ b o, b ≠ e → b ≠ it → H.get? b = some o → h₃.get? b = some o) → Fr h₀ env.locals h₃ m ∧ News h₀ env.locals h₃ (Led c) := fun h₃ hk₃ =>
    ⟨⟨F'.ns.at' fun o x => hk₃ _ o (Ne.symm heL) (Ne.symm hiL) x, fun b o x => hk₃ b o (fun q => by rw [q, gE] at x; cases x) (fun q => by rw [q, gI] at x; cases x) (F'.keep b o x), F'.above⟩,
      fun p hp' => ⟨hk₃ _ _ (allNe_all hne p hp') (allNe_all hne2 p hp') (N' p hp').1, (N' p hp').2⟩⟩
  cases hv : vs.toArray[i]? with
  | none =>
    have hsz' : i = ns.length := Nat.le_antisymm hile (by have := Array.getElem?_eq_none_iff.mp hv; simp at this; (first | omega -splitDisjunctions | omega))
    subst hsz'
    refine wpAny_pyNext_enum_end hh he' hit' hl' hv fun h₂ he₂ => wpAny_execs_nil ?_
    obtain ⟨F₂, N₂⟩ := next h₂ fun b o _ hb x => he₂ b o hb x
    refine done c h₂ _ m m hP ?_ N₂
    have em : m = fun y => if y = xv then m y else if y = xi then m y else m₀ c y := by
      funext y
      by_cases h1 : y = xv
      · simp [h1]
      · by_cases h2 : y = xi
        · simp [h2]
        · simp only [if_neg h1, if_neg h2]; exact hm y h2 h1
    rw [em] at F₂
    exact F₂
  | some v =>
    obtain ⟨n, t, hvn, hn⟩ := IntsAre.at hi i v (by simpa using hv)
    subst hvn
    have hlt : i < ns.length := (List.getElem?_eq_some_iff.mp hn).1
    have heH : e < H.objs.size := Heap.lt_size he'
    have hLH : env.locals < H.objs.size := F'.ns.lt
    obtain ⟨oi, hoi, _⟩ := id hit'
    have hiH : it < H.objs.size := Heap.lt_size hoi
    refine wpAny_pyNext_enum_item he' hit' hl' hv hei fun h₂ heo hit₁ ht₁ hz₁ hk₁ => ?_
    refine wpAny_letOwnedTupleGo_enum heo fun h₃ he₃ hs₃ => ?_
    replace hs₃ : Heap.SameBut e h₂ h₃ := hs₃
    have ht₃ : h₃.IsTuple H.objs.size #[.int ((i : Nat) : Int) tk, .int n t] := ⟨_, (hs₃.2 _ (Nat.ne_of_gt heH)).trans ht₁, rfl, _, rfl⟩
    have hz₃ : h₃.objs.size = H.objs.size + 1 := hs₃.1.trans hz₁
    refine wpAny_assign_Tuple hh ht₃ rfl rfl fun h₄ hx₄ => ?_
    replace hx₄ : Heap.ExtBut h₃.objs.size h₃ h₄ := hx₄
    have old₄ : ∀ b o, b < H.objs.size → h₃.get? b = some o → h₄.get? b = some o := fun b o hb x => hx₄ b o (by rw [hz₃]; exact Nat.ne_of_lt (Nat.lt_succ_of_lt hb)) x
    obtain ⟨F₄, N₄⟩ := next h₄ fun b o hbe hbi x => old₄ b o (Heap.lt_size x) ((hs₃.2 b hbe).trans (hk₁ b o hbe hbi x))
    have e₄ : IsEnum h₄ e it ((i : Int) + 1) (.int n t) := old₄ e _ heH he₃
    have i₄ : h₄.IsListIter it l (i + 1) := (hit₁.extBut hs₃.extBut (Ne.symm hei)).at fun o x => old₄ it o hiH x
    show wpAny _ A (do holding [.int n t] (assign (.Name xi pi) env (.int ((i : Nat) : Int) tk)); do holding [] (assign (.Name xv pv) env (.int n t)); pure ()) _ _ _
    refine wpAny_bind (wpAny_holding (wpAny_assign_Name (wpAny_storeName_local hxi F₄.ns (fun h₅ hn₅ hs₅ => ?_) hpc)))
    replace hs₅ : Heap.SameBut env.locals h₄ h₅ := hs₅
    refine wpAny_bind (wpAny_holding (wpAny_assign_Name (wpAny_storeName_local hxv hn₅ (fun h₆ hn₆ hs₆ => wpAny_pure ?_) hpc)))
    replace hs₆ : Heap.SameBut env.locals h₅ h₆ := hs₆
    have F₆ := (F₄.set hn₅ hs₅).set hn₆ hs₆
    have N₆ := (N₄.set hs₅).set hs₆
    have e₆ : IsEnum h₆ e it ((i : Int) + 1) (.int n t) := (hs₆.2 e heL).trans ((hs₅.2 e heL).trans e₄)
    have i₆ : h₆.IsListIter it l (i + 1) := i₄.at fun o x => (hs₆.2 it hiL).trans ((hs₅.2 it hiL).trans x)
    obtain ⟨oi', hoi', hri⟩ := id i₆
    obtain ⟨oe, hoe, heq⟩ : ∃ oe, h₆.get? e = some oe ∧ ∀ h : Heap, h.get? e = some oe → IsEnum h e it ((i : Int) + 1) (.int n t) := ⟨_, e₆, fun h x => x⟩
    have NI : News h₀ env.locals h₆ ((e, oe) :: (it, oi') :: Led c) := fun p hp' => by
      rcases List.mem_cons.mp hp' with rfl | hp'
      · exact ⟨hoe, heL, gE⟩
      · rcases List.mem_cons.mp hp' with rfl | hp'
        · exact ⟨hoi', hiL, gI⟩
        · exact N₆ p hp'
    have em : (fun y => if y = xv then some (Value.int n t) else if y = xi then some (Value.int ((i : Nat) : Int) tk) else m y) = fun y => if y = xv then some (Value.int n t) else if y = xi then some (Value.int ((i : Nat) : Int) tk) else m₀ c y := by
      funext y
      by_cases h1 : y = xv
      · simp [h1]
      · by_cases h2 : y = xi
        · simp [h2]
        · simp only [if_neg h1, if_neg h2]; exact hm y h2 h1
    rw [em] at F₆
    refine wpAny_mono (turn i c n t tk h₆ _ e it oe oi' hn hP hne hne2 hei F₆ NI) (fun f s₃ h₃' => ?_) fun _ _ x => x.elim
    have fin : EEnd h₀ env.locals xi xv m₀ Led (P (i + 1)) e it oe oi' s s₃ → ∃ m, m < ns.length + 1 - i ∧ ∃ c h tk m_1 i old, s₃ = { s with heap := h, toks := tk } ∧ m = ns.length + 1 - i ∧ i ≤ ns.length ∧ P i c ∧ AllNe e (Led c) ∧ AllNe it (Led c) ∧
        IsEnum h e it ((i : Nat) : Int) old ∧ h.IsListIter it l i ∧ Fr h₀ env.locals h m_1 ∧ News h₀ env.locals h (Led c) ∧ (∀ z, z ≠ xi → z ≠ xv → m_1 z = m₀ c z) := by
      rintro ⟨c', h', tk', m', news', rfl, F'', N'', hI, hJ, hs', hn1, hn2, hm', hp'⟩
      refine ⟨ns.length + 1 - (i + 1), by (first | omega -splitDisjunctions | omega), c', h', tk', m', i + 1, .int n t, rfl, rfl, hlt, hp', hn1, hn2, ?_, ⟨oi', (N'' _ hJ).1, hri⟩, F'', fun p hp => N'' _ (hs' p hp), hm'⟩
      have : ((i + 1 : Nat) : Int) = (i : Int) + 1 := by push_cast; rfl
      rw [this]; exact heq _ (N'' _ hI).1
    cases f with
    | next => exact fin h₃'
    | cont => exact fin h₃'
    | brk => exact h₃'
    | ret v => exact h₃'
end
section
variable {prog : Program} {w : World} {A : Around} {E : Value → Shared → Prop} {s : Shared}
theorem my_lshift {a n : Int} {t u : Tok} {Q : Value → Shared → Prop} (hb : ((Builtin.Int.intBits a : Nat) : Int) ≤ 100000) (h0 : 0 ≤ n) (h1 : n ≤ 100000) (h : Q (.int (a * 2 ^ n.toNat) s.toks) { s with toks := s.toks + 1 }) : wpAny (model prog w) A (binaryOp .LShift (.int a t) (.int n u)) Q E s :=
  lshift_int h0 (by have : (2:Int)^27 = 134217728 := by decide
                    (first | omega -splitDisjunctions | omega)) h
theorem intBits_le (x : Int) (k : Nat) (h0 : 0 ≤ x) (h : x < 2 ^ k) : Builtin.Int.intBits x ≤ k := by
  unfold Builtin.Int.intBits
  by_cases hx : x = 0
  · subst hx; simp
  · have hb : (x == 0) = false := by simpa using hx
    rw [hb]
    simp only [Bool.false_eq_true, if_false]
    have h1 : x.natAbs ≠ 0 := by (first | omega -splitDisjunctions | omega)
    have h2 : x.natAbs < 2 ^ k := by
      have e : ((x.natAbs : Nat) : Int) = x := by (first | omega -splitDisjunctions | omega)
      have : ((x.natAbs : Nat) : Int) < ((2 ^ k : Nat) : Int) := by rw [e]; push_cast; exact h
      exact Int.ofNat_lt.mp this
    have := (Nat.log2_lt h1).mpr h2
    (first | omega -splitDisjunctions | omega)
end
end Mine
end -- AEnum

section -- ECell
theorem Mine.plain_ECell : True := by w_top off; trivial
open PySem PySem.W PyProof.Rows PySem.Calls PySem.Spec
set_option maxRecDepth 100000
set_option linter.unusedVariables false
namespace Mine
section
variable {prog : Program} {w : World} {A : Around} {s : Shared} {g : Heap} {p : Program} {loose : List Str} {mean : ExcName → Option Value} {mg mb : Str → Option Value}
    {small : List (Addr × Obj)} {K : Frag} {name qual : Str} {params : Arguments} {body : List Stmt} {scope : Scope} {dV kV doc pm cdv ct oc : Value} {an od : Option Addr} {osl : Array (Option Value)} {f : Addr} {args : Args} {binds : List (Str × Value)}

theorem enter_smallX {R : Result → Shared → Prop} (X : K.In g) (T : Top p loose mean mg mb g) (hs : g.StaysIn s.heap) (hz : g.objs.size ≤ s.heap.objs.size) (hN : ∀ q ∈ small, s.heap.get? q.1 = some q.2 ∧ g.get? q.1 = none)
    (ho : K.lookup f = some ⟨oc, od, .func (fnOf name qual params body scope dV kV doc pm an cdv ct), osl⟩) (hcd : codeIn K cdv qual = true) (hroom : A.depth < recursionLimit)
    (hbind : BindsTo s (fnOf name qual params body scope dV kV doc pm an cdv ct) args binds) (hkind : (binds.all fun y => scope.names.lookup y.1 == some .local || scope.names.lookup y.1 == some .cell) = true)
    (hnd : ((cellsFrom 0 scope.names []).map (·.1)).Nodup)
    (h : ∀ L' h₁ tk cells, Fr g L' h₁ (bindL (envOfC qual scope L' f cdv).kindOf binds fun _ => none) → News g L' h₁ (cells ++ small) →
      CellsAre (bindC (envOfC qual scope L' f cdv).kindOf binds fun _ => none) (cellsFrom (L' + 1) scope.names []) cells → (∀ p ∈ small, p.1 < L') →
      wpAny (model prog w) (A.deeper (envOfC qual scope L' f cdv)) (execs body (envOfC qual scope L' f cdv))
        (fun fl s' => R (.ok (.ret (match fl with | .ret v => v | _ => .none))) s')
        (fun e s' => wpAny (model prog w) (A.deeper (envOfC qual scope L' f cdv)) (leaving (envOfC qual scope L' f cdv) e) (fun _ s'' => R (.error e) s'') (fun e' s'' => R (.error e') s'') s')
        { s with heap := h₁, toks := tk })
    (hco : scope.isCoroutine = false) (hgen : scope.isGenerator = false) (hk : scope.kind = .function) : codeAny (model prog w) A (.call (.ref f) args) R s := by
  refine codeAny_call_function hroom ((X.keeps hs) _ _ ho) rfl hco hgen rfl (codeRec_of (X.keeps hs) hcd) (hbind _ _ _ _ ?_)
  refine wpAny_newFunctionEnv_cells hk (kindsX hkind _) fun env' he s' x => ?_
  subst he
  refine ⟨(T.nolimit.keeps hs).keeps x.toInCall.keep, codeAny_func ?_⟩
  obtain ⟨h₁, tk, rfl, _⟩ := x.done
  have hk₁ := x.toInCall.keep
  obtain ⟨cells, NC, Y⟩ := Cl.news (h₀ := s.heap) (Nat.le_refl _) fun n c hm => ⟨x.cell n c (lookup_of_mem_nodup (cellsFrom_names scope.names 0 (s.heap.objs.size + 1) [] [] rfl ▸ hnd) hm), x.above n c hm⟩
  refine h s.heap.objs.size h₁ tk cells ⟨x.toInCall.ns, fun b o e => hk₁ b o (hs b o e), hz⟩ (fun p hp => ?_) Y fun q hq => Heap.lt_size (hN q hq).1
  rcases List.mem_append.mp hp with hp | hp
  · refine ⟨(NC p hp).1, (NC p hp).2.1, ?_⟩
    cases q : g.get? p.1 with
    | none => rfl
    | some o => have := hs _ _ q; rw [(NC p hp).2.2] at this; cases this
  · exact ⟨hk₁ _ _ (hN p hp).1, Nat.ne_of_lt (Heap.lt_size (hN p hp).1), (hN p hp).2⟩

theorem enter_CX {R : Flow → Shared → Prop} {fo : Obj} (ho : s.heap.get? f = some fo) (hd : fo.data = .func (fnX name qual params body scope [] dV kV doc pm an cdv ct)) (hlim : s.heap.NoLimit) (hcd : s.heap.CodeRec cdv qual) (hroom : A.depth < recursionLimit)
    (hbind : BindsTo s (fnX name qual params body scope [] dV kV doc pm an cdv ct) args binds) (hkind : (binds.all fun y => scope.names.lookup y.1 == some .local || scope.names.lookup y.1 == some .cell) = true)
    (hnd : ((cellsFrom 0 scope.names []).map (·.1)).Nodup)
    (h : ∀ L' h₁ tk cells, L' = s.heap.objs.size → Fr s.heap L' h₁ (bindL (envOfC qual scope L' f cdv).kindOf binds fun _ => none) → News s.heap L' h₁ cells →
      CellsAre (bindC (envOfC qual scope L' f cdv).kindOf binds fun _ => none) (cellsFrom (L' + 1) scope.names []) cells →
      wpC (model prog w) (A.deeper (envOfC qual scope L' f cdv)) (execs body (envOfC qual scope L' f cdv))
        (fun fl s' => R (.ret (match fl with | .ret v => v | _ => .none)) s')
        { s with heap := h₁, toks := tk })
    (hco : scope.isCoroutine = false) (hgen : scope.isGenerator = false) (hk : scope.kind = .function) : codeC (model prog w) A (.call (.ref f) args) R s := by
  refine codeC_call_function hroom ho hd hco hgen rfl hcd (hbind _ _ _ _ ?_)
  refine wpAny_newFunctionEnv_cells hk (kindsX hkind _) fun env' he s' x => ?_
  subst he
  refine ⟨hlim.keeps x.toInCall.keep, codeC_func ?_⟩
  obtain ⟨h₁, tk, rfl, _⟩ := x.done
  have hk₁ := x.toInCall.keep
  obtain ⟨cells, NC, Y⟩ := Cl.news (h₀ := s.heap) (Nat.le_refl _) fun n c hm => ⟨x.cell n c (lookup_of_mem_nodup (cellsFrom_names scope.names 0 (s.heap.objs.size + 1) [] [] rfl ▸ hnd) hm), x.above n c hm⟩
  exact h s.heap.objs.size h₁ tk cells rfl ⟨x.toInCall.ns, hk₁, Nat.le_refl _⟩ NC Y
end
end Mine
end -- ECell

section -- LComp
theorem Mine.plain_LComp : True := by w_top off; trivial
open PySem PySem.W PyProof.Rows PySem.Calls PySem.Spec
set_option maxRecDepth 100000
set_option linter.unusedVariables false
namespace Mine
section
variable {prog : Program} {w : World} {A : Around} {E : Value → Shared → Prop} {s : Shared} {h₀ : Heap} {L : Addr} {m : Str → Option Value} {env : Env} {news : List (Addr × Obj)}

def EltPost (h₀ : Heap) (L : Addr) (m : Str → Option Value) (news : List (Addr × Obj)) (k : Int) (s : Shared) (y : Value) (s' : Shared) : Prop :=
  ∃ t h' tk', y = .int k t ∧ s' = { s with heap := h', toks := tk' } ∧ Fr h₀ L h' m ∧ News h₀ L h' news
theorem EltPost.intro {k k' : Int} {t : Tok} {h' : Heap} {tk' : Nat} (e : k' = k) (F : Fr h₀ L h' m) (N : News h₀ L h' news) : EltPost h₀ L m news k s (.int k' t) { s with heap := h', toks := tk' } :=
  ⟨t, h', tk', by rw [e], rfl, F, N⟩
def EltAt (prog : Program) (w : World) (A : Around) (h₀ : Heap) (L : Addr) (m : Str → Option Value) (env : Env) (elt : Expr) (x : Str) (scope : Scope) (cl : List (Str × Addr)) (news : List (Addr × Obj)) (n : Nat) (P : Nat → Value → Prop) (f : Nat → Int) (s : Shared) : Prop :=
  ∀ i v I oI C oC D m₂ h tk ys, i < n → P i v → LCg.NsObj oC m₂ → m₂ x = some v → Fr h₀ L h m → News h₀ L h ((I, oI) :: (C, oC) :: (D, LCg.lst ys) :: news) → LCg.Off3 I C D news → ((@Ne Nat I C) ∧ (@Ne Nat I D) ∧ (@Ne Nat C D)) →
    wpAny (model prog w) A (eval elt (compEnvC scope cl C env)) (EltPost h₀ L m ((I, oI) :: (C, oC) :: (D, LCg.lst ys) :: news) (f i) s) nope { s with heap := h, toks := tk }

theorem rest_ints {elt : Expr} {x : Str} {scope : Scope} {cl : List (Str × Addr)} {S : List (Addr × Obj) → Prop} {P : Nat → Value → Prop} {Fin : List Value → List (Addr × Obj) → Prop} {n : Nat} {f : Nat → Int} (hS : S news)
    (turn : EltAt prog w A h₀ L m env elt x scope cl news n P f s) (fin : ∀ ys, IntsAre ys ((List.range n).map f) → Fin ys news) :
    ∀ k i ys, k + i = n → IntsAre ys ((List.range i).map f) → LCg.CompRest prog w A h₀ L m env elt x scope cl s S P Fin k i ys news := by
  intro k
  induction k with
  | zero =>
    intro i ys hk hi
    obtain rfl : i = n := by (first | omega -splitDisjunctions | omega)
    exact LCg.CompRest.zero (fin ys hi)
  | succ k ih =>
    intro i ys hk hi
    refine LCg.CompRest.succ fun v I oI C oC D m₂ h tk E' hP hC hx F N off ne => ?_
    refine wpAny_mono (turn i v I oI C oC D m₂ h tk ys (by (first | omega -splitDisjunctions | omega)) hP hC hx F N off ne) (fun y s' hy => ?_) fun _ _ e => e.elim
    obtain ⟨t, h', tk', rfl, rfl, F', N'⟩ := hy
    refine LCg.CompEnd.intro (s₁ := { s with heap := h, toks := tk }) F' N' news (fun p hp => hp) off hS ?_
    refine ih (i + 1) _ (by (first | omega -splitDisjunctions | omega)) ?_
    rw [List.range_succ, List.map_append]
    exact intsAre_append hi (.cons _ _ .nil)

def RSrc (prog : Program) (w : World) (A : Around) (env : Env) (elt : Expr) (x : Str) (scope : Scope) (cl : List (Str × Addr)) (Q : Value → Shared → Prop) (xv : Value) (s₁ : Shared) : Prop := ∃ h₀ L m news r a b c t u v n f, xv = .ref r ∧ A.handled = none ∧ Fr h₀ L s₁.heap m ∧ News h₀ L s₁.heap news ∧ IsRange s₁.heap r a b c t u v ∧ Builtin.Range.small a b c = true ∧ Builtin.Range.rangeSize a b c = ((n : Nat) : Int) ∧ n ≤ sizeLine ∧
      EltAt prog w A h₀ L m env elt x scope cl news n (fun i v => ∃ t, v = .int (a + (i : Int) * c) t) f s₁ ∧
      (∀ D h tk ys, Fr h₀ L h m → News h₀ L h ((D, LCg.lst ys) :: news) → IntsAre ys ((List.range n).map f) → Q (.ref D) { s₁ with heap := h, toks := tk })
def LSrc (prog : Program) (w : World) (A : Around) (env : Env) (elt : Expr) (x : Str) (scope : Scope) (cl : List (Str × Addr)) (Q : Value → Shared → Prop) (xv : Value) (s₁ : Shared) : Prop := ∃ h₀ L m news ax vs k f, xv = .ref ax ∧ A.handled = none ∧ Fr h₀ L s₁.heap m ∧ News h₀ L s₁.heap news ∧ (ax, listOf vs k) ∈ news ∧ vs.size ≤ sizeLine ∧
      EltAt prog w A h₀ L m env elt x scope cl news vs.size (fun i v => vs[i]? = some v) f s₁ ∧
      (∀ D h tk ys, Fr h₀ L h m → News h₀ L h ((D, LCg.lst ys) :: news) → IntsAre ys ((List.range vs.size).map f) → Q (.ref D) { s₁ with heap := h, toks := tk })

theorem lc_range {elt iter : Expr} {x : Str} {px : Pos} {scope : Scope} {cl : List (Str × Addr)} {pos : Pos} {Q : Value → Shared → Prop}
    (hclos : closureFor scope env = pure cl) (hcell : ∀ y ∈ scope.names, y.2 ≠ .cell) (hkind : scope.kind = .function)
    (hnames : ∀ y ∈ scope.names, y.2 = .local → scope.names.lookup y.1 = some .local) (hx : scope.names.lookup x = some .local)
    (h : wpAny (model prog w) A (eval iter env) (RSrc prog w A env elt x scope cl Q) E s)
    (hs : ∀ x, foldedSetIterable iter env x = pure x := by intro _; rfl) :
    wpAny (model prog w) A (eval (.ListComp elt [⟨.Name x px, iter, [], 0⟩] scope pos) env) Q E s := by
  rw [eval_ListComp]
  refine wpAny_comprehension_free (use := none) rfl hs hclos hkind hnames (wpAny_mono h (fun xv s₁ h₁ => ?_) fun _ _ e => e)
  obtain ⟨h₀, L, m, news, r, a, b, c, t, u, v, n, f, rfl, hh, F, N, hr, hsm, hn, hsz, turn, fin⟩ := h₁
  refine wpAny_pyIter_range hr hsm ?_
  refine LCg.block_U (S := fun _ => True) (Fin := LCg.FinE h₀ L m s₁ Q) (Walks.range hh s₁.heap.objs.size a c n) hsz (fun i h st => ⟨_, st⟩) (fun i h h' o nw st e e' _ _ _ => by
      have st' : h.get? s₁.heap.objs.size = some _ := st
      show h'.get? s₁.heap.objs.size = some _
      rw [e', ← e]; exact st') hcell hkind hx (by show IsRangeIter _ _ _ _ _; rw [hn]; simpa using Heap.get?_push_size _ rfl) (fun b hb => ?_)
    (F.keeps fun _ _ e => Heap.get?_push_of_some _ e) (N.grown fun _ _ e => Heap.get?_push_of_some _ e) (Nat.ne_of_lt F.ns.lt) (next_is_new F) (fun p hp => Nat.ne_of_lt (Heap.lt_size (N p hp).1)) trivial
    ?_ ?_
  · rw [List.mem_singleton.mp hb]
    show s₁.heap.objs.size < (s₁.heap.push _).objs.size
    rw [Heap.size_push]; exact Nat.lt_succ_self _
  · refine rest_ints (S := fun _ => True) (Fin := LCg.FinE h₀ L m s₁ Q) (n := n) (f := f) trivial ?_ ?_ n 0 [] (by (first | omega -splitDisjunctions | omega)) .nil
    · exact fun i v I oI C oC D m₂ h tk ys hi hP hC hx F N off ne => turn i v I oI C oC D m₂ h tk ys hi hP hC hx F N off ne
    · exact fun ys hi D h tk F' N' _ => fin D h tk ys F' N' hi
  · intro D C h tk m' ys news' F' N' o1 hn hC₀ hD₀ hCL hDL hCD offC fin'
    refine ⟨m', hn, fun h'' hs'' => fin' D h'' tk (F'.change hs'' hCL hC₀) (fun p hp => ?_) o1⟩
    refine ⟨hs''.extBut _ _ ?_ (N' p hp).1, (N' p hp).2⟩
    rcases List.mem_cons.mp hp with rfl | hp
    · exact Ne.symm hCD
    · exact offC p hp

end
end Mine
end -- LComp

section -- LL
theorem Mine.plain_LL : True := by w_top off; trivial
open PySem PySem.W PyProof.Rows PySem.Calls PySem.Spec
set_option maxRecDepth 100000
set_option linter.unusedVariables false

namespace Mine
theorem kw_LL_1 : True := by
  k_with_none
  k_with "ite" => (k_here; k_openite; first
    | (refine ite_pos (by with_reducible assumption) ?_; walk_say "MY POS")
    | (refine ite_neg (by with_reducible assumption) ?_; walk_say "MY NEG")
    | (refine ite_neg (by ((try simp only [decide_eq_true_eq, bne_iff_ne, ne_eq, Bool.not_eq_true', beq_iff_eq, decide_eq_false_iff_not, Bool.not_eq_true, Decidable.not_not]); first | with_reducible assumption | (first | with_reducible assumption | omega -splitDisjunctions | omega))) ?_; walk_say "MY NEG")
    | (refine ite_pos (by ((try simp only [decide_eq_true_eq, bne_iff_ne, ne_eq, Bool.not_eq_true', beq_iff_eq, decide_eq_false_iff_not, Bool.not_eq_true, Decidable.not_not]); first | with_reducible assumption | (first | with_reducible assumption | omega -splitDisjunctions | omega))) ?_; walk_say "MY POS"))
  trivial

theorem kw_LL_2 : True := by
  k_with "call builtin:max" => (k_here; (with_reducible show wpAny _ _ (call (Value.builtin _) [Value.int _ _, Value.int _ _]) _ _ _); k_dflt (refine' my_max ?kwqc rfl ?kwqF ?kwqN ?_; (case kwqc => k_asm); (case kwqF => k_asm); (case kwqN => k_asm)); intro _ _ _ _ _; (try k_sweep))
  trivial
theorem kw_LL_3 : True := by
  k_with "call builtin:min" => (k_here; (with_reducible show wpAny _ _ (call (Value.builtin _) [Value.int _ _, Value.int _ _]) _ _ _); k_dflt (refine' my_min ?kwqc rfl ?kwqF ?kwqN ?_; (case kwqc => k_asm); (case kwqF => k_asm); (case kwqN => k_asm)); intro _ _ _ _ _; (try k_sweep))
  trivial
theorem kw_LL_4 : True := by
  k_with "call builtin:int.bit_length" => (k_here; k_dflt (refine' my_bitlen ?kwqc ?_; (case kwqc => k_asm)))
  trivial

theorem kw_LL_5 : True := by
  k_with "exec For Tuple Call cons nil" => (k_here; k_dflt (refine any_For ?_))
  trivial
theorem kw_LL_6 : True := by
  k_with "binaryOp LShift int int" => (k_here; k_dflt (refine' my_lshift ?kwqb ?kwqz ?kwqy ?_; (case kwqb => k_asm); (case kwqz => (first | with_reducible assumption | omega -splitDisjunctions | omega)); (case kwqy => (first | with_reducible assumption | omega -splitDisjunctions | omega))))
  trivial
theorem kw_LL_7 : True := by
  k_with "eval ListComp" => (k_here; k_dflt (refine lc_range (by rfl) (by decide) (by rfl) (by decide) (by rfl) ?_))
  trivial
theorem kw_LL_8 : True := by
  k_with "call type:bytes" => (k_here; (with_reducible show wpAny _ _ (call (Value.type _) [Value.ref _]) _ _ _); k_dflt (refine' bytes_K ?kwqF ?kwqN ?kwql ?kwqi ?kwqr ?kwqz ?kwqh ?_; (case kwqF => k_asm); (case kwqN => k_asm); (case kwql => exact ⟨_, News.get (by k_asm) (by k_mem), rfl, _, rfl⟩); (case kwqi => k_asm); (case kwqr => k_asm); (case kwqh => with_unfolding_all rfl); (case kwqz => k_asm); (intro _ _ _ _ _ _)))
  trivial
structure LS where
  line : Int
  size : Int
  o : Obj
  tl : Tok
  ts : Tok
  kn : Option Value
  wd : Option Value
structure LI (e : Nat) (cs : List Int) (i : Nat) (c : LS) : Prop where
  cell : c.o.data = .cell (some (.int c.line c.tl))
  line : c.line = ((Lf e cs i : Nat) : Int)
  size : c.size = ((Zf e i : Nat) : Int)
theorem Lf_lt (e : Nat) (cs : List Int) (hcs : ∀ (i : Nat) (n : Int), cs[i]? = some n → 0 ≤ n ∧ n < 512) : ∀ i, Lf e cs i < 2 ^ Zf e i
  | 0 => by simp [Lf, Zf]
  | i + 1 => by
    have ih := Lf_lt e cs hcs i
    have hg : (cs.getD i 0).toNat < 512 := by
      cases h : cs[i]? with
      | none => simp [List.getD, h]
      | some n => have := hcs i n h; simp [List.getD, h]; (first | with_reducible assumption | omega -splitDisjunctions | omega)
    have hp : (512 : Nat) ≤ 2 ^ wid e i := by rcases wid_9 e i with h | h <;> rw [h] <;> decide
    show Lf e cs i * 2 ^ wid e i + _ < 2 ^ (Zf e i + wid e i)
    rw [Nat.pow_add]
    have : Lf e cs i * 2 ^ wid e i + 2 ^ wid e i ≤ 2 ^ Zf e i * 2 ^ wid e i := by
      rw [← Nat.succ_mul]; exact Nat.mul_le_mul_right _ ih
    (first | with_reducible assumption | omega -splitDisjunctions | omega)
set_option maxHeartbeats 8000000 in
theorem ll (w : World) (outer : List Env) (base g : Heap) (mg mb : Str → Option Value) (mean : ExcName → Option Value) (loose : List Str) (s : Shared) (Q : Value → Shared → Prop) (te : Tok) (e : Nat) (cl : Addr) (nc : Nat) (cvs : List Value) (cs : List Int)
  (B : Below (atop 302 7 (some []) outer) base outer g) (X : (hd.heap_1 w.params).In g) (T : Top hd.view_1 loose mean mg mb g) (hs : g.StaysIn s.heap) (hz : g.objs.size ≤ s.heap.objs.size)
  (hN : ∀ q ∈ [(cl, listOf cvs.toArray nc)], s.heap.get? q.1 = some q.2 ∧ g.get? q.1 = none) (hI : IntsAre cvs cs)
  (he : e = 0 ∨ e = 1) (hcs : ∀ (i : Nat) (n : Int), cs[i]? = some n → 0 ≤ n ∧ n < 512) (hlen : cs.length ≤ 300)
  (ret : ∀ r t h' tk' (pad : Nat), g.StaysIn h' → (∀ q ∈ [(cl, listOf cvs.toArray nc)], h'.get? q.1 = some q.2) → pad < 8 → 8 * r.size = Zf e cs.length + pad → baVal r = Lf e cs cs.length * 2 ^ pad → Q (.bytes r t) { s with heap := h', toks := tk' }) :
  codeAny (model Challenge.rw_nn0205_01.row.prog w) (atop 302 7 (some []) outer) (.call (.ref 279) ⟨[.ref cl, .int (e : Int) te], []⟩) (fun r s' => match r with | .ok (.ret v) => Q v s' | _ => False) s := by
  revert T; revert X; k_fill; intro X T
  (refine' enter_smallX X T hs hz hN ?k6 ?k7 ?k8 ?k9 ?kB ?kD ?_ ?c2 ?c3 ?c4; (case k6 => k_is); (case k7 => k_is); (case k8 => k_room); (case k9 => (first | exact BindsTo.of_eq rfl | exact binds_K (by k_in) rfl (by k_is) rfl rfl rfl | exact binds_K (X.keeps hs) rfl (by k_is) rfl rfl rfl | fail "no rule for these arguments")); (case kB => exact rfl); (case kD => decide +kernel); (case c2 => exact rfl); (case c3 => exact rfl); (case c4 => exact rfl); k_whole; intro L' h' tk' cells' F' N' Y' l1; (try k_lt l1); k_cells Y'; (try simp only [List.cons_append, List.nil_append] at N'); (try dsimp only))
  k_steps
  (rename Fr _ _ _ _ => FF); (rename News _ _ _ _ => NN); (rename (Obj.data _ = _) => hcell)
  obtain ⟨t0, FF⟩ : ∃ t0, Fr g L' _ (fun y => if y = Str.ofString "known" then none else if y = Str.ofString "wide" then none else if y = Str.ofString "size" then some (.int 0 t0) else if y = Str.ofString "early" then some (.int (e : Int) te) else if y = Str.ofString "codes" then some (.ref cl) else none) :=
    ⟨_, frEq FF fun y => by
      show (if y = _ then _ else if y = _ then _ else if y = _ then _ else none) = _
      by_cases h : y = Str.ofString "known"
      · subst h; rfl
      · rw [if_neg h]
        by_cases h : y = Str.ofString "wide"
        · subst h; rfl
        · rw [if_neg h]⟩
  refine any_enum (σ := LS) (vs := cvs) (ns := cs) (nn := nc) (fun c => [(L' + 1, c.o), (cl, listOf cvs.toArray nc)])
    (fun c y => if y = Str.ofString "known" then c.kn else if y = Str.ofString "wide" then c.wd else if y = Str.ofString "size" then some (.int c.size c.ts) else if y = Str.ofString "early" then some (.int (e : Int) te) else if y = Str.ofString "codes" then some (.ref cl) else none)
    (LI e cs) ⟨0, 0, _, _, t0, none, none⟩ (fun c => .tail _ (.head _)) hI FF NN ⟨hcell, rfl, rfl⟩ rfl rfl rfl rfl ?_ ?_
  · intro i c n t t2 h tk I J o p hn hP hne hne2 hIJ F' N'
    clear FF NN hcell
    have hi : i < cs.length := (List.getElem?_eq_some_iff.mp hn).1
    obtain ⟨line, size, oc, tl, ts, kn, wd⟩ := c
    obtain ⟨hcell, hline, hsize⟩ := hP
    dsimp only at hcell hline hsize F' N' hne hne2 ⊢
    simp only [AllNe] at hne hne2
    obtain ⟨ne1, ne2, -⟩ := hne
    obtain ⟨mf1, mf2, -⟩ := hne2
    have hnr := hcs i n hn
    have hget : cs.getD i 0 = n := by simp [List.getD, hn]
    have hmx : Hid ((if ((i : Nat) : Int) - 2 > 0 then ((i : Nat) : Int) - 2 else 0) = ((i - 2 : Nat) : Int)) := hid (by split <;> (first | with_reducible assumption | omega -splitDisjunctions | omega))
    have hzi : Zf e i ≤ 3000 := Nat.le_trans (Zf_le e i) (by (first | with_reducible assumption | omega -splitDisjunctions | omega))
    have hline0 : 0 ≤ line := by rw [hline]; (first | with_reducible assumption | omega -splitDisjunctions | omega)
    have hbits : ((Builtin.Int.intBits line : Nat) : Int) ≤ 100000 := by
      have := intBits_le line (Zf e i) hline0 (by rw [hline]; exact_mod_cast Lf_lt e cs hcs i)
      (first | with_reducible assumption | omega -splitDisjunctions | omega)
    by_cases hW : 258 + ((i - 2 : Nat) : Int) + (e : Int) < 512
    · have hw9 : wid e i = 9 := by unfold wid; rw [if_pos (by (first | with_reducible assumption | omega -splitDisjunctions | omega))]
      k_steps
      (rename Fr _ _ _ _ => FF); (rename News _ _ _ _ => NN); (rename (Obj.data _ = _) => hcc)
      rw [or_add line n (Int.toNat _) hline0 hnr.1 (by first | (show n < 2 ^ 9; (first | with_reducible assumption | omega -splitDisjunctions | omega)) | (show n < 2 ^ 10; (first | with_reducible assumption | omega -splitDisjunctions | omega)))] at hcc
      have hzz : Zf e (i + 1) = Zf e i + wid e i := rfl
      have hll : Lf e cs (i + 1) = Lf e cs i * 2 ^ wid e i + n.toNat := by simp only [Lf, hget]
      dsimp only [EPost]
      exact EEnd.intro (⟨_, _, _, _, _, _, _⟩ : LS) FF NN (by k_mem) (by k_mem) (by (intro q hq; (try dsimp only at hq); (repeat (first | exact hq | (rcases List.mem_cons.mp hq with rfl | hq; k_mem))); (repeat' (first | exact hq | refine List.Mem.tail _ ?_)))) (by simp only [AllNe]; exact ⟨ne1, ne2, trivial⟩) (by simp only [AllNe]; exact ⟨mf1, mf2, trivial⟩) (by (intro z hz hz2; dsimp only; by_cases q1 : z = Str.ofString "known"; (subst q1; rfl); by_cases q2 : z = Str.ofString "wide"; (subst q2; rfl); by_cases q3 : z = Str.ofString "size"; (subst q3; rfl); simp only [if_neg q1, if_neg q2, if_neg q3, if_neg hz, if_neg hz2]))
        ⟨hcc, by dsimp only; rw [hline, hll, hw9]; push_cast; rw [Int.toNat_of_nonneg hnr.1]; (try rfl), by dsimp only; rw [hsize, hzz, hw9]; push_cast; (try rfl)⟩
    · have hw9 : wid e i = 10 := by unfold wid; rw [if_neg (by (first | with_reducible assumption | omega -splitDisjunctions | omega))]
      k_steps
      (rename Fr _ _ _ _ => FF); (rename News _ _ _ _ => NN); (rename (Obj.data _ = _) => hcc)
      rw [or_add line n (Int.toNat _) hline0 hnr.1 (by first | (show n < 2 ^ 9; (first | with_reducible assumption | omega -splitDisjunctions | omega)) | (show n < 2 ^ 10; (first | with_reducible assumption | omega -splitDisjunctions | omega)))] at hcc
      have hzz : Zf e (i + 1) = Zf e i + wid e i := rfl
      have hll : Lf e cs (i + 1) = Lf e cs i * 2 ^ wid e i + n.toNat := by simp only [Lf, hget]
      dsimp only [EPost]
      exact EEnd.intro (⟨_, _, _, _, _, _, _⟩ : LS) FF NN (by k_mem) (by k_mem) (by (intro q hq; (try dsimp only at hq); (repeat (first | exact hq | (rcases List.mem_cons.mp hq with rfl | hq; k_mem))); (repeat' (first | exact hq | refine List.Mem.tail _ ?_)))) (by simp only [AllNe]; exact ⟨ne1, ne2, trivial⟩) (by simp only [AllNe]; exact ⟨mf1, mf2, trivial⟩) (by (intro z hz hz2; dsimp only; by_cases q1 : z = Str.ofString "known"; (subst q1; rfl); by_cases q2 : z = Str.ofString "wide"; (subst q2; rfl); by_cases q3 : z = Str.ofString "size"; (subst q3; rfl); simp only [if_neg q1, if_neg q2, if_neg q3, if_neg hz, if_neg hz2]))
        ⟨hcc, by dsimp only; rw [hline, hll, hw9]; push_cast; rw [Int.toNat_of_nonneg hnr.1]; (try rfl), by dsimp only; rw [hsize, hzz, hw9]; push_cast; (try rfl)⟩
  · intro c h tk u v hP F' N'
    clear FF NN hcell
    obtain ⟨line, size, oc, tl, ts, kn, wd⟩ := c
    obtain ⟨hcell, hline, hsize⟩ := hP
    dsimp only at hcell hline hsize F' N' ⊢
    have hzi : Zf e cs.length ≤ 3000 := Nat.le_trans (Zf_le e cs.length) (by (first | with_reducible assumption | omega -splitDisjunctions | omega))
    have hline0 : 0 ≤ line := by rw [hline]; (first | with_reducible assumption | omega -splitDisjunctions | omega)
    have hbits : ((Builtin.Int.intBits line : Nat) : Int) ≤ 100000 := by
      have := intBits_le line (Zf e cs.length) hline0 (by rw [hline]; exact_mod_cast Lf_lt e cs hcs cs.length)
      (first | with_reducible assumption | omega -splitDisjunctions | omega)
    obtain ⟨pad, hpad⟩ : ∃ pad : Nat, (-size).fmod 8 = (pad : Int) := ⟨((-size) % 8).toNat, by rw [Int.fmod_eq_emod_of_nonneg _ (by decide)]; (first | with_reducible assumption | omega -splitDisjunctions | omega)⟩
    have hpad8 : pad < 8 ∧ ∃ k : Nat, size + pad = 8 * (k : Int) := by
      rw [Int.fmod_eq_emod_of_nonneg _ (by decide)] at hpad
      exact ⟨by (first | with_reducible assumption | omega -splitDisjunctions | omega), ((size + pad) / 8).toNat, by (first | with_reducible assumption | omega -splitDisjunctions | omega)⟩
    obtain ⟨hp8, k, hk⟩ := hpad8
    have hpz : 0 ≤ (-size).fmod 8 := by (first | with_reducible assumption | omega -splitDisjunctions | omega)
    have hpy : (-size).fmod 8 ≤ 100000 := by (first | with_reducible assumption | omega -splitDisjunctions | omega)
    have hq7 : (size + 7).fdiv 8 - 1 = (k : Int) - 1 := by rw [Int.fdiv_eq_ediv_of_nonneg _ (by decide)]; (first | with_reducible assumption | omega -splitDisjunctions | omega)
    have hk400 : k ≤ 400 := by (first | with_reducible assumption | omega -splitDisjunctions | omega)
    k_steps
    (rename Fr _ _ _ _ => FF); (rename News _ _ _ _ => NN); (rename (Obj.data _ = _) => hcc); (rename IsRange _ _ _ _ _ _ _ _ => hR)
    rw [hq7] at hR
    rw [hpad] at hcc
    have hl2 : 0 ≤ line * 2 ^ pad := Int.mul_nonneg hline0 (Int.le_of_lt (Int.pow_pos (by decide)))
    have e1 : ((pad : Int)).toNat = pad := by (first | with_reducible assumption | omega -splitDisjunctions | omega)
    rw [e1] at hcc
    refine ⟨g, L', _, _, _, _, _, _, _, _, _, k, fun i => (line * 2 ^ pad) / 2 ^ (8 * (k - 1 - i)) % 256, rfl, rfl, FF, NN, hR, small_down (by (first | with_reducible assumption | omega -splitDisjunctions | omega)) (by (first | with_reducible assumption | omega -splitDisjunctions | omega)) (by (first | with_reducible assumption | omega -splitDisjunctions | omega)) (by (first | with_reducible assumption | omega -splitDisjunctions | omega)), ?_, by rw [sizeLine_eq]; (first | with_reducible assumption | omega -splitDisjunctions | omega), ?_, ?_⟩
    · rw [rangeSize_downNat]; (first | with_reducible assumption | omega -splitDisjunctions | omega)
    · rintro i v I oI C oC D m₂ h tk ys hi ⟨t, rfl⟩ hC hx F N off ne
      simp only [LCg.Off3, and_true] at off
      clear FF NN
      have hpl : 0 ≤ 8 * ((k : Int) - 1 + (i : Int) * -1) := by (first | with_reducible assumption | omega -splitDisjunctions | omega)
      k_steps
      (rename Fr _ _ _ _ => FF); (rename News _ _ _ _ => NN)
      refine EltPost.intro ?_ FF NN
      have e8 : (8 * ((k : Int) - 1 + (i : Int) * -1)).toNat = 8 * (k - 1 - i) := by (first | with_reducible assumption | omega -splitDisjunctions | omega)
      rw [e8, fdiv_pow _ _ hl2, and_255 _ (Int.ediv_nonneg hl2 (Int.le_of_lt (Int.pow_pos (by decide))))]
    · intro D h tk ys F N hys
      clear FF NN
      have hrg : ∀ n ∈ ((List.range k).map fun i => (line * 2 ^ pad) / 2 ^ (8 * (k - 1 - i)) % 256), 0 ≤ n ∧ n < 256 := by
        intro n hn
        obtain ⟨i, _, rfl⟩ := List.mem_map.mp hn
        exact ⟨Int.emod_nonneg _ (by decide), Int.emod_lt_of_pos _ (by decide)⟩
      have hyl : ys.length ≤ sizeLine := by rw [hys.length, List.length_map, List.length_range, sizeLine_eq]; (first | with_reducible assumption | omega -splitDisjunctions | omega)
      k_steps
      (rename Fr _ _ _ _ => FF); (rename News _ _ _ _ => NN)
      have hV : line * 2 ^ pad = ((Lf e cs cs.length * 2 ^ pad : Nat) : Int) := by rw [hline]; push_cast; rfl
      have hVlt : Lf e cs cs.length * 2 ^ pad < 256 ^ k := by
        have h1 := Lf_lt e cs hcs cs.length
        have h2 : 256 ^ k = 2 ^ (Zf e cs.length + pad) := by
          rw [show (256 : Nat) = 2 ^ 8 by decide, ← Nat.pow_mul]
          congr 1
          (first | with_reducible assumption | omega -splitDisjunctions | omega)
        rw [h2, Nat.pow_add]
        exact Nat.mul_lt_mul_of_pos_right h1 (Nat.pow_pos (by decide))
      have hdv := digits_val k _ hVlt
      refine ret _ _ _ _ pad FF.keep (fun q hq => (NN q (by revert hq; revert q; (intro q hq; (repeat (rcases List.mem_cons.mp hq with rfl | hq; k_mem)); (exact (nomatch hq))))).1) hp8 ?_ ?_
      · simp only [List.size_toArray, List.length_map, List.length_range]; (first | with_reducible assumption | omega -splitDisjunctions | omega)
      · rw [List.map_map]
        rw [← hV] at hdv
        exact hdv
end Mine
end -- LL

section -- LawR
theorem Mine.plain_LawR : True := by w_top off; trivial
open PySem PySem.W PyProof.Rows PySem.Calls PySem.Spec
set_option maxRecDepth 100000
set_option linter.unusedVariables false
namespace Mine
section
variable {prog : Program} {w : World} {A : Around} {E : Value → Shared → Prop} {s : Shared} {h₀ : Heap} {L d : Addr} {m : Str → Option Value} {env : Env} {news : List (Addr × Obj)} {o : Obj} {g : Obj → List (Addr × Obj)}

theorem my_last {value slice : Expr} {l : Addr} {vs : List Value} {n : Nat} {u : Tok} {x : Value} {Q : Value → Shared → Prop} (N : News h₀ L s.heap news) (hm : (l, listOf vs.toArray n) ∈ news) (hx : vs[vs.length - 1]? = some x) (h : Q x s)
    (hs : subscripted slice false (.ref l) (.int (-1) u) = operate [.ref l, .int (-1) u] (getItem (.ref l) (.int (-1) u)) := by with_unfolding_all rfl) (hg : ∀ r, letTemporaryGo value (.ref l) r = pure () := by intro _; with_unfolding_all rfl) :
    wpAny (model prog w) A (subscriptTail value slice (.ref l) (.int (-1) u)) Q E s := by
  have hl := News.isList N hm
  have hlt := (List.getElem?_eq_some_iff.mp hx).1
  refine subscriptTail_builtin hl.typeIs slot_list_getitem.lookup (wpAny_getItem_list_neg hl (by decide) (by rw [List.size_toArray]; (first | omega -splitDisjunctions | omega)) (by decide) ?_ h) hs hg
  have e : ((-1 : Int) + (vs.toArray.size : Int)).toNat = vs.length - 1 := by rw [List.size_toArray]; (first | omega -splitDisjunctions | omega)
  rw [e, List.getElem?_toArray]; exact hx

theorem isSome_stored (kvs : List (Int × Value)) (k k' : Int) (v : Value) : (valueAt (stored kvs k v) k').isSome = (decide (k' = k) || (valueAt kvs k').isSome) := by
  unfold stored
  by_cases hk : kvs.any (fun kv => kv.1 = k) = true
  · rw [if_pos hk]
    induction kvs with
    | nil => simp at hk
    | cons a r ih =>
      by_cases ha : a.1 = k
      · by_cases hk' : k' = k
        · subst hk'; simp [valueAt, ha]
        · have : ¬ k = k' := fun q => hk' q.symm
          have hrest : (valueAt (r.map fun kv => if kv.1 = k then (kv.1, v) else kv) k').isSome = (valueAt r k').isSome := by
            by_cases hr : r.any (fun kv => kv.1 = k) = true
            · rw [ih hr]; simp [hk']
            · have : (r.map fun kv => if kv.1 = k then (kv.1, v) else kv) = r := by
                have e := List.map_congr_left (l := r) (f := fun kv => if kv.1 = k then (kv.1, v) else kv) (g := id) fun x hx => if_neg fun q => hr (List.any_eq_true.mpr ⟨x, hx, by simpa using q⟩)
                rw [e, List.map_id]
              rw [this]
          simp only [valueAt, List.map_cons, List.find?_cons] at hrest ⊢
          simp [ha, this, hk']
          simpa using hrest
      · have hr : r.any (fun kv => kv.1 = k) = true := by simpa [ha] using hk
        have := ih hr
        by_cases hk' : a.1 = k'
        · have h2 : ¬ k' = k := fun q => ha (hk'.trans q)
          simp [valueAt, ha, hk', h2]
        · simp only [valueAt, List.map_cons, List.find?_cons, if_neg ha] at this ⊢
          simp [hk'] at this ⊢
          exact this
  · rw [if_neg hk]
    simp only [valueAt, List.find?_append]
    by_cases hk' : k' = k
    · subst hk'
      cases h : kvs.find? (fun kv => decide (kv.1 = k')) <;> simp
    · have : ¬ k = k' := fun q => hk' q.symm
      simp [this, hk']

def KSet (prog : Program) (w : World) (d : Addr) (o : Obj) (S : Int → Bool) (n : Nat) : Prop :=
  (d == sysModules) = false ∧ ∃ kvs, o.IsDictOf (intKind prog w) kvs ∧ (∀ k, (valueAt kvs k).isSome = S k) ∧ kvs.length ≤ n
theorem KSet.new (lo : (d == sysModules) = false) (hd : o.IsDictOf (intKind prog w) []) : KSet prog w d o (fun _ => false) 0 := ⟨lo, [], hd, fun _ => rfl, Nat.le_refl _⟩
theorem ks_in {S : Int → Bool} {n : Nat} {k : Int} {t : Tok} {b : Bool} {Q : Value → Shared → Prop} (T : KSet prog w d o S n) (N : News h₀ L s.heap news) (hp : (d, o) ∈ news) (hb : S k = b) (h : Q (.bool b) { s with toks := s.toks + 1 }) :
    wpAny (model prog w) A (compareOp .In (.int k t) (.ref d)) Q E s :=
  let ⟨lo, kvs, hd, hS, _⟩ := T
  kda_in N hp hd lo (intKind_is _ _ _ _) b ((hS k).trans hb) h
theorem length_stored (kvs : List (Int × Value)) (k : Int) (v : Value) : (stored kvs k v).length ≤ kvs.length + 1 := by
  unfold stored; split <;> simp
theorem ks_set {S : Int → Bool} {n : Nat} {k : Int} {t : Tok} {v : Value} {Q : Unit → Shared → Prop} (T : KSet prog w d o S n) (F : Fr h₀ L s.heap m) (N : News h₀ L s.heap news) (U : UpdF d o news g) (hz : n ≤ sizeLine)
    (h : ∀ h' o', Fr h₀ L h' m → News h₀ L h' (g o') → KSet prog w d o' (fun x => decide (x = k) || S x) (n + 1) → Q () { s with heap := h', toks := s.toks + 1 }) : wpAny (model prog w) A (setItem (.ref d) (.int k t) v) Q E s := by
  obtain ⟨lo, kvs, hd, hS, hl⟩ := T
  exact kda_set F N U hd (intKind_is _ _ _ _) (Nat.le_trans hl hz) fun h' o' F' N' hd' => h h' o' F' N' ⟨lo, _, hd', fun x => by rw [isSome_stored, hS], Nat.le_trans (length_stored _ _ _) (Nat.succ_le_succ hl)⟩

def ASrc (prog : Program) (w : World) (A : Around) (env : Env) (elt : Expr) (x y : Str) (scope : Scope) (cl : List (Str × Addr)) (Q : Flow → Shared → Prop) (xv : Value) (s₁ : Shared) : Prop := ∃ h₀ m news ax vs k f, xv = .ref ax ∧ A.handled = none ∧ Fr h₀ env.locals s₁.heap m ∧ News h₀ env.locals s₁.heap news ∧ (ax, listOf vs k) ∈ news ∧ vs.size ≤ sizeLine ∧
      EltAt prog w A h₀ env.locals m env elt x scope cl news vs.size (fun i v => vs[i]? = some v) f s₁ ∧
      (∀ D h tk ys, Fr h₀ env.locals h (fun z => if z = y then some (.ref D) else m z) → News h₀ env.locals h ((D, LCg.lst ys) :: news) → (∀ p ∈ news, @Ne Nat p.1 D) → IntsAre ys ((List.range vs.size).map f) → Q .next { s₁ with heap := h, toks := tk })
theorem asg_lc_list {elt iter : Expr} {x y : Str} {px py : Pos} {scope : Scope} {cl : List (Str × Addr)} {pos spos : Pos} {Q : Flow → Shared → Prop}
    (hsw : swapsWith (.ListComp elt [⟨.Name x px, iter, [], 0⟩] scope pos) (some (.Name y py)) spos.line env = pure true)
    (hclos : closureFor scope env = pure cl) (hcell : ∀ z ∈ scope.names, z.2 ≠ .cell) (hkind : scope.kind = .function)
    (hnames : ∀ z ∈ scope.names, z.2 = .local → scope.names.lookup z.1 = some .local) (hx : scope.names.lookup x = some .local)
    (hy : env.kindOf y = some .local) (hp : (env.scope.kind == .class || (env.scope.kind == .module && env.locals != env.globals)) = false)
    (h : wpAny (model prog w) A (eval iter env) (ASrc prog w A env elt x y scope cl Q) E s)
    (hs : ∀ x, foldedSetIterable iter env x = pure x := by intro _; rfl) :
    wpAny (model prog w) A (exec (.Assign [.Name y py] (.ListComp elt [⟨.Name x px, iter, [], 0⟩] scope pos) spos) env) Q E s := by
  rw [exec_Assign_Name_used _ _ _ _ hsw]
  refine wpAny_bind (wpAny_standAt (wpAny_bind ?_))
  show wpAny _ A (do let _ ← comprehension (.ListComp elt [⟨.Name x px, iter, [], 0⟩] scope pos) scope env _ (newList []) false (eval iter env) (some (assign (.Name y py) env))) _ _ s
  refine wpAny_bind (wpAny_mono (wpAny_comprehension_free (use := some (assign (.Name y py) env)) (Q := fun _ s' => Q .next s') rfl hs hclos hkind hnames
    (wpAny_mono h (fun xv s₁ h₁ => ?_) fun _ _ e => e)) (fun _ s' hq => wpAny_pure (wpAny_pure hq)) fun _ _ e => e)
  obtain ⟨h₀, m, news, ax, vs, k, f, rfl, hh, F, N, hm, hsz, turn, fin⟩ := h₁
  have hS : LCg.SrcAt h₀ ax vs news := .inr ⟨_, hm, rfl, _, rfl⟩
  have hl := hS.list F.keep N
  have hlt : ax < s₁.heap.objs.size := by obtain ⟨_, e, _⟩ := hl; exact Heap.lt_size e
  refine wpAny_pyIter_list hl ?_
  have up : ∀ b o, s₁.heap.get? b = some o → (s₁.heap.push { cls := .type "list_iterator", data := .fields #[.ref ax, .int 0 0] }).get? b = some o := fun b o e => Heap.get?_push_of_some _ e
  refine LCg.block_U (S := LCg.SrcAt h₀ ax vs) (Fin := LCg.FinA h₀ env.locals m s₁ y Q) (Walks.list hh s₁.heap.objs.size ax (Nat.ne_of_lt hlt) vs) hsz (fun i h st => by obtain ⟨o, e, _⟩ := st.1; exact ⟨o, e⟩) LCg.list_st hcell hkind hx ⟨⟨_, Heap.get?_push_size _ rfl, rfl, rfl⟩, hl.push _⟩ (fun b hb => ?_)
    (F.keeps up) (N.grown up) (Nat.ne_of_lt F.ns.lt) (next_is_new F) (fun p hp => Nat.ne_of_lt (Heap.lt_size (N p hp).1)) hS ?_ ?_
  · show b < (s₁.heap.push _).objs.size
    rw [Heap.size_push]
    rcases List.mem_cons.mp hb with rfl | hb
    · exact Nat.lt_succ_self _
    · rw [List.mem_singleton.mp hb]; exact Nat.lt_succ_of_lt hlt
  · refine rest_ints (S := LCg.SrcAt h₀ ax vs) (Fin := LCg.FinA h₀ env.locals m s₁ y Q) (n := vs.size) (f := f) hS ?_ ?_ vs.size 0 [] (by (first | omega -splitDisjunctions | omega)) .nil
    · exact fun i v I oI C oC D m₂ h tk ys hi hP hC hx F N off ne => turn i v I oI C oC D m₂ h tk ys hi hP hC hx F N off ne
    · refine fun ys hi D h tk F' N' o1 => fin D h tk ys F' N' ?_ hi
      have go : ∀ l : List (Addr × Obj), LCg.Off1 D l → ∀ p ∈ l, @Ne Nat p.1 D := by
        intro l
        induction l with
        | nil => exact fun _ p hp => nomatch hp
        | cons a r ih =>
          intro ho p hp
          rcases List.mem_cons.mp hp with rfl | hp
          · exact ho.1
          · exact ih ho.2 p hp
      exact go _ o1
  · intro D C h' tk m' ys news' F' N' o1 hn hC₀ hD₀ hCL hDL hCD offC fin
    show wpAny _ A (assign (.Name y py) env (.ref D)) _ _ _
    refine wpAny_assign_Name (wpAny_storeName_local hy F'.ns (fun h₂ hn₂ hs₂ => ?_) hp)
    have hL₀ : h₀.get? env.locals = none := Heap.get?_none_of_le F'.above
    have F₂ : Fr h₀ env.locals h₂ (fun z => if z = y then some (.ref D) else m z) := ⟨hn₂, fun b o e => hs₂.extBut b o (fun q => by rw [q, hL₀] at e; cases e) (F'.keep b o e), F'.above⟩
    refine ⟨m', hn.sameBut hs₂ hCL, fun h'' hs'' => fin D h'' _ (F₂.change hs'' hCL hC₀) (fun p hp => ?_) o1⟩
    have z : h₂.get? p.1 = some p.2 := hs₂.extBut _ _ (N' p hp).2.1 (N' p hp).1
    refine ⟨hs''.extBut _ _ ?_ z, (N' p hp).2⟩
    rcases List.mem_cons.mp hp with rfl | hp
    · exact Ne.symm hCD
    · exact offC p hp
end
end Mine
end -- LawR

section -- LawS
theorem Mine.plain_LawS : True := by w_top off; trivial
open PySem PySem.W PyProof.Rows PySem.Calls PySem.Spec
set_option maxRecDepth 100000
set_option linter.unusedVariables false
namespace Mine
section
variable {prog : Program} {w : World} {A : Around} {E : Value → Shared → Prop} {s : Shared} {h₀ : Heap} {L l a b : Addr} {m : Str → Option Value} {news : List (Addr × Obj)} {vs ws : List Value} {ns ms : List Int} {k k2 : Nat} {Q : Value → Shared → Prop} {x y : Int} {u v : Tok} {value slice : Expr}
theorem sl_run (F : Fr h₀ L s.heap m) (N : News h₀ L s.heap news) (hm : (l, listOf vs.toArray k) ∈ news) (hi : IntsAre vs ns) (hx : 0 ≤ x) (hy : 0 ≤ y) (hz : ns.length ≤ 1000000) (hms : ((ns.drop x.toNat).take (min y.toNat ns.length - x.toNat)) = ms)
    (h : ∀ D ws h', Fr h₀ L h' m → News h₀ L h' ((D, listOf (List.toArray ws) 0) :: news) → (∀ p ∈ news, p.1 < D) → IntsAre ws ms → Q (.ref D) { s with heap := h' })
    (hs : subscripted slice false (.ref l) (.ref s.heap.objs.size) = operate [.ref s.heap.objs.size, .ref l] (getItem (.ref l) (.ref s.heap.objs.size))) (ht : ∀ r, letTemporaryGo value (.ref l) r = pure ()) :
    wpAny (model prog w) A (subscriptTail value slice (.ref l) (.ref s.heap.objs.size)) Q E { s with heap := s.heap.push { cls := .type "slice", data := .fields #[.int x u, .int y v, .none] } } :=
  kmk_slice_ints F N (News.isList N hm) (IsPart.int _ _) (IsPart.int _ _) hi (hms ▸ kmk_run hi hx hy) rfl (fun D ws h' F' N' l1 hi' _ _ => h D ws h' F' N' l1 hi') hs ht (by rw [List.size_toArray, hi.length, sizeLine_eq]; (first | omega -splitDisjunctions | omega))
theorem sl_upto (F : Fr h₀ L s.heap m) (N : News h₀ L s.heap news) (hm : (l, listOf vs.toArray k) ∈ news) (hi : IntsAre vs ns) (hy : 0 ≤ y) (hz : ns.length ≤ 1000000) (hms : ns.take y.toNat = ms)
    (h : ∀ D ws h', Fr h₀ L h' m → News h₀ L h' ((D, listOf (List.toArray ws) 0) :: news) → (∀ p ∈ news, p.1 < D) → IntsAre ws ms → Q (.ref D) { s with heap := h' })
    (hs : subscripted slice false (.ref l) (.ref s.heap.objs.size) = operate [.ref s.heap.objs.size, .ref l] (getItem (.ref l) (.ref s.heap.objs.size))) (ht : ∀ r, letTemporaryGo value (.ref l) r = pure ()) :
    wpAny (model prog w) A (subscriptTail value slice (.ref l) (.ref s.heap.objs.size)) Q E { s with heap := s.heap.push { cls := .type "slice", data := .fields #[.none, .int y v, .none] } } :=
  kmk_slice_ints F N (News.isList N hm) IsPart.none (IsPart.int _ _) hi (hms ▸ kmk_upto hi hy) rfl (fun D ws h' F' N' l1 hi' _ _ => h D ws h' F' N' l1 hi') hs ht (by rw [List.size_toArray, hi.length, sizeLine_eq]; (first | omega -splitDisjunctions | omega))
theorem my_add (F : Fr h₀ L s.heap m) (N : News h₀ L s.heap news) (ha : (a, listOf vs.toArray k) ∈ news) (hb : (b, listOf ws.toArray k2) ∈ news) (hi : IntsAre vs ns) (hj : IntsAre ws ms) (hz : ns.length + ms.length ≤ 1000000)
    (h : ∀ D us h', Fr h₀ L h' m → News h₀ L h' ((D, listOf (List.toArray us) 0) :: news) → (∀ p ∈ news, p.1 < D) → IntsAre us (ns ++ ms) → Q (.ref D) { s with heap := h' }) : wpAny (model prog w) A (binaryOp .Add (.ref a) (.ref b)) Q E s :=
  kmk_add_ints F N (News.isList N ha) (News.isList N hb) hi hj h (by rw [sizeLine_eq]; (first | omega -splitDisjunctions | omega))
end
theorem four {α : Type} {n st : Nat} (f : Nat → α) (h : st + 4 ≤ n) : (((List.range n).map f).drop ((st : Int)).toNat).take (min ((st : Int) + 4).toNat ((List.range n).map f).length - ((st : Int)).toNat) = [f st, f (st + 1), f (st + 2), f (st + 3)] := by
  rw [List.length_map, List.length_range, show ((st : Int)).toNat = st by (first | omega -splitDisjunctions | omega), show min ((st : Int) + 4).toNat n - st = 4 by (first | omega -splitDisjunctions | omega)]
  apply List.ext_getElem
  · simp; (first | omega -splitDisjunctions | omega)
  · intro i h1 h2
    simp at h2
    rw [List.getElem_take, List.getElem_drop, List.getElem_map, List.getElem_range]
    match i, h2 with
    | 0, _ => rfl
    | 1, _ => rfl
    | 2, _ => rfl
    | 3, _ => rfl
theorem upto_n {α : Type} (n : Nat) (f : Nat → α) (r : List α) : ((List.range n).map f ++ r).take ((n : Int)).toNat = (List.range n).map f := by
  rw [show ((n : Int)).toNat = ((List.range n).map f).length by simp, List.take_left]
end Mine
end -- LawS

section -- MathL
theorem Mine.plain_MathL : True := by w_top off; trivial
open PySem
set_option linter.unusedVariables false
namespace Mine
def octv (fi gr : Int) : Nat → Int
  | 0 => fi
  | i + 1 => (octv fi gr i + gr * (1 + (i : Int))) % 256
theorem octv_range {fi gr : Int} (h0 : 0 ≤ fi) (h1 : fi < 256) : ∀ i, 0 ≤ octv fi gr i ∧ octv fi gr i < 256
  | 0 => ⟨h0, h1⟩
  | i + 1 => ⟨Int.emod_nonneg _ (by decide), Int.emod_lt_of_pos _ (by decide)⟩
def tri : Nat → Nat
  | 0 => 0
  | i + 1 => tri i + (i + 1)
theorem tri_two : ∀ i, 2 * tri i = i * (i + 1)
  | 0 => rfl
  | i + 1 => by
    have := tri_two i
    show 2 * (tri i + (i + 1)) = (i + 1) * (i + 1 + 1)
    rw [Nat.mul_add, this, ← Nat.add_mul, Nat.mul_comm]
theorem octv_tri {fi gr : Int} (h0 : 0 ≤ fi) (h1 : fi < 256) : ∀ i, octv fi gr i = (fi + gr * (tri i : Int)) % 256
  | 0 => by show fi = (fi + gr * ((0 : Nat) : Int)) % 256; simp; (first | omega -splitDisjunctions | omega)
  | i + 1 => by
    show (octv fi gr i + gr * (1 + (i : Int))) % 256 = (fi + gr * ((tri i + (i + 1) : Nat) : Int)) % 256
    rw [octv_tri h0 h1 i, Int.emod_add_emod]
    congr 1
    push_cast
    rw [Int.add_comm (i : Int) 1, Int.mul_add gr (tri i : Int), Int.add_assoc]
/-- an odd growth: equal octets stand at places that add up to 511 -/
theorem octv_eq {fi gr : Int} (h0 : 0 ≤ fi) (h1 : fi < 256) (hg : gr % 2 = 1) {i j : Nat} (hij : i < j) (hj : j ≤ 300) (he : octv fi gr i = octv fi gr j) : i + j = 511 := by
  rw [octv_tri h0 h1, octv_tri h0 h1] at he
  -- 256 divides gr * (tri j - tri i)
  have hd : (256 : Int) ∣ gr * ((tri j : Int) - (tri i : Int)) := by
    have e : gr * ((tri j : Int) - (tri i : Int)) = (fi + gr * (tri j : Int)) - (fi + gr * (tri i : Int)) := by rw [Int.mul_sub]; (first | omega -splitDisjunctions | omega)
    rw [e]
    exact Int.dvd_of_emod_eq_zero (by rw [Int.sub_emod, he, Int.sub_self]; rfl)
  have hc : Nat.Coprime 256 gr.natAbs := by
    have h2 : (gr.natAbs) % 2 = 1 := by (first | omega -splitDisjunctions | omega)
    have : Nat.Coprime (2 ^ 8) gr.natAbs := Nat.Coprime.pow_left 8 (by
      have := Nat.gcd_rec 2 gr.natAbs
      rw [h2] at this
      exact this)
    exact this
  have hd2 : (256 : Int) ∣ (tri j : Int) - (tri i : Int) := by
    have h3 := Int.natAbs_dvd_natAbs.mpr hd
    rw [Int.natAbs_mul] at h3
    exact Int.natAbs_dvd_natAbs.mp (Nat.Coprime.dvd_of_dvd_mul_left hc h3)
  have e2 : 2 * ((tri j : Int) - (tri i : Int)) = ((j : Int) - i) * (i + j + 1) := by
    have hi := tri_two i
    have hj' := tri_two j
    have hi' : 2 * (tri i : Int) = (i : Int) * (i + 1) := by exact_mod_cast hi
    have hj'' : 2 * (tri j : Int) = (j : Int) * (j + 1) := by exact_mod_cast hj'
    rw [Int.mul_sub, hi', hj'']
    simp only [Int.sub_mul, Int.mul_add, Int.mul_one, Int.mul_comm (i : Int) (j : Int)]
    (first | omega -splitDisjunctions | omega)
  obtain ⟨k, hk⟩ := hd2
  rw [hk] at e2
  have e3 : (512 : Int) * k = ((j : Int) - i) * (i + j + 1) := by rw [← e2]; (first | omega -splitDisjunctions | omega)
  have hjn : ((j : Int) - i) * (i + j + 1) = (((j - i) * (i + j + 1) : Nat) : Int) := by
    rw [Int.natCast_mul, Int.natCast_sub (Nat.le_of_lt hij)]; push_cast; rfl
  have hdn : 512 ∣ (j - i) * (i + j + 1) := by
    have : (512 : Int) ∣ (((j - i) * (i + j + 1) : Nat) : Int) := ⟨k, by rw [← hjn, e3]⟩
    exact Int.natCast_dvd_natCast.mp this
  rcases Nat.mod_two_eq_zero_or_one (j - i) with hp | hp
  · -- j - i even, the sum odd
    have hco : Nat.Coprime (2 ^ 9) (i + j + 1) := Nat.Coprime.pow_left 9 (by
      have h2 : (i + j + 1) % 2 = 1 := by (first | omega -splitDisjunctions | omega)
      have := Nat.gcd_rec 2 (i + j + 1)
      rw [h2] at this
      exact this)
    have := Nat.Coprime.dvd_of_dvd_mul_right hco hdn
    have := Nat.le_of_dvd (by (first | omega -splitDisjunctions | omega)) this
    (first | omega -splitDisjunctions | omega)
  · have hco : Nat.Coprime (2 ^ 9) (j - i) := Nat.Coprime.pow_left 9 (by
      have := Nat.gcd_rec 2 (j - i)
      rw [hp] at this
      exact this)
    have hd3 : 2 ^ 9 ∣ (i + j + 1) := Nat.Coprime.dvd_of_dvd_mul_left hco hdn
    obtain ⟨q, hq⟩ := hd3
    have : (2:Nat)^9 = 512 := by decide
    rw [this] at hq
    have : q = 1 := by (first | omega -splitDisjunctions | omega)
    subst this
    (first | omega -splitDisjunctions | omega)
end Mine
namespace Mine
theorem no_pair {fi gr : Int} (h0 : 0 ≤ fi) (h1 : fi < 256) (hg : gr % 2 = 1) {n st j : Nat} (hn0 : 252 ≤ n) (hn1 : n ≤ 260) (hst : st ≤ 199) (hj : j < n - 1) :
    octv fi gr (n - 1) * 256 + octv fi gr st ≠ octv fi gr j * 256 + octv fi gr (j + 1) := by
  intro h
  have r1 := octv_range (gr := gr) h0 h1 (n - 1)
  have r2 := octv_range (gr := gr) h0 h1 st
  have r3 := octv_range (gr := gr) h0 h1 j
  have r4 := octv_range (gr := gr) h0 h1 (j + 1)
  have e1 : octv fi gr j = octv fi gr (n - 1) := by (first | omega -splitDisjunctions | omega)
  have e2 : octv fi gr st = octv fi gr (j + 1) := by (first | omega -splitDisjunctions | omega)
  have s1 := octv_eq h0 h1 hg hj (by (first | omega -splitDisjunctions | omega)) e1
  have s2 := octv_eq h0 h1 hg (show st < j + 1 by (first | omega -splitDisjunctions | omega)) (by (first | omega -splitDisjunctions | omega)) e2
  (first | omega -splitDisjunctions | omega)
end Mine
namespace Mine
abbrev CSv (fi gr : Int) (n st : Nat) : List Int := [256] ++ (List.range n).map (octv fi gr) ++ [258 + (st : Int), 260 + (st : Int), 257]
theorem CSv_len (fi gr : Int) (n st : Nat) : (CSv fi gr n st).length = n + 4 := by simp
theorem CSv_get {fi gr : Int} {n st i : Nat} {k : Int} (h : (CSv fi gr n st)[i]? = some k) :
    (i = 0 ∧ k = 256) ∨ (1 ≤ i ∧ i ≤ n ∧ k = octv fi gr (i - 1)) ∨ (i = n + 1 ∧ k = 258 + (st : Int)) ∨ (i = n + 2 ∧ k = 260 + (st : Int)) ∨ (i = n + 3 ∧ k = 257) := by
  have hl : i < n + 4 := by have := (List.getElem?_eq_some_iff.mp h).1; rw [CSv_len] at this; exact this
  unfold CSv at h
  by_cases h1 : i < n + 1
  · rw [List.getElem?_append_left (by simp; (first | omega -splitDisjunctions | omega))] at h
    cases i with
    | zero => left; exact ⟨rfl, by simpa using h.symm⟩
    | succ j =>
      right; left
      rw [List.getElem?_append_right (by simp)] at h
      simp only [List.length_singleton, Nat.add_sub_cancel] at h
      rw [List.getElem?_map, List.getElem?_range (by (first | omega -splitDisjunctions | omega))] at h
      exact ⟨by (first | omega -splitDisjunctions | omega), by (first | omega -splitDisjunctions | omega), by simpa using h.symm⟩
  · rw [List.getElem?_append_right (by simp; (first | omega -splitDisjunctions | omega))] at h
    have e : i - ([256] ++ (List.range n).map (octv fi gr)).length = i - (n + 1) := by simp
    rw [e] at h
    right; right
    obtain ⟨d, hd⟩ : ∃ d, i - (n + 1) = d := ⟨_, rfl⟩
    rw [hd] at h
    match d, h with
    | 0, h => left; exact ⟨by (first | omega -splitDisjunctions | omega), by simpa using h.symm⟩
    | 1, h => right; left; exact ⟨by (first | omega -splitDisjunctions | omega), by simpa using h.symm⟩
    | 2, h => right; right; exact ⟨by (first | omega -splitDisjunctions | omega), by simpa using h.symm⟩
    | d + 3, h => simp at h
theorem CSv_range {fi gr : Int} (h0 : 0 ≤ fi) (h1 : fi < 256) {n st : Nat} (hst : st ≤ 199) : ∀ (i : Nat) (k : Int), (CSv fi gr n st)[i]? = some k → 0 ≤ k ∧ k < 512 := fun i k h => by
  have := octv_range (gr := gr) h0 h1 (i - 1)
  rcases CSv_get h with ⟨_, rfl⟩ | ⟨_, _, rfl⟩ | ⟨_, rfl⟩ | ⟨_, rfl⟩ | ⟨_, rfl⟩ <;> (first | omega -splitDisjunctions | omega)
theorem CSv_256 {fi gr : Int} (h0 : 0 ≤ fi) (h1 : fi < 256) {n st : Nat} : ∀ (i : Nat) (k : Int), (CSv fi gr n st)[i]? = some k → (k = 256 ↔ i = 0) := fun i k h => by
  have := octv_range (gr := gr) h0 h1 (i - 1)
  rcases CSv_get h with ⟨_, rfl⟩ | ⟨_, _, rfl⟩ | ⟨_, rfl⟩ | ⟨_, rfl⟩ | ⟨_, rfl⟩ <;> (first | omega -splitDisjunctions | omega)
theorem CSv_257 {fi gr : Int} (h0 : 0 ≤ fi) (h1 : fi < 256) {n st : Nat} : ∀ (i : Nat) (k : Int), (CSv fi gr n st)[i]? = some k → (k = 257 ↔ i + 1 = (CSv fi gr n st).length) := fun i k h => by
  have := octv_range (gr := gr) h0 h1 (i - 1)
  rw [CSv_len]
  rcases CSv_get h with ⟨_, rfl⟩ | ⟨_, _, rfl⟩ | ⟨_, rfl⟩ | ⟨_, rfl⟩ | ⟨_, rfl⟩ <;> (first | omega -splitDisjunctions | omega)
end Mine
end -- MathL

section -- MathP
theorem Mine.plain_MathP : True := by w_top off; trivial
open PySem PySem.W PyProof.Rows PySem.Calls PySem.Spec
set_option linter.unusedVariables false
namespace Mine
theorem uniq {fi gr : Int} (h0 : 0 ≤ fi) (h1 : fi < 256) (hg : gr % 2 = 1) {j k : Nat} (hjk : j < k) (hk : k ≤ 299) : ¬ (octv fi gr j = octv fi gr k ∧ octv fi gr (j + 1) = octv fi gr (k + 1)) := fun h => by
  have a := octv_eq h0 h1 hg hjk (by (first | omega -splitDisjunctions | omega)) h.1
  have b := octv_eq h0 h1 hg (show j + 1 < k + 1 by (first | omega -splitDisjunctions | omega)) (by (first | omega -splitDisjunctions | omega)) h.2
  (first | omega -splitDisjunctions | omega)
structure PInv (o : Nat → Int) (i : Nat) (c : PkP) : Prop where
  code : c.code = o i
  cnt : c.cnt = 258 + (i : Int)
  out : c.out = [256] ++ (List.range i).map o
  tabS : ∀ j, j < i → c.f (o j) (o (j + 1)) = some (258 + (j : Int))
  tabN : ∀ a b z, c.f a b = some z → ∃ j, j < i ∧ a = o j ∧ b = o (j + 1)
theorem step_new {c : PkP} {x : Int} (h0 : 0 ≤ c.code) (hf : c.f c.code x = none) : pkStep c x = ⟨x, updF c.f c.code x c.cnt, c.cnt + 1, c.out ++ [c.code]⟩ := by
  unfold pkStep; rw [if_neg (by (first | omega -splitDisjunctions | omega)), hf]
theorem step_old {c : PkP} {x z : Int} (h0 : 0 ≤ c.code) (hf : c.f c.code x = some z) : pkStep c x = { c with code := z } := by
  unfold pkStep; rw [if_neg (by (first | omega -splitDisjunctions | omega)), hf]
theorem pinv {fi gr : Int} (h0 : 0 ≤ fi) (h1 : fi < 256) (hg : gr % 2 = 1) : ∀ i, i ≤ 299 → PInv (octv fi gr) i (pkRun ((List.range (i + 1)).map (octv fi gr)))
  | 0, _ => ⟨rfl, rfl, rfl, fun j hj => absurd hj (Nat.not_lt_zero j), fun a b z h => by cases h⟩
  | i + 1, hi => by
    have ih := pinv h0 h1 hg i (by (first | omega -splitDisjunctions | omega))
    have e : pkRun ((List.range (i + 1 + 1)).map (octv fi gr)) = pkStep (pkRun ((List.range (i + 1)).map (octv fi gr))) (octv fi gr (i + 1)) := by
      rw [List.range_succ, List.map_append]; simp [pkRun]
    rw [e]
    generalize pkRun ((List.range (i + 1)).map (octv fi gr)) = c at ih
    obtain ⟨code, cnt, out, tabS, tabN⟩ := ih
    have hc0 : 0 ≤ c.code := by rw [code]; exact (octv_range h0 h1 i).1
    have hf : c.f c.code (octv fi gr (i + 1)) = none := by
      cases hq : c.f c.code (octv fi gr (i + 1)) with
      | none => rfl
      | some z =>
        obtain ⟨j, hj, ha, hb⟩ := tabN _ _ _ hq
        rw [code] at ha
        exact absurd ⟨ha.symm, hb.symm⟩ (uniq h0 h1 hg hj (by (first | omega -splitDisjunctions | omega)))
    rw [step_new hc0 hf]
    refine ⟨rfl, ?_, ?_, ?_, ?_⟩
    · dsimp only; rw [cnt]; push_cast; (first | omega -splitDisjunctions | omega)
    · dsimp only; rw [out, code, List.range_succ, List.map_append, ← List.append_assoc]; rfl
    · intro j hj
      show (if octv fi gr j = c.code ∧ octv fi gr (j + 1) = octv fi gr (i + 1) then some c.cnt else c.f _ _) = _
      by_cases hji : j = i
      · subst hji; rw [if_pos ⟨code.symm, rfl⟩, cnt]
      · rw [if_neg (by rw [code]; exact uniq h0 h1 hg (show j < i by (first | omega -splitDisjunctions | omega)) (by (first | omega -splitDisjunctions | omega)))]
        exact tabS j (by (first | omega -splitDisjunctions | omega))
    · intro a b z h
      have h' : (if a = c.code ∧ b = octv fi gr (i + 1) then some c.cnt else c.f a b) = some z := h
      by_cases hab : a = c.code ∧ b = octv fi gr (i + 1)
      · exact ⟨i, by (first | omega -splitDisjunctions | omega), by rw [hab.1, code], hab.2⟩
      · rw [if_neg hab] at h'
        obtain ⟨j, hj, r⟩ := tabN a b z h'
        exact ⟨j, by (first | omega -splitDisjunctions | omega), r⟩
theorem pk_law {fi gr : Int} (h0 : 0 ≤ fi) (h1 : fi < 256) (hg : gr % 2 = 1) {n st : Nat} (hn0 : 252 ≤ n) (hn1 : n ≤ 260) (hst : st ≤ 199) :
    pkAll ((List.range n).map (octv fi gr) ++ [octv fi gr st, octv fi gr (st + 1), octv fi gr (st + 2), octv fi gr (st + 3)]) = CSv fi gr n st := by
  have iv := pinv h0 h1 hg (n - 1) (by (first | omega -splitDisjunctions | omega))
  rw [show n - 1 + 1 = n by (first | omega -splitDisjunctions | omega)] at iv
  have R := octv_range (gr := gr) h0 h1
  have e : pkRun ((List.range n).map (octv fi gr) ++ [octv fi gr st, octv fi gr (st + 1), octv fi gr (st + 2), octv fi gr (st + 3)]) =
      pkStep (pkStep (pkStep (pkStep (pkRun ((List.range n).map (octv fi gr))) (octv fi gr st)) (octv fi gr (st + 1))) (octv fi gr (st + 2))) (octv fi gr (st + 3)) := by simp [pkRun]
  unfold pkAll
  rw [e]
  generalize pkRun ((List.range n).map (octv fi gr)) = c at iv
  obtain ⟨code, cnt, out, tabS, tabN⟩ := iv
  have hc0 : 0 ≤ c.code := by rw [code]; exact (R _).1
  have f1 : c.f c.code (octv fi gr st) = none := by
    cases hq : c.f c.code (octv fi gr st) with
    | none => rfl
    | some z =>
      obtain ⟨j, hj, ha, hb⟩ := tabN _ _ _ hq
      rw [code] at ha
      exact absurd (by rw [ha, hb]) (no_pair h0 h1 hg hn0 hn1 hst hj)
  rw [step_new hc0 f1]
  have f2 : updF c.f c.code (octv fi gr st) c.cnt (octv fi gr st) (octv fi gr (st + 1)) = some (258 + (st : Int)) := by
    unfold updF
    rw [if_neg, tabS st (by (first | omega -splitDisjunctions | omega))]
    rintro ⟨_, h⟩
    have := octv_eq h0 h1 hg (show st < st + 1 by (first | omega -splitDisjunctions | omega)) (by (first | omega -splitDisjunctions | omega)) h.symm
    (first | omega -splitDisjunctions | omega)
  rw [step_old (c := ⟨octv fi gr st, _, _, _⟩) (R _).1 f2]
  dsimp only
  have f3 : updF c.f c.code (octv fi gr st) c.cnt (258 + (st : Int)) (octv fi gr (st + 2)) = none := by
    unfold updF
    have r1 := R (n - 1)
    rw [if_neg (by rw [code]; (first | omega -splitDisjunctions | omega))]
    cases hq : c.f (258 + (st : Int)) (octv fi gr (st + 2)) with
    | none => rfl
    | some z =>
      obtain ⟨j, hj, ha, _⟩ := tabN _ _ _ hq
      have := R j
      (first | omega -splitDisjunctions | omega)
  rw [step_new (c := ⟨258 + (st : Int), _, _, _⟩) (show (0 : Int) ≤ 258 + (st : Int) by (first | omega -splitDisjunctions | omega)) f3]
  dsimp only
  have f4 : updF (updF c.f c.code (octv fi gr st) c.cnt) (258 + (st : Int)) (octv fi gr (st + 2)) (c.cnt + 1) (octv fi gr (st + 2)) (octv fi gr (st + 3)) = some (258 + ((st + 2 : Nat) : Int)) := by
    unfold updF
    have r1 := R (st + 2)
    rw [if_neg (by (first | omega -splitDisjunctions | omega)), if_neg, tabS (st + 2) (by (first | omega -splitDisjunctions | omega))]
    rintro ⟨_, h⟩
    have := octv_eq h0 h1 hg (show st < st + 3 by (first | omega -splitDisjunctions | omega)) (by (first | omega -splitDisjunctions | omega)) h.symm
    (first | omega -splitDisjunctions | omega)
  rw [step_old (c := ⟨octv fi gr (st + 2), _, _, _⟩) (R _).1 f4]
  dsimp only
  rw [if_pos (by (first | omega -splitDisjunctions | omega)), out, code]
  have e2 : (List.range n).map (octv fi gr) = (List.range (n - 1)).map (octv fi gr) ++ [octv fi gr (n - 1)] := by
    rw [show n = n - 1 + 1 by (first | omega -splitDisjunctions | omega), List.range_succ, List.map_append]; simp
  unfold CSv
  rw [e2]
  simp only [List.append_assoc, List.cons_append, List.nil_append, List.singleton_append]
  rw [show (258 : Int) + ((st + 2 : Nat) : Int) = 260 + (st : Int) by push_cast; (first | omega -splitDisjunctions | omega)]
theorem back_bytes : ∀ (l : List Int), (∀ k ∈ l, 0 ≤ k ∧ k < 256) → ((l.map fun n => n.toNat.toUInt8).toArray.toList.map fun u => ((u.toNat : Nat) : Int)) = l
  | [], _ => rfl
  | a :: r, h => by
    have ih := back_bytes r fun k hk => h k (.tail _ hk)
    have ha := h a (.head _)
    simp only [List.map_cons] at ih ⊢
    rw [ih]
    congr 1
    have hl : a.toNat < 256 := by (first | omega -splitDisjunctions | omega)
    rw [show a.toNat.toUInt8.toNat = a.toNat by simp [Nat.toUInt8, UInt8.toNat_ofNat', Nat.mod_eq_of_lt hl]]
    (first | omega -splitDisjunctions | omega)
end Mine
end -- MathP

section -- MathU
theorem Mine.plain_MathU : True := by w_top off; trivial
open PySem PySem.W PyProof.Rows PySem.Calls PySem.Spec
set_option linter.unusedVariables false
namespace Mine
theorem CSv_at {fi gr : Int} {n st i : Nat} (hi : i < n) : (CSv fi gr n st).getD (i + 1) 0 = octv fi gr i := by
  have : (CSv fi gr n st)[i + 1]? = some (octv fi gr i) := by
    unfold CSv
    rw [List.getElem?_append_left (by simp; (first | omega -splitDisjunctions | omega)), List.getElem?_append_right (by simp)]
    simp only [List.length_singleton, Nat.add_sub_cancel]
    rw [List.getElem?_map, List.getElem?_range hi]; rfl
  rw [List.getD_eq_getElem?_getD, this]; rfl
theorem CSv_tail {fi gr : Int} {n st : Nat} : (CSv fi gr n st).getD (n + 1) 0 = 258 + (st : Int) ∧ (CSv fi gr n st).getD (n + 2) 0 = 260 + (st : Int) := by
  have e : ([256] ++ (List.range n).map (octv fi gr)).length = n + 1 := by simp
  constructor
  · have : (CSv fi gr n st)[n + 1]? = some (258 + (st : Int)) := by
      unfold CSv
      rw [List.getElem?_append_right (by rw [e]; (first | omega -splitDisjunctions | omega)), e]
      simp
    simp [List.getD, this]
  · have : (CSv fi gr n st)[n + 2]? = some (260 + (st : Int)) := by
      unfold CSv
      rw [List.getElem?_append_right (by rw [e]; (first | omega -splitDisjunctions | omega)), e, show n + 2 - (n + 1) = 1 by (first | omega -splitDisjunctions | omega)]
      rfl
    simp [List.getD, this]
abbrev prs (fi gr : Int) (k : Nat) : List (List Int) := (List.range k).map fun j => [octv fi gr j, octv fi gr (j + 1)]
theorem udA {fi gr : Int} (h0 : 0 ≤ fi) (h1 : fi < 256) {n st : Nat} : ∀ i, i < n → ud (CSv fi gr n st) (i + 2) = some ⟨[octv fi gr i], prs fi gr i, (List.range (i + 1)).map (octv fi gr)⟩
  | 0, hn => by
    have r := octv_range (gr := gr) h0 h1 0
    have a : (CSv fi gr n st).getD 1 0 = octv fi gr 0 := CSv_at hn
    have b : (CSv fi gr n st).getD 0 0 = 256 := rfl
    simp only [ud, Option.bind, b, a]
    rw [show udStep ⟨[], [], []⟩ 256 = some ⟨[], [], []⟩ from rfl]
    dsimp only
    unfold udStep
    rw [if_neg (by (first | omega -splitDisjunctions | omega)), if_pos r.2, if_pos r.1]
    simp
  | i + 1, hn => by
    have ih := udA (gr := gr) (n := n) h0 h1 (st := st) i (show i < n by (first | omega -splitDisjunctions | omega))
    have r := octv_range (gr := gr) h0 h1 (i + 1)
    have a : (CSv fi gr n st).getD (i + 1 + 1) 0 = octv fi gr (i + 1) := CSv_at hn
    show (ud (CSv fi gr n st) (i + 2)).bind (fun c => udStep c ((CSv fi gr n st).getD (i + 2) 0)) = _
    rw [ih, a]
    show udStep _ _ = _
    unfold udStep
    rw [if_neg (by (first | omega -splitDisjunctions | omega)), if_pos r.2, if_pos r.1]
    dsimp only
    rw [if_neg (List.cons_ne_nil _ _)]
    have p1 : prs fi gr (i + 1) = prs fi gr i ++ [[octv fi gr i, octv fi gr (i + 1)]] := by
      show (List.range (i + 1)).map _ = _
      rw [List.range_succ, List.map_append]; rfl
    have p2 : (List.range (i + 1 + 1)).map (octv fi gr) = (List.range (i + 1)).map (octv fi gr) ++ [octv fi gr (i + 1)] := by
      rw [List.range_succ (n := i + 1), List.map_append]; rfl
    rw [p1, p2]
    rfl
theorem prs_at {fi gr : Int} {k j : Nat} (h : j < k) : (prs fi gr k)[j]? = some [octv fi gr j, octv fi gr (j + 1)] := by
  rw [List.getElem?_map, List.getElem?_range h]; rfl
theorem ud_law {fi gr : Int} (h0 : 0 ≤ fi) (h1 : fi < 256) {n st : Nat} (hn0 : 252 ≤ n) (hst : st ≤ 199) :
    ∃ bf ws', ud (CSv fi gr n st) ((CSv fi gr n st).length - 1) = some ⟨bf, ws', (List.range n).map (octv fi gr) ++ [octv fi gr st, octv fi gr (st + 1), octv fi gr (st + 2), octv fi gr (st + 3)]⟩ := by
  have a := udA h0 h1 (gr := gr) (n := n) (st := st) (n - 1) (by (first | omega -splitDisjunctions | omega))
  rw [show n - 1 + 2 = n + 1 by (first | omega -splitDisjunctions | omega), show n - 1 + 1 = n by (first | omega -splitDisjunctions | omega)] at a
  obtain ⟨t1, t2⟩ := CSv_tail (fi := fi) (gr := gr) (n := n) (st := st)
  rw [CSv_len, show n + 4 - 1 = n + 1 + 1 + 1 by (first | omega -splitDisjunctions | omega)]
  show ∃ bf ws', ((ud (CSv fi gr n st) (n + 1)).bind (fun c => udStep c ((CSv fi gr n st).getD (n + 1) 0))).bind (fun c => udStep c ((CSv fi gr n st).getD (n + 2) 0)) = _
  rw [a, t1, t2]
  have s1 : udStep ⟨[octv fi gr (n - 1)], prs fi gr (n - 1), (List.range n).map (octv fi gr)⟩ (258 + (st : Int)) =
      some ⟨[octv fi gr st, octv fi gr (st + 1)], prs fi gr (n - 1) ++ [[octv fi gr (n - 1)] ++ [octv fi gr st]], (List.range n).map (octv fi gr) ++ [octv fi gr st, octv fi gr (st + 1)]⟩ := by
    unfold udStep
    rw [if_neg (by (first | omega -splitDisjunctions | omega)), if_neg (by (first | omega -splitDisjunctions | omega))]
    dsimp only
    rw [show (258 + (st : Int) - 258).toNat = st by (first | omega -splitDisjunctions | omega), prs_at (show st < n - 1 by (first | omega -splitDisjunctions | omega))]
    dsimp only
    rw [if_neg (by rintro (h | h); (first | omega -splitDisjunctions | omega); cases h)]
  show ∃ bf ws', (udStep ⟨[octv fi gr (n - 1)], prs fi gr (n - 1), (List.range n).map (octv fi gr)⟩ (258 + (st : Int))).bind (fun c => udStep c (260 + (st : Int))) = _
  rw [s1]
  show ∃ bf ws', udStep _ _ = _
  unfold udStep
  rw [if_neg (by (first | omega -splitDisjunctions | omega)), if_neg (by (first | omega -splitDisjunctions | omega))]
  dsimp only
  rw [show (260 + (st : Int) - 258).toNat = st + 2 by (first | omega -splitDisjunctions | omega), List.getElem?_append_left (by simp [prs]; (first | omega -splitDisjunctions | omega)), prs_at (show st + 2 < n - 1 by (first | omega -splitDisjunctions | omega))]
  dsimp only
  rw [if_neg (by rintro (h | h); (first | omega -splitDisjunctions | omega); cases h)]
  exact ⟨_, _, congrArg some (congrArg (UdP.mk _ _) (List.append_assoc _ _ _))⟩
end Mine
end -- MathU

section -- R3
theorem Mine.plain_R3 : True := by w_top off; trivial
open PySem PySem.W PyProof.Rows PySem.Calls PySem.Spec
set_option maxRecDepth 100000
set_option linter.unusedVariables false
namespace Mine
theorem wid_low {e i : Nat} (he : e = 0 ∨ e = 1) (hi : i < 250) : wid e i = 9 := by unfold wid; rw [if_pos (by (first | omega -splitDisjunctions | omega))]
theorem Zf_low {e : Nat} (he : e = 0 ∨ e = 1) : ∀ i, i ≤ 250 → Zf e i = 9 * i
  | 0, _ => rfl
  | i + 1, h => by
    show Zf e i + wid e i = _
    rw [Zf_low he i (by (first | omega -splitDisjunctions | omega)), wid_low he (by (first | omega -splitDisjunctions | omega))]; (first | omega -splitDisjunctions | omega)
theorem Lf_low {e f : Nat} (he : e = 0 ∨ e = 1) (hf : f = 0 ∨ f = 1) (cs : List Int) : ∀ i, i ≤ 250 → Lf e cs i = Lf f cs i
  | 0, _ => rfl
  | i + 1, h => by
    show Lf e cs i * 2 ^ wid e i + _ = Lf f cs i * 2 ^ wid f i + _
    rw [Lf_low he hf cs i (by (first | omega -splitDisjunctions | omega)), wid_low he (by (first | omega -splitDisjunctions | omega)), wid_low hf (by (first | omega -splitDisjunctions | omega))]
theorem first250 {b : Array UInt8} {e p : Nat} {cs : List Int} (he : e = 0 ∨ e = 1) (hcs : ∀ (i : Nat) (n : Int), cs[i]? = some n → 0 ≤ n ∧ n < 512) (hm : 230 ≤ cs.length) (hs : 8 * b.size = Zf e cs.length + p) (hv : baVal b = Lf e cs cs.length * 2 ^ p) :
    pv b 250 = Lf e cs 223 / 2 ^ 7 ∧ 250 < b.size := by
  have hz := Zf_mono e (show 230 ≤ cs.length from hm)
  rw [Zf_low he 230 (by (first | omega -splitDisjunctions | omega))] at hz
  have hz2 := Zf_low he 223 (by (first | omega -splitDisjunctions | omega))
  have hsz : 250 < b.size := by (first | omega -splitDisjunctions | omega)
  refine ⟨?_, hsz⟩
  rw [← pv_div b 250 b.size (by (first | omega -splitDisjunctions | omega)), pv_all, hv]
  have e1 : 8 * (b.size - 250) = p + ((Zf e cs.length - Zf e 223) + 7) := by (first | omega -splitDisjunctions | omega)
  rw [e1, Nat.pow_add, ← Nat.div_div_eq_div_mul, Nat.mul_div_cancel _ (Nat.pow_pos (by decide)), Nat.pow_add, ← Nat.div_div_eq_div_mul, Lf_div e cs hcs 223 cs.length (by (first | omega -splitDisjunctions | omega))]
theorem list_val_inj' : ∀ (l l' : List UInt8), l.length = l'.length → l.foldl (fun a x => a * 256 + x.toNat) 0 = l'.foldl (fun a x => a * 256 + x.toNat) 0 → l = l' := list_val_inj
theorem take250 {b c : Array UInt8} (hb : 250 < b.size) (hc : 250 < c.size) (h : pv b 250 = pv c 250) : ∀ i, i < 250 → b[i]? = c[i]? := by
  rw [pv_take b 250 (by (first | omega -splitDisjunctions | omega)), pv_take c 250 (by (first | omega -splitDisjunctions | omega))] at h
  have e := list_val_inj' _ _ (by simp; (first | omega -splitDisjunctions | omega)) h
  intro i hi
  have e2 := congrArg (fun l : List UInt8 => l[i]?) e
  simp only [List.getElem?_take, if_pos hi, Array.getElem?_toList] at e2
  exact e2
theorem bounds250 {k : Nat} (h : 250 < k) : sliceBounds none (some 250) none k = (0, 250, 1) := by
  simp only [sliceBounds, Option.getD_none, show (1 : Int) > 0 by decide, if_true, if_neg (show ¬ ((250 : Int) < 0) by (first | omega -splitDisjunctions | omega))]
  congr 1
  congr 1
  (first | omega -splitDisjunctions | omega)
theorem whole250 {b : Array UInt8} (h : 250 < b.size) : KBy.whole b none (some 250) = false := by
  unfold KBy.whole
  rw [bounds250 h]
  have : ((250 : Int) == (b.size : Int)) = false := by simp; (first | omega -splitDisjunctions | omega)
  simp [this]
theorem fm_congr {α β : Type} {f g : α → Option β} : ∀ {l : List α}, (∀ x ∈ l, f x = g x) → l.filterMap f = l.filterMap g
  | [], _ => rfl
  | a :: r, h => by
    rw [List.filterMap_cons, List.filterMap_cons, h a (.head _), fm_congr fun x hx => h x (.tail _ hx)]
theorem picked250 {b c : Array UInt8} (hb : 250 < b.size) (hc : 250 < c.size) (h : ∀ i, i < 250 → b[i]? = c[i]?) : KBy.picked b none (some 250) = KBy.picked c none (some 250) := by
  unfold KBy.picked
  rw [bounds250 hb, bounds250 hc]
  unfold Builtin.Bytes.sliced
  congr 1
  have hlt : ∀ x ∈ sliceRange 0 250 1, x < 250 := by decide +kernel
  exact fm_congr fun x hx => h x (hlt x hx)
theorem picked_size {b : Array UInt8} (hb : 250 < b.size) : (KBy.picked b none (some 250)).size ≤ 16777216 := by
  unfold KBy.picked
  rw [bounds250 hb]
  unfold Builtin.Bytes.sliced
  rw [List.size_toArray]
  refine Nat.le_trans (List.length_filterMap_le _ _) ?_
  have : (sliceRange 0 250 1).length ≤ 16777216 := by decide +kernel
  exact this
end Mine
end -- R3

section -- UseD
theorem Mine.plain_UseD : True := by w_top off; trivial
open PySem PySem.W PyProof.Rows PySem.Calls PySem.Spec
set_option maxRecDepth 100000
set_option linter.unusedVariables false

namespace Mine
section
variable {w : World} {s : Shared} {env : Env} {outer : List Env} {A₀ A : Around} {base h₀ : Heap} {L : Addr} {m : Str → Option Value} {news small : List (Addr × Obj)} {loose : List Str} {mean : ExcName → Option Value} {mg mb : Str → Option Value} {Q : Value → Shared → Prop}
  {E : Value → Shared → Prop} {te tb : Tok} {e : Nat} {cl : Addr} {nc : Nat} {b : Array UInt8} {cvs : List Value} {cs : List Int}

theorem call_ll (hAA : A = atop 302 7 (some []) (env :: outer)) (B : Below A₀ base outer h₀) (X : (hd.heap_1 w.params).In h₀) (T : Top hd.view_1 loose mean mg mb h₀) (F : Fr h₀ L s.heap m) (N : News h₀ L s.heap news) (hf : env.frame = some L) (hke : env.scope.kind = .function)
    (h0 : (cl, listOf cvs.toArray nc) ∈ news) (hI : IntsAre cvs cs) (he : e = 0 ∨ e = 1) (hcs : ∀ (i : Nat) (n : Int), cs[i]? = some n → 0 ≤ n ∧ n < 512) (hlen : cs.length ≤ 300)
    (ret : ∀ r t h' tk' (pad : Nat), Fr h₀ L h' m → News h₀ L h' news → pad < 8 → 8 * r.size = Zf e cs.length + pad → baVal r = Lf e cs cs.length * 2 ^ pad → Q (.bytes r t) { s with heap := h', toks := tk' }) :
    wpAny (model Challenge.rw_nn0205_01.row.prog w) A (call (.ref 279) [.ref cl, .int (e : Int) te]) Q E s := by
  subst hAA
  obtain ⟨g, BG, XG, TG, g1, g2, g3, g4, g5⟩ := use_call (A := atop 302 7 (some []) (env :: outer)) B X T F N rfl hf hke (small := [(cl, listOf cvs.toArray nc)])
    (fun p hp => by rcases List.mem_cons.mp hp with rfl | hp; exact h0; cases hp)
  refine wpAny_call (codeAny_mono (ll w (env :: outer) base g mg mb mean loose s Q te e cl nc cvs cs BG XG TG g1 g2 g3 hI he hcs hlen fun r t h' tk' pad q1 q2 q3 q4 q5 => ?_) fun r s' hr => ?_)
  · obtain ⟨F', N'⟩ := g4 h' q1 q2
    exact ret _ _ _ _ _ F' N' q3 q4 q5
  · cases r with
    | ok f => cases f <;> first | exact hr | exact False.elim hr
    | error e => exact False.elim hr

theorem call_le (hAA : A = atop 302 7 (some []) (env :: outer)) (B : Below A₀ base outer h₀) (X : (hd.heap_1 w.params).In h₀) (T : Top hd.view_1 loose mean mg mb h₀) (F : Fr h₀ L s.heap m) (N : News h₀ L s.heap news) (hf : env.frame = some L) (hke : env.scope.kind = .function)
    (hb : b.size ≤ 300) (he : e = 0 ∨ e = 1) (hcsv : cs = pkAll (b.toList.map fun u => ((u.toNat : Nat) : Int)))
    (hcs : ∀ (i : Nat) (n : Int), cs[i]? = some n → 0 ≤ n ∧ n < 512) (hc0 : ∀ (i : Nat) (n : Int), cs[i]? = some n → (n = 256 ↔ i = 0)) (hlen : cs.length ≤ 300)
    (ret : ∀ r t h' tk' (pad : Nat), Fr h₀ L h' m → News h₀ L h' news → pad < 8 → 8 * r.size = Zf e cs.length + pad → baVal r = Lf e cs cs.length * 2 ^ pad → Q (.bytes r t) { s with heap := h', toks := tk' }) :
    wpC (model Challenge.rw_nn0205_01.row.prog w) A (call (.ref 266) [.bytes b tb, .int (e : Int) te]) Q s := by
  subst hAA
  obtain ⟨g, BG, XG, TG, g1, g2, g3, g4, g5⟩ := use_call (A := atop 302 7 (some []) (env :: outer)) B X T F N rfl hf hke (small := []) (fun p hp => nomatch hp)
  refine c_call (le w (env :: outer) base g mg mb mean loose s Q tb te e b BG XG TG g1 g2 hb he cs hcsv hcs hc0 hlen fun r t h' tk' pad q1 q2 q3 q4 => ?_)
  obtain ⟨F', N'⟩ := g4 h' q1 (fun q hq => nomatch hq)
  exact ret _ _ _ _ _ F' N' q2 q3 q4

theorem call_ld {pad : Nat} {st : UdP} (hAA : A = atop 302 7 (some []) (env :: outer)) (B : Below A₀ base outer h₀) (X : (hd.heap_1 w.params).In h₀) (T : Top hd.view_1 loose mean mg mb h₀) (F : Fr h₀ L s.heap m) (N : News h₀ L s.heap news) (hf : env.frame = some L) (hke : env.scope.kind = .function)
    (he : e = 0 ∨ e = 1) (hcs : ∀ (i : Nat) (n : Int), cs[i]? = some n → 0 ≤ n ∧ n < 512) (hc0 : ∀ (i : Nat) (n : Int), cs[i]? = some n → (n = 256 ↔ i = 0)) (hc1 : ∀ (i : Nat) (n : Int), cs[i]? = some n → (n = 257 ↔ i + 1 = cs.length)) (hlen : cs.length ≤ 300) (hlen0 : 0 < cs.length)
    (hsz : 8 * b.size = Zf e cs.length + pad) (hpad : pad < 8) (hv : baVal b = Lf e cs cs.length * 2 ^ pad) (hrun : ud cs (cs.length - 1) = some st) (hout : ∀ n ∈ st.out, 0 ≤ n ∧ n < 256) (hol : st.out.length ≤ 1000)
    (ret : ∀ t h' tk', Fr h₀ L h' m → News h₀ L h' news → Q (.bytes (st.out.map fun n => n.toNat.toUInt8).toArray t) { s with heap := h', toks := tk' }) :
    wpAny (model Challenge.rw_nn0205_01.row.prog w) A (call (.ref 274) [.bytes b tb, .int (e : Int) te]) Q E s := by
  subst hAA
  obtain ⟨g, BG, XG, TG, g1, g2, g3, g4, g5⟩ := use_call (A := atop 302 7 (some []) (env :: outer)) B X T F N rfl hf hke (small := []) (fun p hp => nomatch hp)
  refine wpAny_call (codeAny_mono (ld w (env :: outer) base g mg mb mean loose s Q tb te e b cs pad st BG XG TG g1 g2 he hcs hc0 hc1 hlen hlen0 hsz hpad hv hrun hout hol fun t h' tk' q1 => ?_) fun r s' hr => ?_)
  · obtain ⟨F', N'⟩ := g4 h' q1 (fun q hq => nomatch hq)
    exact ret _ _ _ F' N'
  · cases r with
    | ok f => cases f <;> first | exact hr | exact False.elim hr
    | error e => exact False.elim hr
end
end Mine
end -- UseD

section -- W9
theorem Mine.plain_W9 : True := by w_top off; trivial
open PySem PySem.W PyProof.Rows PySem.Calls PySem.Spec
set_option maxRecDepth 100000
set_option linter.unusedVariables false

namespace Mine
theorem kw_W9_1 : True := by
  k_with_none
  k_with "ite" => (k_here; k_openite; first
    | (refine ite_pos (by with_reducible assumption) ?_; walk_say "MY POS")
    | (refine ite_neg (by with_reducible assumption) ?_; walk_say "MY NEG")
    | (refine ite_neg (by ((try simp only [decide_eq_true_eq, bne_iff_ne, ne_eq, Bool.not_eq_true', beq_iff_eq, decide_eq_false_iff_not, Bool.not_eq_true, Decidable.not_not]); first | with_reducible assumption | (first | with_reducible assumption | omega -splitDisjunctions | omega))) ?_; walk_say "MY NEG")
    | (refine ite_pos (by ((try simp only [decide_eq_true_eq, bne_iff_ne, ne_eq, Bool.not_eq_true', beq_iff_eq, decide_eq_false_iff_not, Bool.not_eq_true, Decidable.not_not]); first | with_reducible assumption | (first | with_reducible assumption | omega -splitDisjunctions | omega))) ?_; walk_say "MY POS"))
  trivial

theorem kw_W9_2 : True := by
  k_with "exec For Name Call cons nil" => (k_here; k_dflt (refine any_For ?_))
  trivial
theorem kw_W9_3 : True := by
  k_with "exec While Compare" => (k_here; k_dflt (refine any_While ?_))
  trivial
theorem kw_W9_4 : True := by
  k_with "exec While" => (k_here; k_dflt (refine any_While ?_))
  trivial
theorem kw_W9_5 : True := by
  k_with "subscriptTail" => (k_here; (with_reducible show wpAny _ _ (subscriptTail _ _ (Value.ref _) (Value.int _ _)) _ _ _); k_dflt (refine' my_item ?kwqN ?kwqm ?kwqx ?kwqo ?kwqz ?_ ?kwqs ?kwqg; (case kwqN => k_asm); (case kwqm => k_mem); (case kwqx => k_asm); (case kwqo => (first | with_reducible assumption | omega -splitDisjunctions | omega)); (case kwqz => (first | with_reducible assumption | omega -splitDisjunctions | omega)); (case kwqs => with_unfolding_all rfl); (case kwqg => kmk_pure)))
  trivial
theorem kw_W9_6 : True := by
  k_with "exec Assign cons ListComp" => (k_here; k_dflt (refine asg_lc_list (by with_unfolding_all rfl) (by rfl) (by decide) (by rfl) (by decide) (by rfl) (by rfl) (by rfl) ?_))
  trivial
theorem kw_W9_7 : True := by
  k_with "binaryOp LShift int int" => (k_here; k_dflt (refine' my_lshift ?kwqb ?kwqz ?kwqy ?_; (case kwqb => k_asm); (case kwqz => (first | with_reducible assumption | omega -splitDisjunctions | omega)); (case kwqy => (first | with_reducible assumption | omega -splitDisjunctions | omega))))
  trivial
theorem kw_W9_8 : True := by
  k_with "setItem ref int" => (k_here; k_dflt (refine' ks_set ?kwqT ?kwqF ?kwqN ?kwqU ?kwqz ?_; (case kwqT => k_asm); (case kwqF => k_asm); (case kwqN => k_asm); (case kwqU => k_updF); (case kwqz => (rw [sizeLine_eq]; (first | with_reducible assumption | omega -splitDisjunctions | omega)))); intro _ _ _ kwN' _; (try dsimp only at kwN'); (try k_sweep))
  trivial
theorem kw_W9_9 : True := by
  k_with "compareOp In int ref" => (k_here; k_dflt (refine' ks_in ?kwqT ?kwqN ?kwqp ?kwqb ?_; (case kwqT => k_asm); (case kwqN => k_asm); (case kwqp => k_mem); (case kwqb => k_asm)))
  trivial
theorem kw_W9_10 : True := by
  k_with "subscriptTail Name UnaryOp ref int" => (k_here; (with_reducible show wpAny _ _ (subscriptTail _ _ (Value.ref _) (Value.int _ _)) _ _ _); k_dflt (refine' my_last ?kwqN ?kwqm ?kwqx ?_ ?kwqs ?kwqg; (case kwqN => k_asm); (case kwqm => k_mem); (case kwqx => k_asm); (case kwqs => with_unfolding_all rfl); (case kwqg => kmk_pure)))
  trivial

theorem kw_W9_11 : True := by
  k_with "subscriptTail Name Slice ref ref" => (k_here; (with_reducible show wpAny _ _ (subscriptTail _ (PySem.Expr.Slice _ _ none _) (Value.ref _) (Value.ref _)) _ _ _); k_dflt (first
    | (refine' sl_run ?kwqF ?kwqN ?kwqm ?kwqi ?kwqx ?kwqy ?kwqz ?kwqe ?_ ?kwqs ?kwqg; (case kwqF => k_asm); (case kwqN => k_asm); (case kwqm => k_mem); (case kwqi => k_asm); (case kwqe => k_asm); (case kwqx => (first | with_reducible assumption | omega -splitDisjunctions | omega)); (case kwqy => (first | with_reducible assumption | omega -splitDisjunctions | omega)); (case kwqz => ((try simp only [List.length_map, List.length_range, List.length_append, List.length_cons, List.length_nil]); (first | with_reducible assumption | omega -splitDisjunctions | omega))); (case kwqs => with_unfolding_all rfl); (case kwqg => kmk_pure))
    | (refine' sl_upto ?kwqF ?kwqN ?kwqm ?kwqi ?kwqy ?kwqz ?kwqe ?_ ?kwqs ?kwqg; (case kwqF => k_asm); (case kwqN => k_asm); (case kwqm => k_mem); (case kwqi => k_asm); (case kwqe => k_asm); (case kwqy => (first | with_reducible assumption | omega -splitDisjunctions | omega)); (case kwqz => ((try simp only [List.length_map, List.length_range, List.length_append, List.length_cons, List.length_nil]); (first | with_reducible assumption | omega -splitDisjunctions | omega))); (case kwqs => with_unfolding_all rfl); (case kwqg => kmk_pure))); intro _ _ _ _ _ kwl1 _; (try k_lt kwl1); (try k_sweep))
  trivial
theorem kw_W9_12 : True := by
  k_with "binaryOp Add ref ref" => (k_here; (with_reducible show wpAny _ _ (binaryOp _ (Value.ref _) (Value.ref _)) _ _ _); k_dflt (refine' my_add ?kwqF ?kwqN ?kwqa ?kwqb ?kwqi ?kwqj ?kwqz ?_; (case kwqF => k_asm); (case kwqN => k_asm); (case kwqa => k_mem); (case kwqb => k_mem); (case kwqi => first | k_asm | l_ints); (case kwqj => first | k_asm | l_ints); (case kwqz => ((try simp only [List.length_map, List.length_range, List.length_append, List.length_cons, List.length_nil]); (first | with_reducible assumption | omega -splitDisjunctions | omega)))); intro _ _ _ _ _ kwl1 _; (try k_lt kwl1); (try k_sweep))
  trivial

theorem kw_W9_13 : True := by
  k_with "call ref" => (k_here; (with_reducible show wpAny _ _ (call (Value.ref 279) [Value.ref _, Value.int _ _]) _ _ _); k_dflt (refine' call_ll ?kwqa ?kwqB ?kwqX ?kwqT ?kwqF ?kwqN ?kwqf ?kwqk ?kwqh0 ?kwqi ?kwqe ?kwqc ?kwql ?_; (case kwqa => rfl); (case kwqB => k_asm); (case kwqX => k_asm); (case kwqT => k_asm); (case kwqF => k_asm); (case kwqN => k_asm); (case kwqf => rfl); (case kwqk => rfl); (case kwqh0 => k_mem); (case kwqi => k_asm); (case kwqe => k_asm); (case kwqc => k_asm); (case kwql => k_asm); (intro _ _ _ _ _ _ _ _ _ _; (try k_sweep))))
  trivial

theorem ne_same {prog : Program} {w : World} {A : Around} {E : Value → Shared → Prop} {s : Shared} {b c : Array UInt8} {t u : Tok} {Q : Value → Shared → Prop} (e : b = c) (h : Q (.bool false) s) : wpAny (model prog w) A (compareOp .NotEq (.bytes b t) (.bytes c u)) Q E s :=
  ne_bytes (by subst e; rw [show (b.toList != b.toList) = false by simp]; exact h)
theorem eq_same {prog : Program} {w : World} {A : Around} {E : Value → Shared → Prop} {s : Shared} {b c : Array UInt8} {t u : Tok} {Q : Value → Shared → Prop} (e : b = c) (h : Q (.bool true) s) : wpAny (model prog w) A (compareOp .Eq (.bytes b t) (.bytes c u)) Q E s :=
  eq_bytes (by subst e; rw [show (b.toList == b.toList) = true by simp]; exact h)
theorem kw_W9_14 : True := by
  k_with "call ref" => (k_here; (with_reducible show wpAny _ _ (call (Value.ref 274) [Value.bytes _ _, Value.int _ _]) _ _ _); k_dflt (refine' call_ld ?kwqa ?kwqB ?kwqX ?kwqT ?kwqF ?kwqN ?kwqf ?kwqk ?kwqe ?kwqc1 ?kwqc2 ?kwqc3 ?kwqc4 ?kwqc5 ?kwqc6 ?kwqc7 ?kwqc8 ?kwqr ?kwqo ?kwql ?_; (case kwqa => rfl); (case kwqB => k_asm); (case kwqX => k_asm); (case kwqT => k_asm); (case kwqF => k_asm); (case kwqN => k_asm); (case kwqf => rfl); (case kwqk => rfl); (case kwqr => k_asm); (case kwqe => k_asm); (case kwqc1 => k_asm); (case kwqc2 => k_asm); (case kwqc3 => k_asm); (case kwqc4 => k_asm); (case kwqc5 => k_asm); (case kwqc6 => k_asm); (case kwqc7 => k_asm); (case kwqc8 => k_asm); (case kwqo => k_asm); (case kwql => k_asm); (intro _ _ _ _ _; (try k_sweep))))
  trivial
theorem kw_W9_15 : True := by
  k_with "call type:bytes" => (k_here; (with_reducible show wpAny _ _ (call (Value.type _) [Value.ref _]) _ _ _); k_dflt (refine' bytes_K ?kwqF ?kwqN ?kwql ?kwqi ?kwqr ?kwqz ?kwqh ?_; (case kwqF => k_asm); (case kwqN => k_asm); (case kwql => exact ⟨_, News.get (by k_asm) (by k_mem), rfl, _, rfl⟩); (case kwqi => k_asm); (case kwqr => k_asm); (case kwqh => with_unfolding_all rfl); (case kwqz => k_asm); (intro _ _ _ _ _ _; (try k_sweep))))
  trivial
theorem kw_W9_16 : True := by
  k_with "compareOp NotEq bytes bytes" => (k_here; k_dflt (refine' ne_same ?kwqe ?_; (case kwqe => first | rfl | k_asm)))
  trivial

theorem kw_W9_17 : True := by
  k_with "subscriptTail" => (k_here; (with_reducible show wpAny _ _ (subscriptTail _ _ (Value.bytes _ _) (Value.ref _)) _ _ _); k_dflt (refine' KBy.slice_N ?kwqF ?kwqN IsPart.none (IsPart.int _ _) ?kwqw ?kwqz ?_ ?kwqs ?kwqg; (case kwqF => k_asm); (case kwqN => k_asm); (case kwqw => k_asm); (case kwqz => k_asm); (case kwqs => with_unfolding_all rfl); (case kwqg => kmk_pure); (intro _ _ _ _ _; (try k_sweep))))
  trivial
theorem kw_W9_18 : True := by
  k_with "compareOp Eq bytes bytes" => (k_here; k_dflt (refine' eq_same ?kwqe ?_; (case kwqe => k_asm)))
  trivial

structure OS where
  vs : List Value
  nn : Nat
structure OI (fi gr : Int) (i : Nat) (c : OS) : Prop where
  hints : IntsAre c.vs ((List.range (i + 1)).map (octv fi gr))
structure KS where
  o : Obj
  S : Int → Bool
structure KI (prog : Program) (w : World) (dk : Addr) (fi gr : Int) (i : Nat) (c : KS) : Prop where
  set : KSet prog w dk c.o c.S i
  says : ∀ k, c.S k = true ↔ ∃ j, j < i ∧ k = octv fi gr j * 256 + octv fi gr (j + 1)
set_option maxHeartbeats 8000000 in
theorem law_holds : PySem.Challenge.rw_nn0205_01.Holds := by
  refine Mine.hd_go ?_
  intro d kwd ekw
  change some (_, _) = _ at ekw
  cases ekw
  k_fill
  intro w s₀ s₁ mg mb G Y fa o pm cd doc dV kV ho hd hcd hD hmg hg args vals as hpre hlay hrd hwl hlo
  have KX := kIn_of Y
  have X := (Ground.X G).1
  have V := (Ground.X G).2
  refine Ground.open G ?_
  intro T B D TE TW
  try (refine guard_noD D (by decide +kernel) ?_; clear D)
  obtain ⟨ccB, PB, heB, B0⟩ := based_of_top T rfl hmg ho hd
  clear hmg
  wrow_args hpre hlay hrd hwl hlo
  rename_i script hsh hlay0 hL1 hr1 hl2 as1 as2 sc scv as3 hLs ra w1 r0 hI hr hc63 hc0
  have he := Dflts.none hD rfl; subst he
  have he := Dflts.noKw hD; subst he
  refine c_call ?_
  (refine' enter_CX ho (fd_plain hd) (Top.nolimit T) hcd ?k8 ?k9 ?kB ?kD ?_ ?c2 ?c3 ?c4; (case k8 => k_room); (case k9 => exact BindsTo.of_eq rfl); (case kB => exact rfl); (case kD => decide +kernel); (case c2 => exact rfl); (case c3 => exact rfl); (case c4 => exact rfl); k_whole; intro L' h' tk' cells' hL' F' N' Y'; k_cells Y'; (try simp only [List.cons_append, List.nil_append] at N'); (try dsimp only))
  have K0 := below_caller s₁.heap
  clear hd
  (try dsimp only); refine c_execs_consO ?_; k_steps; (try dsimp only)
  (try dsimp only); refine c_execs_consO ?_; k_steps; (try dsimp only)
  (try dsimp only); refine c_execs_consO ?_; k_steps; (try dsimp only)
  (try dsimp only); refine c_execs_consO ?_; k_steps; (try dsimp only)
  (try dsimp only); refine c_execs_consO ?_; k_steps; (try dsimp only)
  (try dsimp only); refine c_execs_consO ?_; k_steps; (try dsimp only)
  rename_i D1 ws hD7 hI2 hE6 t3 hF5 t2 hG4 t1 hH3 t0 hJ2 l hK1 l1d hM oc FF NN hcell; (revert kwl1; intro l1c)
  generalize hNS : ((script.take 3).map (fun k' => k') ++ [1, 4]) = NS at FF NN hI2 ⊢
  have hNS2 : 2 ≤ NS.length := by rw [← hNS]; simp
  generalize hc0v : NS.getD (Int.toNat 0) 0 = c0 at FF NN ⊢
  generalize hc1v : NS.getD (Int.toNat 1) 0 = c1 at FF NN ⊢
  have hm : ∀ (a b : Int), 0 < b → a.fmod b = a % b := fun a b h => Int.fmod_eq_emod_of_nonneg _ (Int.le_of_lt h)
  obtain ⟨e, he, hev⟩ : ∃ e : Nat, (e = 0 ∨ e = 1) ∧ 1 - (c1.fdiv 128).fmod 2 = (e : Int) := ⟨(1 - (c1.fdiv 128).fmod 2).toNat, by rw [hm _ _ (by decide)]; (first | with_reducible assumption | omega -splitDisjunctions | omega), by rw [hm _ _ (by decide)]; (first | with_reducible assumption | omega -splitDisjunctions | omega)⟩
  obtain ⟨n, hn0, hn1, hnv⟩ : ∃ n : Nat, 252 ≤ n ∧ n ≤ 260 ∧ 252 + (c0.fdiv 256).fmod 9 = (n : Int) := ⟨(252 + (c0.fdiv 256).fmod 9).toNat, by rw [hm _ _ (by decide)]; (first | with_reducible assumption | omega -splitDisjunctions | omega), by rw [hm _ _ (by decide)]; (first | with_reducible assumption | omega -splitDisjunctions | omega), by rw [hm _ _ (by decide)]; (first | with_reducible assumption | omega -splitDisjunctions | omega)⟩
  obtain ⟨gr, hg0, hg1, hg2, hgv⟩ : ∃ gr : Int, 0 ≤ gr ∧ gr < 256 ∧ gr % 2 = 1 ∧ 1 + 2 * c1.fmod 128 = gr := ⟨_, by rw [hm _ _ (by decide)]; (first | with_reducible assumption | omega -splitDisjunctions | omega), by rw [hm _ _ (by decide)]; (first | with_reducible assumption | omega -splitDisjunctions | omega), by rw [hm _ _ (by decide)]; (first | with_reducible assumption | omega -splitDisjunctions | omega), rfl⟩
  obtain ⟨fi, hf0, hf1, hfv⟩ : ∃ fi : Int, 0 ≤ fi ∧ fi < 256 ∧ c0.fmod 256 = fi := ⟨_, by rw [hm _ _ (by decide)]; (first | with_reducible assumption | omega -splitDisjunctions | omega), by rw [hm _ _ (by decide)]; (first | with_reducible assumption | omega -splitDisjunctions | omega), rfl⟩
  obtain ⟨ta, tb, tc, td, FF⟩ : ∃ ta tb tc td, Fr s₁.heap L' hM (fun y => if y = Str.ofString "early" then some (.int (1 - (c1.fdiv 128).fmod 2) ta) else if y = Str.ofString "growth" then some (.int (1 + 2 * c1.fmod 128) tb) else if y = Str.ofString "size" then some (.int (252 + (c0.fdiv 256).fmod 9) tc) else if y = Str.ofString "first" then some (.int (c0.fmod 256) td) else if y = Str.ofString "cells" then some (.ref D1) else if y = Str.ofString "script" then some (.ref sc) else none) :=
    ⟨_, _, _, _, frEq FF fun y => by
      show (if y = _ then _ else if y = _ then _ else if y = _ then _ else if y = _ then _ else if y = _ then _ else if y = _ then _ else none) = _
      rfl⟩
  obtain ⟨te, NN⟩ : ∃ te, News s₁.heap L' hM [(l, listOf [Value.int (c0.fmod 256) te].toArray 0), (L' + 1, oc), (D1, listOf ws.toArray 0)] := ⟨_, fun p hp => NN p (by revert hp; revert p; (intro q hq; (repeat (rcases List.mem_cons.mp hq with rfl | hq; k_mem)); (exact (nomatch hq))))⟩
  rw [hev, hnv, hgv, hfv] at FF
  rw [hfv] at NN
  have hrg := octv_range (gr := gr) hf0 hf1
  clear hm
  -- octets
  (try dsimp only); refine c_execs_consO ?_
  k_steps
  (rename IsRange _ _ _ _ _ _ _ _ => hR)
  clear FF NN
  (rename Fr _ _ _ _ => FF); (rename News _ _ _ _ => NN)
  refine any_for_range (σ := OS) (n := n - 1) (fun c => [(l, listOf c.vs.toArray c.nn), (L' + 1, oc), (D1, listOf ws.toArray 0)]) (fun _ y => if y = Str.ofString "early" then some (.int (e : Int) ta) else if y = Str.ofString "growth" then some (.int gr tb) else if y = Str.ofString "size" then some (.int (n : Int) tc) else if y = Str.ofString "first" then some (.int fi td) else if y = Str.ofString "cells" then some (.ref D1) else if y = Str.ofString "script" then some (.ref sc) else none)
    (fun i c => OI fi gr i c) ⟨[.int fi te], 0⟩ hR (small_one (by (first | with_reducible assumption | omega -splitDisjunctions | omega)) (by (first | with_reducible assumption | omega -splitDisjunctions | omega)) (by (first | with_reducible assumption | omega -splitDisjunctions | omega)) (by (first | with_reducible assumption | omega -splitDisjunctions | omega))) (by rw [rangeSize_nat]; (first | with_reducible assumption | omega -splitDisjunctions | omega)) FF NN ⟨.cons _ _ .nil⟩ rfl rfl rfl ?_ ?_
  · intro i c t h tk I o hi hP hne F' N'
    clear FF NN
    have hi1 : i + 1 < n := Nat.add_lt_of_lt_sub hi
    obtain ⟨vs, nn⟩ := c
    have hints := hP.hints
    clear hP
    dsimp only at hints F' N' hne ⊢
    simp only [AllNe] at hne
    obtain ⟨ne1, ne2, ne3, -⟩ := hne
    have hlen : vs.length = i + 1 := by rw [hints.length]; simp
    obtain ⟨tx, hx⟩ : ∃ tx, vs[vs.length - 1]? = some (.int (octv fi gr i) tx) := by
      obtain ⟨tx, hx⟩ := hints.get i _ (show ((List.range (i + 1)).map (octv fi gr))[i]? = some (octv fi gr i) by simp)
      exact ⟨tx, by rw [hlen]; exact hx⟩
    have hval : (octv fi gr i + gr * (1 + (i : Int))).fmod 256 = octv fi gr (i + 1) := Int.fmod_eq_emod_of_nonneg _ (by decide)
    k_steps
    (rename Fr _ _ _ _ => FF); (rename News _ _ _ _ => NN)
    rw [hval, List.push_toArray] at NN
    dsimp only [APost]
    exact AEnd.intro (⟨vs ++ [.int (octv fi gr (i + 1)) _], nn + 1⟩ : OS) FF NN (by k_mem) (by (intro q hq; (try dsimp only at hq); (repeat (first | exact hq | (rcases List.mem_cons.mp hq with rfl | hq; k_mem))); (repeat' (first | exact hq | refine List.Mem.tail _ ?_)))) (by simp only [AllNe]; exact ⟨ne1, ne2, ne3, trivial⟩) (fun z hz => if_neg hz)
      ⟨by dsimp only; rw [List.range_succ, List.map_append]; exact intsAre_append hints (.cons _ _ .nil)⟩
  · intro c h tk u hP F' N'
    clear FF NN hR
    obtain ⟨vs, nn⟩ := c
    have hints := hP.hints
    clear hP
    dsimp only at hints F' N' ⊢
    rw [show n - 1 + 1 = n by (first | with_reducible assumption | omega -splitDisjunctions | omega)] at hints
    have hlen : vs.length = n := by rw [hints.length]; simp
    obtain ⟨tx, hx⟩ : ∃ tx, vs[vs.length - 1]? = some (.int (octv fi gr (n - 1)) tx) := by
      obtain ⟨tx, hx⟩ := hints.get (n - 1) _ (show ((List.range n).map (octv fi gr))[n - 1]? = some (octv fi gr (n - 1)) by rw [List.getElem?_map, List.getElem?_range (by (first | with_reducible assumption | omega -splitDisjunctions | omega))]; rfl)
      exact ⟨tx, by rw [hlen]; exact hx⟩
    have hbn : ((Builtin.Int.intBits (octv fi gr (n - 1)) : Nat) : Int) ≤ 100000 := by
      have := intBits_le (octv fi gr (n - 1)) 8 (hrg _).1 (hrg _).2
      (first | with_reducible assumption | omega -splitDisjunctions | omega)
    -- pairs
    (try dsimp only); refine c_execs_consO ?_
    k_steps
    (rename Fr _ _ _ _ => FF); (rename News _ _ _ _ => NN)
    refine ⟨s₁.heap, _, _, l, vs.toArray, nn, fun i => octv fi gr (n - 1) * 256 + octv fi gr i, rfl, rfl, FF, NN, .head _, by rw [List.size_toArray, hlen, sizeLine_eq]; (first | with_reducible assumption | omega -splitDisjunctions | omega), ?_, ?_⟩
    · rintro i v I oI C oC D m₂ h tk ys hi hv hC hx' F N off ne
      simp only [LCg.Off3, and_true] at off
      clear FF NN
      rw [List.getElem?_toArray] at hv
      obtain ⟨k', tk', rfl, hk'⟩ := IntsAre.at hints i v hv
      have hio : octv fi gr i = k' := by
        rw [List.size_toArray, hlen] at hi
        rw [List.getElem?_map, List.getElem?_range hi] at hk'
        exact Option.some.inj hk'
      subst hio
      k_steps
      (rename Fr _ _ _ _ => FF); (rename News _ _ _ _ => NN)
      exact EltPost.intro rfl FF NN
    · intro D2 h tk ys F N hne hys
      clear FF NN
      rw [List.size_toArray, hlen] at hys
      have hD2 : @Ne Nat l D2 ∧ @Ne Nat (L' + 1) D2 ∧ @Ne Nat D1 D2 := ⟨hne _ (.head _), hne _ (.tail _ (.head _)), hne _ (.tail _ (.tail _ (.head _)))⟩
      clear hne
      -- known
      (try dsimp only); refine c_execs_consO ?_
      k_steps
      rename_i dk hq2 ok FA NA lo hs' fs' hi' fi' ldk hq1 FF NN
      have hks := KSet.new lo hi'
      clear FA NA hs' fs' fi' hi'
      (try dsimp only); refine c_execs_consO ?_
      k_steps
      (rename IsRange _ _ _ _ _ _ _ _ => hR)
      (try clear FF); (try clear NN)
      (rename Fr _ _ _ _ => FF); (rename News _ _ _ _ => NN)
      have hdk : @LT.lt Nat _ D2 dk ∧ @LT.lt Nat _ l dk ∧ @LT.lt Nat _ (L' + 1) dk ∧ @LT.lt Nat _ D1 dk := ldk
      refine any_for_range (σ := KS) (n := n - 1) (fun c => [(dk, c.o), (D2, listOf ys.toArray ys.length), (l, listOf vs.toArray nn), (L' + 1, oc), (D1, listOf ws.toArray 0)]) (fun _ y => if y = Str.ofString "known" then some (.ref dk) else if y = Str.ofString "pairs" then some (.ref D2) else if y = Str.ofString "turn" then u y else if y = Str.ofString "early" then some (.int (e : Int) ta) else if y = Str.ofString "growth" then some (.int gr tb) else if y = Str.ofString "size" then some (.int (n : Int) tc) else if y = Str.ofString "first" then some (.int fi td) else if y = Str.ofString "cells" then some (.ref D1) else if y = Str.ofString "script" then some (.ref sc) else none)
        (fun i c => KI _ w dk fi gr i c) ⟨ok, fun _ => false⟩ hR (small_one (by (first | with_reducible assumption | omega -splitDisjunctions | omega)) (by (first | with_reducible assumption | omega -splitDisjunctions | omega)) (by (first | with_reducible assumption | omega -splitDisjunctions | omega)) (by (first | with_reducible assumption | omega -splitDisjunctions | omega))) (by rw [rangeSize_nat]; (first | with_reducible assumption | omega -splitDisjunctions | omega)) FF NN ⟨hks, fun k => by simp⟩ rfl rfl rfl ?_ ?_
      · intro i c t h tk I o hi hP hne F' N'
        clear FF NN hks
        have hi1 : i + 1 < n := Nat.add_lt_of_lt_sub hi
        obtain ⟨od, S⟩ := c
        obtain ⟨hset, hsays⟩ := hP
        dsimp only at hset hsays F' N' hne ⊢
        simp only [AllNe] at hne
        obtain ⟨ne1, ne2, ne3, ne4, ne5, -⟩ := hne
        obtain ⟨q1, hx1⟩ : ∃ q1, vs[((0 : Int) + (i : Int)).toNat]? = some (.int (octv fi gr i) q1) := by
          obtain ⟨q1, hx⟩ := hints.get i _ (show ((List.range n).map (octv fi gr))[i]? = some (octv fi gr i) by rw [List.getElem?_map, List.getElem?_range (by (first | with_reducible assumption | omega -splitDisjunctions | omega))]; rfl)
          exact ⟨q1, by rw [show ((0 : Int) + (i : Int)).toNat = i by (first | with_reducible assumption | omega -splitDisjunctions | omega)]; exact hx⟩
        obtain ⟨q2, hx2⟩ : ∃ q2, vs[((0 : Int) + (i : Int) + 1).toNat]? = some (.int (octv fi gr (i + 1)) q2) := by
          obtain ⟨q2, hx⟩ := hints.get (i + 1) _ (show ((List.range n).map (octv fi gr))[i + 1]? = some (octv fi gr (i + 1)) by rw [List.getElem?_map, List.getElem?_range (by (first | with_reducible assumption | omega -splitDisjunctions | omega))]; rfl)
          exact ⟨q2, by rw [show ((0 : Int) + (i : Int) + 1).toNat = i + 1 by (first | with_reducible assumption | omega -splitDisjunctions | omega)]; exact hx⟩
        have hbi : ((Builtin.Int.intBits (octv fi gr i) : Nat) : Int) ≤ 100000 := by
          have := intBits_le (octv fi gr i) 8 (hrg _).1 (hrg _).2
          (first | with_reducible assumption | omega -splitDisjunctions | omega)
        k_steps
        (rename Fr _ _ _ _ => FF); (rename News _ _ _ _ => NN)
        (rename KSet _ _ _ _ _ _ => hs2)
        dsimp only [APost]
        refine AEnd.intro (⟨_, _⟩ : KS) FF NN (by k_mem) (by (intro q hq; (try dsimp only at hq); (repeat (first | exact hq | (rcases List.mem_cons.mp hq with rfl | hq; k_mem))); (repeat' (first | exact hq | refine List.Mem.tail _ ?_)))) (by simp only [AllNe]; exact ⟨ne1, ne2, ne3, ne4, ne5, trivial⟩) (fun z hz => if_neg hz) ⟨hs2, fun k => ?_⟩
        show (decide (k = octv fi gr i * 2 ^ Int.toNat 8 + octv fi gr (i + 1)) || S k) = true ↔ _
        rw [Bool.or_eq_true, decide_eq_true_eq, hsays, show (2 : Int) ^ Int.toNat 8 = 256 from rfl]
        constructor
        · rintro (h | ⟨j, hj, h⟩)
          · exact ⟨i, Nat.lt_succ_self i, h⟩
          · exact ⟨j, Nat.lt_succ_of_lt hj, h⟩
        · rintro ⟨j, hj, h⟩
          rcases Nat.lt_succ_iff_lt_or_eq.mp hj with hj | rfl
          · exact .inr ⟨j, hj, h⟩
          · exact .inl h
      · intro c h tk u2 hP F' N'
        clear FF NN hks hR
        obtain ⟨od, S⟩ := c
        obtain ⟨hset, hsays⟩ := hP
        dsimp only at hset hsays F' N' ⊢
        -- start
        obtain ⟨tc1, hxc⟩ : ∃ tc1, ws[Int.toNat 1]? = some (.int c1 tc1) := by
          have h1 : NS[Int.toNat 1]? = some c1 := by
            rw [← hc1v]
            have : Int.toNat 1 < NS.length := hNS2
            rw [List.getD_eq_getElem?_getD, List.getElem?_eq_getElem this]; rfl
          exact hI2.get _ _ h1
        obtain ⟨st, hst, hsv⟩ : ∃ st : Nat, st ≤ 199 ∧ (c1.fdiv 256).fmod 200 = (st : Int) := ⟨((c1.fdiv 256).fmod 200).toNat, by rw [Int.fmod_eq_emod_of_nonneg _ (by decide)]; (first | with_reducible assumption | omega -splitDisjunctions | omega), by rw [Int.fmod_eq_emod_of_nonneg _ (by decide)]; (first | with_reducible assumption | omega -splitDisjunctions | omega)⟩
        have hno : S (octv fi gr (n - 1) * 256 + octv fi gr st) = false := by
          rw [Bool.eq_false_iff]
          intro hq
          obtain ⟨j, hj, hk⟩ := (hsays _).mp hq
          exact no_pair hf0 hf1 hg2 hn0 hn1 hst hj hk
        (try dsimp only); refine c_execs_consO ?_
        k_steps
        (try dsimp only)
        (rename Fr _ _ _ _ => FF); (rename News _ _ _ _ => NN)
        rw [hc1v, hsv] at FF
        -- while
        obtain ⟨q3, hx3⟩ : ∃ q3, ys[((st : Int)).toNat]? = some (.int (octv fi gr (n - 1) * 256 + octv fi gr st) q3) := by
          obtain ⟨q3, hx⟩ := hys.get st _ (show ((List.range n).map fun i => octv fi gr (n - 1) * 256 + octv fi gr i)[st]? = some _ by rw [List.getElem?_map, List.getElem?_range (by (first | with_reducible assumption | omega -splitDisjunctions | omega))]; rfl)
          exact ⟨q3, by rw [show ((st : Int)).toNat = st by (first | with_reducible assumption | omega -splitDisjunctions | omega)]; exact hx⟩
        (try dsimp only); refine c_execs_consO ?_
        k_steps
        refine any_whileC (σ := Unit) (fun _ => [(dk, od), (D2, listOf ys.toArray ys.length), (l, listOf vs.toArray nn), (L' + 1, oc), (D1, listOf ws.toArray 0)]) (fun _ => True) (fun _ => 0) () (by k_asm) (by k_asm) trivial ?_
        clear FF NN
        rintro _ h tk _ F' N'
        k_steps
        -- the four octets more
        have hsl := four (octv fi gr) (show st + 4 ≤ n by (first | with_reducible assumption | omega -splitDisjunctions | omega))
        have hup := upto_n n (octv fi gr) [octv fi gr st, octv fi gr (st + 1), octv fi gr (st + 2), octv fi gr (st + 3)]
        (try dsimp only)
        refine c_execs_consO ?_
        k_steps
        have hcs := CSv_range (gr := gr) hf0 hf1 (n := n) hst
        have hc0 := CSv_256 (gr := gr) hf0 hf1 (n := n) (st := st)
        have hc1 := CSv_257 (gr := gr) hf0 hf1 (n := n) (st := st)
        have hcl : (CSv fi gr n st).length ≤ 300 := by rw [CSv_len]; (first | with_reducible assumption | omega -splitDisjunctions | omega)
        -- codes
        (try dsimp only)
        refine c_execs_consO ?_
        k_steps
        (try dsimp only)
        refine c_execs_consO ?_
        k_steps
        (rename (baVal _ = _) => hd3); (rename (8 * Array.size _ = _ + _) => hd2); (rename (@LT.lt Nat _ _ 8) => hd1)
        -- the If
        have hro : ∀ k ∈ (List.range n).map (octv fi gr) ++ [octv fi gr st, octv fi gr (st + 1), octv fi gr (st + 2), octv fi gr (st + 3)], 0 ≤ k ∧ k < 256 := by
          intro k hk
          rcases List.mem_append.mp hk with hk | hk
          · obtain ⟨i, _, rfl⟩ := List.mem_map.mp hk; exact hrg i
          · simp only [List.mem_cons, List.not_mem_nil, or_false] at hk
            rcases hk with rfl | rfl | rfl | rfl <;> exact hrg _
        (rename IntsAre _ (List.map (octv fi gr) (List.range n) ++ [octv fi gr st, octv fi gr (st + 1), octv fi gr (st + 2), octv fi gr (st + 3)]) => hio)
        have hyo := hio.length
        rw [List.length_append, List.length_map, List.length_range] at hyo
        have hyo2 := Nat.le_trans (Nat.le_of_eq hyo) (show n + 4 ≤ sizeLine by rw [sizeLine_eq]; (first | with_reducible assumption | omega -splitDisjunctions | omega))
        (try dsimp only)
        refine c_execs_cons (c_If (c_isTrue_Or2 (c_isTrue_Compare1 (c_CallO ?_))))
        k_steps
        (try dsimp only)
        refine' c_callWith_K (K := Mine.hd.heap_1 w.params) ?k1 ?k2 ?_; (case k1 => k_asm); (case k2 => k_is)
        k_steps
        (try dsimp only)
        (rename Fr _ _ _ _ => FF); (rename News _ _ _ _ => NN)
        have hpk : CSv fi gr n st = pkAll ((((List.range n).map (octv fi gr) ++ [octv fi gr st, octv fi gr (st + 1), octv fi gr (st + 2), octv fi gr (st + 3)]).map fun n => n.toNat.toUInt8).toArray.toList.map fun u => ((u.toNat : Nat) : Int)) := by rw [back_bytes _ hro]; exact (pk_law hf0 hf1 hg2 hn0 hn1 hst).symm
        obtain ⟨bfz, wsz, hud⟩ : ∃ bf ws', ud (CSv fi gr n st) ((CSv fi gr n st).length - 1) = some ⟨bf, ws', (List.range n).map (octv fi gr) ++ [octv fi gr st, octv fi gr (st + 1), octv fi gr (st + 2), octv fi gr (st + 3)]⟩ := ud_law hf0 hf1 hn0 hst
        have hol : (UdP.mk bfz wsz ((List.range n).map (octv fi gr) ++ [octv fi gr st, octv fi gr (st + 1), octv fi gr (st + 2), octv fi gr (st + 3)])).out.length ≤ 1000 := by simp; (first | with_reducible assumption | omega -splitDisjunctions | omega)
        have hout : ∀ k ∈ (UdP.mk bfz wsz ((List.range n).map (octv fi gr) ++ [octv fi gr st, octv fi gr (st + 1), octv fi gr (st + 2), octv fi gr (st + 3)])).out, 0 ≤ k ∧ k < 256 := hro
        have hcl0 : 0 < (CSv fi gr n st).length := by rw [CSv_len]; (first | with_reducible assumption | omega -splitDisjunctions | omega)
        refine' call_le (cs := CSv fi gr n st) rfl ?B KX T FF NN rfl rfl ?hb he hpk hcs hc0 hcl ?_
        case B => k_asm
        case hb => simp; (first | with_reducible assumption | omega -splitDisjunctions | omega)
        clear FF NN
        intro r t h' tk' pad F' N' p1 p2 p3
        have hrd := same_line p1 p2 p3 hd1 hd2 hd3
        subst hrd
        clear hd1 hd2 hd3
        (try dsimp only)
        k_steps
        (try dsimp only)
        -- the Return
        refine c_execs_nil ?_
        (try dsimp only)
        refine c_execs_cons (c_Return (c_Compare1 (c_Subscript (c_CallO ?_))))
        k_steps
        (try dsimp only)
        refine' c_callWith_K (K := Mine.hd.heap_1 w.params) ?k1 ?k2 ?_; (case k1 => k_asm); (case k2 => k_is)
        k_steps
        (try dsimp only)
        (rename Fr _ _ _ _ => FF); (rename News _ _ _ _ => NN)
        have he2 : 1 - (e : Int) = ((1 - e : Nat) : Int) := (one_minus he).1
        have he3 : 1 - e = 0 ∨ 1 - e = 1 := (one_minus he).2
        rw [he2]
        refine' call_le (cs := CSv fi gr n st) rfl ?B KX T FF NN rfl rfl ?hb he3 hpk hcs hc0 hcl ?_
        case B => k_asm
        case hb => simp; (first | with_reducible assumption | omega -splitDisjunctions | omega)
        clear FF NN
        intro r2 t2 h2 tk2 pad2 F2 N2 p12 p22 p32
        have hm230 : 230 ≤ (CSv fi gr n st).length := by rw [CSv_len]; (first | with_reducible assumption | omega -splitDisjunctions | omega)
        obtain ⟨v1, w1⟩ := first250 he hcs hm230 p2 p3
        obtain ⟨v2, w2⟩ := first250 he3 hcs hm230 p22 p32
        rw [Lf_low he he3 _ 223 (by (first | with_reducible assumption | omega -splitDisjunctions | omega))] at v1
        have hpe := picked250 w2 w1 (take250 w2 w1 (v2.trans v1.symm))
        have hw1 := whole250 w1
        have hw2 := whole250 w2
        have hq1 := picked_size w1
        have hq2 := picked_size w2
        (try dsimp only)
        k_steps
        (try dsimp only)
        wrow_closeG
end Mine
end -- W9

theorem PySem.Challenge.cw_nn0205_01_holds : PySem.Challenge.rw_nn0205_01.Holds :=
  Mine.law_holds
