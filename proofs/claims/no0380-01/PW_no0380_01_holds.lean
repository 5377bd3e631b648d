import PyProof.Rows.All
import Wide.All
import OpenK.AllK
import Wide.FinOn
import PySem.Challenge.RW_no0380_01
set_option maxRecDepth 100000
set_option linter.unusedVariables false
set_option linter.unusedSimpArgs false
set_option Elab.async false

section
open PySem PySem.W PyProof.Rows PySem.Calls
namespace Mine

/-! ## a logic that sees a little of the stack: no entry of these kinds lies there -/
noncomputable def benign : Code → Bool
  | .builtin id _ => !(Builtin.Bytes.decodersThatHold.contains id) && !(guardIds.contains id)
  | _ => true
noncomputable def gB (b : Bool) (l : List (Code × Pos)) : Prop := b = true → ∀ x ∈ l, benign x.1 = true
noncomputable def gO (b : Bool) (Γ : Ctx) : Prop := b = true → benign Γ.code = true ∧ ∀ x ∈ Γ.below, benign x.1 = true

structure wpG {α : Type} (b : Bool) (M : Model) (A : Around) (t : Sem α) (Q : α → Shared → Prop) (E : Value → Shared → Prop) (s : Shared) : Prop where
  run : ∀ Γ p, Γ.In A → gO b Γ → Sem.wp M Γ t (fun a _ s' => Q a s') (fun e _ s' => E e s') p s
structure codeG (b : Bool) (M : Model) (A : Around) (c : Code) (R : Result → Shared → Prop) (s : Shared) : Prop where
  run : ∀ Γ p, Γ.code = c → Γ.Below A → gB b Γ.below → wpCode M Γ R p s

section
variable {α β : Type} {b : Bool} {M : Model} {A : Around} {E : Value → Shared → Prop} {s : Shared} {env : Env}

theorem g_of {t : Sem α} {Q : α → Shared → Prop} (h : wpAny M A t Q E s) : wpG b M A t Q E s := .mk fun Γ p hΓ _ => h Γ p hΓ
theorem cg_of {c : Code} {R : Result → Shared → Prop} (h : codeAny M A c R s) : codeG b M A c R s := .mk fun Γ p hc hΓ _ => h Γ p hc hΓ
theorem cg_no {c : Code} {R : Result → Shared → Prop} (h : codeG false M A c R s) : codeAny M A c R s := fun Γ p hc hΓ => h.run Γ p hc hΓ fun q => by cases q
theorem g_no {t : Sem α} {Q : α → Shared → Prop} (h : wpG false M A t Q E s) : wpAny M A t Q E s := fun Γ p hΓ => h.run Γ p hΓ fun q => by cases q
theorem g_up {b' : Bool} (hb : b' = true ∨ b = false) {t : Sem α} {Q : α → Shared → Prop} (h : wpG b M A t Q E s) : wpG b' M A t Q E s := .mk fun Γ p hΓ hg => h.run Γ p hΓ fun q => hb.elim (fun r => hg r) fun r => by rw [r] at q; cases q
theorem g_pure {a : α} {Q : α → Shared → Prop} (h : Q a s) : wpG b M A (pure a) Q E s := g_of (wpAny_pure h)
theorem g_mono {t : Sem α} {Q Q' : α → Shared → Prop} {E' : Value → Shared → Prop} (h : wpG b M A t Q E s) (hQ : ∀ a s, Q a s → Q' a s) (hE : ∀ e s, E e s → E' e s) : wpG b M A t Q' E' s :=
  .mk fun Γ p hΓ hg => Sem.wp_mono M Γ t (fun a _ s => hQ a s) (fun e _ s => hE e s) p s (h.run Γ p hΓ hg)
theorem g_bind {m : Sem α} {f : α → Sem β} {Q : β → Shared → Prop} (h : wpG b M A m (fun a s' => wpG b M A (f a) Q E s') E s) : wpG b M A (m >>= f) Q E s := .mk fun Γ p hΓ hg => by
  rw [Sem.wp_bind']
  exact Sem.wp_mono M Γ m (fun a p' s' h' => h'.run Γ p' hΓ hg) (fun _ _ _ h' => h') p s (h.run Γ p hΓ hg)
/-- a leaf first -/
theorem g_then {m : Sem α} {f : α → Sem β} {Q : β → Shared → Prop} (h : wpAny M A m (fun a s' => wpG b M A (f a) Q E s') E s) : wpG b M A (m >>= f) Q E s := g_bind (g_of h)
theorem g_onRaise {m : Sem α} {k : Value → Sem Unit} {Q : α → Shared → Prop} (h : wpG b M A m Q (fun e s' => wpAny M A (k e) (fun _ s'' => E e s'') E s') s) : wpG b M A (m.onRaise k) Q E s := .mk fun Γ p hΓ hg => by
  rw [Sem.wp_onRaise]
  exact Sem.wp_mono M Γ m (fun _ _ _ h' => h') (fun e p' s' h' => h' Γ p' hΓ) p s (h.run Γ p hΓ hg)
theorem g_attempt {m : Sem α} {Q : Except Value α → Shared → Prop} (h : wpG b M A m (fun a => Q (.ok a)) (fun e => Q (.error e)) s) : wpG b M A m.attempt Q E s := .mk fun Γ p hΓ hg => by rw [Sem.wp_attempt]; exact h.run Γ p hΓ hg
theorem g_holding {vs : List Value} {m : Sem α} {Q : α → Shared → Prop} (h : wpG b M A m Q E s) : wpG b M A (holding vs m) Q E s := .mk fun Γ p hΓ hg => by rw [Sem.wp_holding]; exact h.run Γ p hΓ hg
theorem g_keep {vs : List Value} {m : Sem α} {Q : α → Shared → Prop} (h : wpG b M A m Q E s) : wpG b M A (m.keep vs) Q E s := .mk fun Γ p hΓ hg => by rw [Sem.wp_keep]; exact h.run Γ p hΓ hg
theorem g_operate {vs : List Value} {m : Sem Value} {Q : Value → Shared → Prop} (h : wpG b M A m Q E s) : wpG b M A (operate vs m) Q E s := .mk fun Γ p hΓ hg => by rw [Sem.wp_operate]; exact h.run Γ p hΓ hg
theorem g_stand {pos : Pos} {f : Unit → Sem β} {Q : β → Shared → Prop} (h : wpG b M A (f ()) Q E s) : wpG b M A (standAt pos >>= f) Q E s := g_then (wpAny_standAt h)

theorem gO_enter {Γ : Ctx} {c : Code} {h : Option Value} {p : Pos} (hg : gO b Γ) : gB b (Γ.enter c h p).below := fun q x hx => by
  obtain ⟨h1, h2⟩ := hg q
  rcases List.mem_cons.mp hx with rfl | hx
  · exact h1
  · exact h2 x hx
theorem g_run {c : Code} {h : Option Value} {Q : Flow → Shared → Prop} (hc : codeG b M (A.mark h) c (fun r s' => match r with | .ok f => Q f s' | .error e => E e s') s) (hnb : h ≠ some byPass := by intro x; cases x) : wpG b M A (run c h) Q E s :=
  .mk fun Γ p hΓ hg => by rw [Sem.wp_run]; exact hc.run _ p rfl (hΓ.enter c h p hnb) (gO_enter hg)
theorem g_runValue {c : Code} {Q : Value → Shared → Prop} (hc : codeG b M A c (fun r s' => match r with | .ok (.ret v) => Q v s' | .ok _ => False | .error e => E e s') s) : wpG b M A (runValue c) Q E s :=
  .mk fun Γ p hΓ hg => by rw [Sem.wp_runValue]; exact hc.run _ p rfl (hΓ.enter c none p (by intro x; cases x)) (gO_enter hg)
theorem g_call {f : Value} {pos : List Value} {kw : List (Str × Value)} {Q : Value → Shared → Prop} (hc : codeG b M A (.call f ⟨pos, kw⟩) (fun r s' => match r with | .ok (.ret v) => Q v s' | .ok _ => False | .error e => E e s') s) : wpG b M A (call f pos kw) Q E s := g_runValue hc
theorem cg_mono {c : Code} {R R' : Result → Shared → Prop} (h : codeG b M A c R s) (hR : ∀ r s, R r s → R' r s) : codeG b M A c R' s := .mk fun Γ p hc hΓ hg => wpCode_mono hR (h.run Γ p hc hΓ hg)
theorem cg_of_tree {c : Code} {R : Result → Shared → Prop} (hb : benign c = true)
    (h : wpG b M (A.under c) (M.den c) (fun fin s' => match fin with | .done f => R (.ok f) s' | .again c' => c'.quiet = true ∧ codeG b M A c' R s') (fun e s' => R (.error e) s') s) : codeG b M A c R s := .mk fun Γ p hc hΓ hg => by
  rw [wpCode_iff_wp, hc]
  refine Sem.wp_mono M Γ _ (fun fin p' s' h' => ?_) (fun _ _ _ h' => h') p s (h.run Γ p (hc ▸ hΓ.in) fun q => ⟨hc ▸ hb, hg q⟩)
  cases fin with
  | done f => exact h'
  | again c' => exact ⟨h'.1, h'.2.run (Γ.goto c') p' rfl (hΓ.goto c') hg⟩
theorem cg_loop {c : Code} {R : Result → Shared → Prop} (hb : benign c = true) (hq : c.quiet = true) (I : Nat → Shared → Prop)
    (turn : ∀ n s, I n s → wpG b M (A.under c) (M.den c) (fun fin s' => match fin with | .done f => R (.ok f) s' | .again c' => (c' = c ∧ ∃ m, m < n ∧ I m s') ∨ (c'.quiet = true ∧ codeG b M A c' R s')) (fun e s' => R (.error e) s') s)
    (n : Nat) (h : I n s) : codeG b M A c R s := by
  induction n using Nat.strongRecOn generalizing s with
  | ind n ih =>
    refine cg_of_tree hb (g_mono (turn n s h) (fun fin s' hf => ?_) fun _ _ h' => h')
    cases fin with
    | done f => exact hf
    | again c' =>
      rcases hf with ⟨rfl, m, hm, hI⟩ | hf
      · exact ⟨hq, ih m hm hI⟩
      · exact hf

/-! ### expressions -/
theorem g_BinOp {l op r pos} {Q : Value → Shared → Prop} (h : wpG b M A (eval l env) (fun x s₁ => wpG b M A (eval r env) (fun y s₂ => wpG b M A (binaryOp op x y) Q E s₂) E s₁) E s) : wpG b M A (eval (.BinOp l op r pos) env) Q E s := by
  rw [eval_BinOp]
  exact g_bind (g_mono h (fun x s₁ h₁ => g_bind (g_holding (g_mono h₁ (fun y s₂ h₂ => g_stand (g_operate h₂)) fun _ _ z => z))) fun _ _ z => z)
theorem g_Compare1 {l op r pos} {Q : Value → Shared → Prop} (h : wpG b M A (eval l env) (fun x s₁ => wpG b M A (eval r env) (fun y s₂ => wpG b M A (compareOp op x y) Q E s₂) E s₁) E s) (hm : behindInMarks op r = false) : wpG b M A (eval (.Compare l [op] [r] pos) env) Q E s := by
  rw [eval_Compare1, markedBehindIn_of_false hm]
  exact g_bind (g_mono h (fun x s₁ h₁ => g_bind (g_holding (g_mono h₁ (fun y s₂ h₂ => g_stand (g_operate h₂)) fun _ _ z => z))) fun _ _ z => z)
theorem g_isTrue_Compare1 {l op r pos whole} {Q : Bool → Shared → Prop} (h : wpG b M A (eval l env) (fun x s₁ => wpG b M A (eval r env) (fun y s₂ => wpG b M A (compareOp op x y) (fun c s₃ => wpG b M A (truthy c) Q E s₃) E s₂) E s₁) E s) (hm : behindInMarks op r = false) :
    wpG b M A (isTrue (.Compare l [op] [r] pos) env whole) Q E s := by
  rw [isTrue_Compare1, markedBehindIn_of_false hm]
  exact g_bind (g_mono h (fun x s₁ h₁ => g_bind (g_holding (g_mono h₁ (fun y s₂ h₂ => g_stand (g_bind (g_operate (g_mono h₂ (fun c s₃ h₃ => g_holding h₃) fun _ _ z => z)))) fun _ _ z => z))) fun _ _ z => z)
theorem g_IfExp {t x y : Expr} {pos : Pos} {Q : Value → Shared → Prop} (h : wpG b M A (isTrue t env (eval t env)) (fun q s₁ => if q then wpG b M A (eval x env) Q E s₁ else wpG b M A (eval y env) Q E s₁) E s) : wpG b M A (eval (.IfExp t x y pos) env) Q E s := by
  rw [arm_eval_IfExp]
  refine g_bind (g_mono h (fun q s₁ h₁ => ?_) fun _ _ z => z)
  cases q <;> exact h₁
theorem g_UnaryOp {op : UnaryOp} {x : Expr} {pos : Pos} {Q : Value → Shared → Prop} (h : wpG b M A (eval x env) (fun v s₁ => wpAny M A (unaryOp op v) Q E s₁) E s) : wpG b M A (eval (.UnaryOp op x pos) env) Q E s := by
  rw [arm_eval_UnaryOp]
  exact g_bind (g_mono h (fun v s₁ h₁ => g_stand (g_holding (g_of h₁))) fun _ _ z => z)
theorem g_isTrue_plain {e : Expr} {whole : Sem Value} {Q : Bool → Shared → Prop} (h : wpG b M A whole (fun v s₁ => wpAny M A (truthy v) Q E s₁) E s) (he : isTrue e env whole = (do let v ← whole; standAt e.pos; holding [v] (truthy v))) : wpG b M A (isTrue e env whole) Q E s := by
  rw [he]
  exact g_bind (g_mono h (fun v s₁ h₁ => g_stand (g_holding (g_of h₁))) fun _ _ z => z)
theorem g_isTrue_Not {x : Expr} {pos : Pos} {whole : Sem Value} {Q : Bool → Shared → Prop} (h : wpG b M A (isTrue x env (eval x env)) (fun q s₁ => Q (!q) s₁) E s) : wpG b M A (isTrue (.UnaryOp .Not x pos) env whole) Q E s := by
  rw [arm_isTrue_UnaryOp]
  exact g_bind (g_mono h (fun q s₁ h₁ => g_pure h₁) fun _ _ z => z)
theorem g_isTrue_BoolOp {op : BoolOp} {values : List Expr} {pos : Pos} {whole : Sem Value} {Q : Bool → Shared → Prop} (h : wpG b M A (allTrue op values env) Q E s) : wpG b M A (isTrue (.BoolOp op values pos) env whole) Q E s := by rw [arm_isTrue_BoolOp]; exact h
theorem g_and_cons {x : Expr} {rest : List Expr} {Q : Bool → Shared → Prop} (h : wpG b M A (isTrue x env (eval x env)) (fun q s₁ => if q then wpG b M A (allTrue .And rest env) Q E s₁ else Q false s₁) E s) : wpG b M A (allTrue .And (x :: rest) env) Q E s := by
  show wpG b M A (isTrue x env (eval x env) >>= fun q => match BoolOp.And, q with | .And, false => pure false | .Or, true => pure true | _, _ => allTrue .And rest env) Q E s
  refine g_bind (g_mono h (fun q s₁ h₁ => ?_) fun _ _ z => z)
  cases q
  · exact g_pure h₁
  · exact h₁
theorem g_or_cons {x : Expr} {rest : List Expr} {Q : Bool → Shared → Prop} (h : wpG b M A (isTrue x env (eval x env)) (fun q s₁ => if q then Q true s₁ else wpG b M A (allTrue .Or rest env) Q E s₁) E s) : wpG b M A (allTrue .Or (x :: rest) env) Q E s := by
  show wpG b M A (isTrue x env (eval x env) >>= fun q => match BoolOp.Or, q with | .And, false => pure false | .Or, true => pure true | _, _ => allTrue .Or rest env) Q E s
  refine g_bind (g_mono h (fun q s₁ h₁ => ?_) fun _ _ z => z)
  cases q
  · exact h₁
  · exact g_pure h₁
theorem g_And2 {x y : Expr} {pos : Pos} {Q : Value → Shared → Prop} (h : wpG b M A (eval x env) (fun v s₁ => wpAny M A (truthy v) (fun t s₂ => if t then wpG b M A (eval y env) Q E s₂ else Q v s₂) E s₁) E s) : wpG b M A (eval (.BoolOp .And [x, y] pos) env) Q E s := by
  show wpG b M A (eval x env >>= fun v => standAt pos >>= fun _ => holding [v] (truthy v) >>= fun t => match BoolOp.And, t with
    | .And, false | .Or, true => pure v
    | _, _ => boolOp pos .And [eval y env]) Q E s
  refine g_bind (g_mono h (fun v s₁ h₁ => g_stand (g_bind (g_holding (g_mono (g_of h₁) (fun t s₂ h₂ => ?_) fun _ _ z => z)))) fun _ _ z => z)
  cases t with
  | false => exact g_pure h₂
  | true => exact h₂

theorem g_chain2 {l r₁ r₂ : Expr} {op₁ op₂ : CmpOp} {pos : Pos} {Q : Value → Shared → Prop} (h : wpG b M A (eval l env) (fun x s₁ => wpG b M A (eval r₁ env) (fun y s₂ => wpG b M A (compareOp op₁ x y) (fun c s₃ => wpAny M A (truthy c)
      (fun t s₄ => if t then wpG b M A (eval r₂ env) (fun z s₅ => wpG b M A (compareOp op₂ y z) Q E s₅) E s₄ else Q c s₄) E s₃) E s₂) E s₁) E s)
    (hm : lastMarks [op₁, op₂] [r₁, r₂] = false) : wpG b M A (eval (.Compare l [op₁, op₂] [r₁, r₂] pos) env) Q E s := by
  show wpG b M A (eval l env >>= fun x => compareChain pos x [op₁, op₂] (markedEach [op₁, op₂] [r₁, r₂] (evalEach [r₁, r₂] env))) Q E s
  rw [markedEach_of_false _ _ _ hm]
  refine g_bind (g_mono h (fun x s₁ h₁ => ?_) fun _ _ z => z)
  show wpG b M A (holding [x] (eval r₁ env) >>= fun rv => standAt pos >>= fun _ => holding [x, rv] (compareOp op₁ x rv) >>= fun c => release [x, rv] [c] >>= fun _ =>
    holding [c, rv] (truthy c) >>= fun t => if t = true then compareChain pos rv [op₂] [eval r₂ env] else pure c) Q E s₁
  refine g_bind (g_holding (g_mono h₁ (fun y s₂ h₂ => g_stand (g_bind (g_holding (g_mono h₂ (fun c s₃ h₃ => g_then (wpAny_release' ?_)) fun _ _ z => z)))) fun _ _ z => z))
  refine g_bind (g_holding (g_mono (g_of h₃) (fun t s₄ h₄ => ?_) fun _ _ z => z))
  cases t with
  | false => exact g_pure h₄
  | true =>
    show wpG b M A (holding [y] (eval r₂ env) >>= fun rv => standAt pos >>= fun _ => operate [y, rv] (compareOp op₂ y rv)) Q E s₄
    exact g_bind (g_holding (g_mono h₄ (fun z s₅ h₅ => g_stand (g_operate h₅)) fun _ _ z => z))
theorem g_test2 {l r₁ r₂ : Expr} {op₁ op₂ : CmpOp} {pos : Pos} {whole : Sem Value} {Q : Bool → Shared → Prop} (h : wpG b M A (eval l env) (fun x s₁ => wpG b M A (eval r₁ env) (fun y s₂ => wpG b M A (compareOp op₁ x y) (fun c s₃ => wpAny M A (truthy c)
      (fun t s₄ => if t then wpG b M A (eval r₂ env) (fun z s₅ => wpG b M A (compareOp op₂ y z) (fun c s₆ => wpAny M A (truthy c) Q E s₆) E s₅) E s₄ else Q false s₄) E s₃) E s₂) E s₁) E s)
    (hm : lastMarks [op₁, op₂] [r₁, r₂] = false) : wpG b M A (isTrue (.Compare l [op₁, op₂] [r₁, r₂] pos) env whole) Q E s := by
  show wpG b M A (eval l env >>= fun x => testChain pos x [op₁, op₂] (markedEach [op₁, op₂] [r₁, r₂] (evalEach [r₁, r₂] env))) Q E s
  rw [markedEach_of_false _ _ _ hm]
  refine g_bind (g_mono h (fun x s₁ h₁ => ?_) fun _ _ z => z)
  show wpG b M A (holding [x] (eval r₁ env) >>= fun rv => standAt pos >>= fun _ => holding [x, rv] (compareOp op₁ x rv) >>= fun c => release [x, rv] [c] >>= fun _ =>
    holding [c, rv] (truthy c) >>= fun t => if t = true then testChain pos rv [op₂] [eval r₂ env] else pure false) Q E s₁
  refine g_bind (g_holding (g_mono h₁ (fun y s₂ h₂ => g_stand (g_bind (g_holding (g_mono h₂ (fun c s₃ h₃ => g_then (wpAny_release' ?_)) fun _ _ z => z)))) fun _ _ z => z))
  refine g_bind (g_holding (g_mono (g_of h₃) (fun t s₄ h₄ => ?_) fun _ _ z => z))
  cases t with
  | false => exact g_pure h₄
  | true =>
    show wpG b M A (holding [y] (eval r₂ env) >>= fun rv => standAt pos >>= fun _ => operate [y, rv] (compareOp op₂ y rv) >>= fun c => holding [c] (truthy c)) Q E s₄
    exact g_bind (g_holding (g_mono h₄ (fun z s₅ h₅ => g_stand (g_bind (g_operate (g_mono h₅ (fun c s₆ h₆ => g_holding (g_of h₆)) fun _ _ z => z)))) fun _ _ z => z))

/-! ### arguments and calls -/
theorem g_spliced_cons {x : Sem Value} {rest : List (Bool × Sem Value)} {Q : List Value → Shared → Prop} (h : wpG b M A x (fun v s₁ => wpG b M A (spliced rest) (fun vs s₂ => Q (v :: vs) s₂) E s₁) E s) : wpG b M A (spliced ((false, x) :: rest)) Q E s := by
  rw [spliced]
  refine g_bind (g_mono h (fun v s₁ h₁ => ?_) fun _ _ z => z)
  simp only [Bool.false_eq_true, if_false]
  exact g_bind (g_pure (g_bind (g_holding (g_mono h₁ (fun vs s₂ h₂ => g_pure h₂) fun _ _ z => z))))
theorem g_evalArgs {f : Value} {l : List (Bool × Sem Value)} {Q : Args → Shared → Prop} (h : wpG b M A (spliced l) (fun vs s' => Q ⟨vs, []⟩ s') E s) (hp : l.any (·.1) = false) : wpG b M A (evalArgs f true l []) Q E s := by
  cases l with
  | nil =>
    unfold evalArgs
    refine g_bind (g_mono h (fun vs s' h' => ?_) fun _ _ z => z)
    exact g_bind (g_pure (g_holding (g_bind (g_pure (g_bind (g_pure (g_pure h')))))))
  | cons x r =>
    obtain ⟨q, x⟩ := x
    cases q with
    | true => simp at hp
    | false =>
      unfold evalArgs
      show wpG b M A (spliced ((false, x) :: r) >>= _) Q E s
      refine g_bind (g_mono h (fun vs s' h' => ?_) fun _ _ z => z)
      exact g_holding (g_bind (g_pure (g_bind (g_pure (g_pure h')))))
theorem g_callWith {pos : Pos} {f : Value} {first : List Value} {Q : Value → Shared → Prop} {P : Heap → Prop} {args : List (Bool × Sem Value)} (hplain : args.any (·.1) = false)
    (hk : ∀ h, P h → ∃ k, (k = Keeper.frame ∨ k = Keeper.machine ∨ k = Keeper.boundFrame) ∧ Looks M h (keeperOf f) k)
    (h : wpG b M A (evalArgs f true args []) (fun a s₁ => P s₁.heap ∧ wpG b M A (call f (first ++ a.pos) a.kw) Q E s₁) E s) : wpG b M A (callWith pos f first args []) Q E s := by
  unfold callWith
  refine g_bind (g_holding (g_mono h (fun a s₁ h₁ => g_stand ?_) fun _ _ z => z))
  obtain ⟨k, hk', L⟩ := hk _ h₁.1
  simp only [hplain]
  refine g_then (L.here ?_)
  have tail : ∀ {t : Sem Value}, wpG b M A t Q E s₁ → wpG b M A (t >>= fun r => holding [r] point >>= fun _ => pure r) Q E s₁ :=
    fun ht => g_bind (g_mono ht (fun r s₂ hr => g_then (wpAny_holding (wpAny_point (g_pure hr)))) fun _ _ z => z)
  have marked (mk : Value) : wpG b M A (callMarked mk f (first ++ a.pos) a.kw) Q E s₁ := by unfold callMarked; exact g_keep h₁.2
  rcases hk' with rfl | rfl | rfl <;> (repeat' split) <;> first | exact tail h₁.2 | exact tail (marked _) | exact tail (g_operate h₁.2)

theorem g_method {o : Expr} {apos pos : Pos} {args : List Expr} {name : Str} {pl : Sem Bool} {Q : Value → Shared → Prop}
    (h : wpG b M A (eval o env) (fun ov s₁ => wpAny M A (getMethod ov name pl) (fun fx s₂ => wpG b M A (callWith pos fx.1 fx.2 (backTo pos (starEach args env)) (backToKw pos (keywordEach [] env))) Q E s₂) E s₁) E s)
    (he : eval (.Call (.Attribute o name apos) args [] pos) env = (do
      let ov ← eval o env
      standAt apos.atName
      let (f, first) ← holding [ov] (getMethod ov name pl)
      callWith pos f first (backTo pos (starEach args env)) (backToKw pos (keywordEach [] env)))) :
    wpG b M A (eval (.Call (.Attribute o name apos) args [] pos) env) Q E s := by
  rw [he]
  exact g_bind (g_mono h (fun ov s₁ h₁ => g_stand (g_bind (g_holding (g_mono (g_of h₁) (fun fx s₂ h₂ => h₂) fun _ _ z => z)))) fun _ _ z => z)

/-! ### displays, subscripts -/
theorem g_Tuple {elts : List Expr} {k : Nat} {pos : Pos} {Q : Value → Shared → Prop}
    (h : wpG b M A (spliced (backTo pos (starEach elts env))) (fun vs s₁ => vs.length ≤ sizeLine ∧ Q (.ref s₁.heap.objs.size) { s₁ with heap := s₁.heap.push { cls := .type "tuple", data := .seq vs.toArray } }) E s) : wpG b M A (eval (.Tuple elts k pos) env) Q E s := by
  rw [arm_eval_Tuple]
  exact g_stand (g_bind (g_mono h (fun vs s₁ h₁ => g_of (wpAny_newObj_type h₁.2 (by show vs.toArray.size ≤ sizeLine; rw [List.size_toArray]; exact h₁.1))) fun _ _ z => z))
theorem g_List {elts : List Expr} {pos : Pos} {Q : Value → Shared → Prop}
    (h : wpG b M A (spliced (backTo pos (starEach elts env))) (fun vs s₁ => vs.length ≤ sizeLine ∧ Q (.ref s₁.heap.objs.size) { s₁ with heap := s₁.heap.push { cls := .type "list", data := .seq vs.toArray } }) E s) : wpG b M A (eval (.List elts pos) env) Q E s := by
  rw [arm_eval_List]
  exact g_stand (g_bind (g_mono h (fun vs s₁ h₁ => g_of (wpAny_newObj_type h₁.2 (by show vs.toArray.size ≤ sizeLine; rw [List.size_toArray]; exact h₁.1))) fun _ _ z => z))
theorem g_Subscript {value slice pos} {Q : Value → Shared → Prop} (h : wpG b M A (eval value env) (fun o s₁ => wpG b M A (eval slice env) (fun i s₂ => wpAny M A (subscriptTail value slice o i) Q E s₂) E s₁) E s) : wpG b M A (eval (.Subscript value slice pos) env) Q E s := by
  rw [eval_Subscript]
  exact g_bind (g_mono h (fun o s₁ h₁ => g_bind (g_holding (g_mono h₁ (fun i s₂ h₂ => g_stand (g_of h₂)) fun _ _ z => z))) fun _ _ z => z)
theorem g_Slice {lower upper step : Option Expr} {p : Pos} {Q : Value → Shared → Prop}
    (h : wpG b M A (evalPart lower env) (fun l s₁ => wpG b M A (evalPart upper env) (fun u s₂ => wpG b M A (evalPart step env) (fun st s₃ =>
      Q (.ref s₃.heap.objs.size) { s₃ with heap := s₃.heap.push { cls := .type "slice", data := .fields #[l, u, st] } }) E s₂) E s₁) E s) : wpG b M A (eval (.Slice lower upper step p) env) Q E s := by
  rw [arm_eval_Slice]
  refine g_bind (g_mono h (fun l s₁ h₁ => g_bind (g_holding (g_mono h₁ (fun u s₂ h₂ => g_bind (g_holding (g_mono h₂ (fun st s₃ h₃ => ?_) fun _ _ z => z))) fun _ _ z => z))) fun _ _ z => z)
  exact g_of (wpAny_newObj_type h₃)

/-! ### statements -/
theorem g_execs_cons {st rest} {Q : Flow → Shared → Prop} (h : wpG b M A (exec st env) (fun f s' => match f with | .next => wpG b M A (execs rest env) Q E s' | f => Q f s') E s) : wpG b M A (execs (st :: rest) env) Q E s := by
  rw [execs_cons]
  refine g_bind (g_mono h (fun f s' h' => ?_) fun _ _ z => z)
  cases f <;> first | exact h' | exact g_pure h'
theorem g_If {test body orelse pos} {Q : Flow → Shared → Prop} (h : wpG b M A (isTrue test env (eval test env)) (fun q s₂ => if q then wpG b M A (execs body env) Q E s₂ else wpG b M A (execs orelse env) Q E s₂) E s) : wpG b M A (exec (.If test body orelse pos) env) Q E s := by
  rw [exec_If]
  refine g_stand (g_bind (g_mono h (fun q s₂ h₂ => ?_) fun _ _ z => z))
  cases q <;> exact h₂
theorem g_Return {e pos} {Q : Flow → Shared → Prop} (h : wpG b M A (eval e env) (fun v => Q (.ret v)) E s) : wpG b M A (exec (.Return (some e) pos) env) Q E s := by
  rw [exec_Return_some]
  exact g_stand (g_bind (g_mono h (fun v s' h' => g_pure h') fun _ _ z => z))
theorem g_Assign_Name {x pos' value pos} {Q : Flow → Shared → Prop} (h : wpG b M A (eval value env) (fun v s₁ => wpAny M A (storeName env x v) (fun _ => Q .next) E s₁) E s) (hs : swapsWith value (some (.Name x pos')) pos.line env = pure false) : wpG b M A (exec (.Assign [.Name x pos'] value pos) env) Q E s := by
  rw [exec_Assign_Name env x pos' value pos hs]
  exact g_stand (g_bind (g_mono h (fun v s₁ h₁ => g_stand (g_then (wpAny_bindName (wpAny_mono h₁ (fun _ _ z => g_pure z) fun _ _ z => z)))) fun _ _ z => z))
theorem g_Assign_Attribute {o attr pos' value pos} {Q : Flow → Shared → Prop} (h : wpG b M A (eval value env) (fun v s₁ => wpG b M A (eval o env) (fun ov s₂ => wpAny M A (setAttr ov attr v) (fun _ => Q .next) E s₂) E s₁) E s)
    (hs : swapsWith value (some (.Attribute o attr pos')) pos.line env = pure false) : wpG b M A (exec (.Assign [.Attribute o attr pos'] value pos) env) Q E s := by
  rw [plainObj_exec_Assign_Attribute o attr pos' value pos hs]
  refine g_stand (g_bind (g_mono h (fun v s₁ h₁ => g_bind ?_) fun _ _ z => z))
  rw [assign_Attribute]
  exact g_bind (g_holding (g_mono h₁ (fun ov s₂ h₂ => g_stand (g_then (wpAny_holding (wpAny_mono h₂ (fun _ s₃ h₃ => g_of (wpAny_release' (g_pure h₃))) fun _ _ z => z)))) fun _ _ z => z))
theorem g_Expr {prog : Program} {w : World} {e pos} {Q : Flow → Shared → Prop} (h : wpG b (model prog w) A (eval e env) (fun _ => Q .next) E s) (hi : interactive env = false) (hs : swapsWith e none pos.line env = pure false) : wpG b (model prog w) A (exec (.Expr e pos) env) Q E s := by
  rw [exec_Expr env e pos hi hs]
  exact g_stand (g_bind (g_mono h (fun v s' h' => g_of (wpAny_dropValue h')) fun _ _ z => z))
theorem g_runOwn {c : Code} {h : Option Value} {Q : Flow → Shared → Prop} (hc : codeG b M (A.mark h) c (fun r s' => match r with | .ok f => Q f s' | .error e => cameBackBy M A env E e s') s) (hnb : h ≠ some byPass := by intro x; cases x) : wpG b M A (runOwn c env h) Q E s := by
  unfold runOwn
  exact g_onRaise (g_run hc hnb)
theorem g_While {test body orelse pos} {Q : Flow → Shared → Prop} (h : codeG b M A (.whileLoop test body orelse env) (fun r s' => match r with | .ok f => Q f s' | .error e => cameBackBy M A env E e s') s) : wpG b M A (exec (.While test body orelse pos) env) Q E s := by
  rw [exec_While]; exact g_stand (g_runOwn h)
theorem g_For {target iter body orelse pos} {Q : Flow → Shared → Prop} (h : wpG b M A (eval iter env) (fun x s₁ => wpAny M A (pyIter x) (fun it s₂ => codeG b M A (.forLoop target it body orelse env) (fun r s' => match r with | .ok f => Q f s' | .error e => cameBackBy M A env E e s') s₂) E s₁) E s)
    (hs : ∀ x, foldedSetIterable iter env x = pure x) : wpG b M A (exec (.For target iter body orelse pos) env) Q E s := by
  rw [exec_For]
  exact g_stand (g_bind (g_mono h (fun x s₁ h₁ => g_then (wpAny_of_eq (hs x) (g_stand (g_then (wpAny_holding (wpAny_mono h₁ (fun it s₂ h₂ => g_runOwn h₂) fun _ _ z => z)))))) fun _ _ z => z))
theorem g_noted {m : Sem α} {Q : α → Shared → Prop} (h : wpG b M A m Q (notedBy M A env E) s) : wpG b M A (m.onRaise fun x => do noteFrame x env; theTreesLotGoes x) Q E s :=
  g_onRaise (g_mono h (fun _ _ q => q) fun _ _ hx => wpAny_bind (wpAny_mono hx (fun _ _ e => wpAny_theTreesLotGoes e) fun _ _ e => e))
end

section
variable {b : Bool} {prog : Program} {w : World} {A : Around} {E : Value → Shared → Prop} {R : Result → Shared → Prop} {s : Shared} {env : Env}

theorem cg_while {test body} (I : Nat → Shared → Prop)
    (turn : ∀ n s, I n s → wpG b (model prog w) A (isTrue test env (eval test env)) (fun q s₂ =>
        if q then wpG b (model prog w) A (execs body env) (fun f s₃ => match f with
            | .next | .cont => ∃ m, m < n ∧ I m s₃
            | .brk => R (.ok .next) s₃
            | .ret v => R (.ok (.ret v)) s₃) (notedBy (model prog w) A env fun e s' => R (.error e) s') s₂
        else R (.ok .next) s₂) (notedBy (model prog w) A env fun e s' => R (.error e) s') s)
    (n : Nat) (h : I n s) : codeG b (model prog w) A (.whileLoop test body [] env) R s := by
  refine cg_loop rfl rfl I (fun n s hI => ?_) n h
  show wpG b _ A ((whileTurn test body [] env).onRaise (fun x => do noteFrame x env; theTreesLotGoes x)) _ _ s
  refine g_noted ?_
  simp only [whileTurn]
  refine g_bind (g_mono (turn n s hI) (fun q s₂ h₂ => ?_) fun _ _ h' => h')
  cases q with
  | false =>
    simp only [Bool.false_eq_true, if_false] at h₂ ⊢
    exact g_then (wpAny_execs_nil (g_pure h₂))
  | true =>
    simp only [if_true] at h₂ ⊢
    refine g_bind (g_mono h₂ (fun f s₃ h₃ => ?_) fun _ _ h' => h')
    cases f with
    | next => exact g_pure (.inl ⟨rfl, h₃⟩)
    | cont => exact g_pure (.inl ⟨rfl, h₃⟩)
    | brk => exact g_pure h₃
    | ret v => exact g_pure h₃

theorem cg_block_nil {R : Result → Shared → Prop} (h : R (.ok .next) s) : codeAny (model prog w) A (.block [] env) R s := codeAny_block (wpAny_execs_nil h)

theorem cg_for {target it body} (I : Nat → Shared → Prop)
    (turn : ∀ n s, I n s → wpAny (model prog w) A (pyNext it) (fun r s₁ => match r with
      | none => R (.ok .next) s₁
      | some v => wpAny (model prog w) A (assign target env v) (fun _ s₂ => wpG b (model prog w) A (execs body env) (fun f s₃ => match f with
          | .next | .cont => ∃ m, m < n ∧ I m s₃
          | .brk => R (.ok .next) s₃
          | .ret v => R (.ok (.ret v)) s₃) (notedBy (model prog w) A env fun e s' => R (.error e) s') s₂) (notedBy (model prog w) A env fun e s' => R (.error e) s') s₁) (notedBy (model prog w) A env fun e s' => R (.error e) s') s)
    (n : Nat) (h : I n s) (ht : ∀ v, letOwnedTupleGo target it v = pure ()) : codeG b (model prog w) A (.forLoop target it body [] env) R s := by
  refine cg_loop rfl rfl I (fun n s hI => ?_) n h
  show wpG b _ A ((forTurn target it body [] env).onRaise (fun x => do noteFrame x env; theTreesLotGoes x)) _ _ s
  refine g_noted ?_
  simp only [forTurn]
  refine g_stand (g_bind (g_onRaise (g_mono (g_of (turn n s hI)) (fun r s₁ h₁ => ?_) fun _ _ h' => wpAny_standAt h')))
  cases r with
  | none => exact g_pure (.inr ⟨rfl, cg_of (cg_block_nil h₁)⟩)
  | some v =>
    refine g_then (wpAny_of_eq (ht v) ?_)
    refine g_then (wpAny_mono h₁ (fun _ s₂ h₂ => g_bind (g_mono h₂ (fun f s₃ h₃ => ?_) fun _ _ h' => h')) fun _ _ h' => h')
    cases f with
    | next => exact g_pure (.inl ⟨rfl, h₃⟩)
    | cont => exact g_pure (.inl ⟨rfl, h₃⟩)
    | brk => exact g_pure h₃
    | ret v => exact g_pure h₃

theorem cg_func {body}
    (h : wpG b (model prog w) (A.deeper env) (execs body env) (fun f s' => R (.ok (.ret (match f with | .ret v => v | _ => .none))) s')
      (fun e s' => wpAny (model prog w) (A.deeper env) (leaving env e) (fun _ s'' => R (.error e) s'') (fun e' s'' => R (.error e') s'') s') s) :
    codeG b (model prog w) A (.func body env) R s := by
  refine cg_of_tree rfl ?_
  show wpG b _ (A.deeper env) (point >>= fun _ => (execs body env).onRaise (leaving env) >>= fun f => match f with | .ret v => ret v | _ => ret .none) _ _ s
  refine g_then (wpAny_point (g_bind ?_))
  refine .mk ?_
  intro Γ p hΓ hg
  rw [Sem.wp_onRaise]
  refine Sem.wp_mono _ Γ _ (fun f p' s' h' => ?_) (fun e p' s' h' => h' Γ p' hΓ) p _ (h.run Γ p hΓ hg)
  cases f <;> exact g_pure h'

theorem cg_call_function {a : Addr} {args : Args} {o : Obj} {fd : FuncData} {body : List Stmt} (hroom : A.depth < recursionLimit)
    (ho : s.heap.get? a = some o)
    (hd' : o.data = .func fd) (hco : fd.scope.isCoroutine = false) (hgen : fd.scope.isGenerator = false) (hbody : fd.body = .stmts body) (hcd : s.heap.CodeRec fd.code fd.qualname)
    (h : wpAny (model prog w) A.in1 (bindArgs fd args) (fun binds s₁ =>
      wpAny (model prog w) A.in1 (newFunctionEnv fd.scope fd.globals fd.closure binds (fd.qualname ++ ".<locals>.") (some a) fd.code none fd.builtins)
        (fun env s₂ => s₂.heap.NoLimit ∧ codeG b (model prog w) A (.func body env) R s₂) (fun e s' => R (.error e) s') s₁) (fun e s' => R (.error e) s') s) :
    codeG b (model prog w) A (.call (.ref a) args) R s := by
  refine cg_of_tree rfl ?_
  show wpG b _ A.in1 (callAny (.ref a) args) _ _ s
  simp only [callAny]
  refine g_then (wpAny_load ho ?_)
  obtain ⟨c, oc, vs, tq, hc, hoc, hdc, hq⟩ := hcd
  simp only [hd', callFunction, hco, hgen, hbody, hc]
  rw [hc] at h
  refine g_then (m := field (.ref c) 1) (wpAny_field hoc hdc hq (g_bind (g_pure ?_)))
  exact g_then (wpAny_mono h (fun binds s₁ h₁ => g_then (wpAny_mono h₁ (fun env s₂ h₂ => g_then (wpAny_enterFrame h₂.1 hroom
    (g_pure (And.intro rfl h₂.2)))) fun _ _ h' => h')) fun _ _ h' => h')
end
end Mine
end

section
open PySem PySem.W PyProof.Rows PySem.Calls
namespace Mine
section
variable {b : Bool} {M : Model} {A : Around} {E : Value → Shared → Prop} {s : Shared} {env : Env}

noncomputable def compPostG (M : Model) (A : Around) (E : Value → Shared → Prop) (Q : Value → Shared → Prop) (acc : Value) (C : Addr) (r : Result) (s' : Shared) : Prop :=
  match r with
  | .ok _ => ∃ m, s'.heap.Ns C m ∧ ∀ h', Heap.SameBut C s'.heap h' → Q acc { s' with heap := h' }
  | .error x => ∃ m, s'.heap.Ns C m ∧ ∀ h', Heap.SameBut C s'.heap h' → ∀ cenv : Env, cenv.locals = C → wpAny M A (PySem.passOn "comprehension.variables-let-go" x cenv : Sem Value) (fun _ _ => False) E { s' with heap := h' }

theorem g_comprehension {e : Expr} {scope : Scope} {pos : Pos} {newAcc first : Sem Value} {g : Comprehension} {gs : List Comprehension} {cl : List (Str × Addr)} {Q : Value → Shared → Prop}
    (hcl : clausesOf e = g :: gs) (hs : ∀ x, foldedSetIterable g.iter env x = pure x) (hclos : closureFor scope env = pure cl)
    (hkind : scope.kind = .function) (hnames : ∀ x ∈ scope.names, x.2 = .local → scope.names.lookup x.1 = some .local)
    (h : wpG b M A first (fun x s₁ => wpAny M A (pyIter x) (fun it s₂ => wpAny M A newAcc (fun acc s₃ =>
      wpAny M A (newFunctionEnv scope env.globals cl [] env.qual none .none (some env)) (fun cenv s₄ =>
        codeG b M A (.compStart e 0 it acc { cenv with scope := relabel scope env }) (compPostG M A E Q acc cenv.locals) s₄) E s₃) E s₂) E s₁) E s) :
    wpG b M A (comprehension e scope env pos newAcc false first) Q E s := by
  unfold comprehension
  rw [hclos, hcl]
  refine g_bind (g_mono h (fun x s₁ h₁ => g_stand (g_then (wpAny_of_eq (hs x) (g_then (wpAny_holding (wpAny_mono h₁ (fun it s₂ h₂ => ?_) fun _ _ z => z)))))) fun _ _ z => z)
  show wpG b M A (newAcc >>= _) Q E s₂
  refine g_then (wpAny_mono h₂ (fun acc s₃ h₃ => g_bind (g_pure (g_then (wpAny_mono h₃ (fun cenv s₄ h₄ => ?_) fun _ _ z => z)))) fun _ _ z => z)
  dsimp only
  have hv : ∀ x ∈ (scope.names.filter fun x => (x.2 == .local || x.2 == .cell) && x.1 != (".0" : Str)).reverse, x.2 = .local →
      Env.kindOf { cenv with scope := relabel scope env } x.1 = some .local := fun x hx hl => lookup_relabel_local (hnames x (List.mem_filter.mp (List.mem_reverse.mp hx)).1 hl)
  refine g_holding (g_bind (g_attempt (g_holding (g_run (cg_mono h₄ fun r s' hr => ?_)))))
  cases r with
  | ok f =>
    obtain ⟨m, hn, hr⟩ := hr
    exact g_then (wpAny_holding (wpAny_comp_letGo (cenv := { cenv with scope := relabel scope env }) hkind _ s' m hv hn fun h' m' _ hs' => g_pure (hr h' hs')))
  | error x =>
    obtain ⟨m, hn, hr⟩ := hr
    exact g_then (wpAny_holding (wpAny_comp_letGo (cenv := { cenv with scope := relabel scope env }) hkind _ s' m hv hn fun h' m' _ hs' => g_of (wpAny_mono (hr h' hs' _ rfl) (fun _ _ f => f.elim) fun _ _ y => y)))
end

section
variable {b : Bool} {prog : Program} {w : World} {A : Around} {E : Value → Shared → Prop} {R : Result → Shared → Prop} {s : Shared} {env : Env}

theorem g_notedAt {α : Type} {M : Model} {m : Sem α} {pos : Pos} {Q : α → Shared → Prop} (h : wpG b M A m Q (notedBy M A env E) s) : wpG b M A (m.onRaise fun x => do noteFrame x env; standAt pos) Q E s :=
  g_onRaise (g_mono h (fun _ _ q => q) fun _ _ hx => wpAny_bind (wpAny_mono hx (fun _ _ e => wpAny_standAt e) fun _ _ e => e))

theorem cg_compStart {elt target iter ifs rest scope pos it acc}
    (h0 : codeG b (model prog w) A (.compLoop (.ListComp elt (⟨target, iter, ifs, 0⟩ :: rest) scope pos) 0 it acc env) R s)
    (h : wpAny (model prog w) A (pyIter it) (fun it' s' => codeG b (model prog w) A (.compLoop (.ListComp elt (⟨target, iter, ifs, 0⟩ :: rest) scope pos) 0 it' acc env) R s')
      (notedBy (model prog w) A env fun x s' => R (.error x) s') s) :
    codeG b (model prog w) A (.compStart (.ListComp elt (⟨target, iter, ifs, 0⟩ :: rest) scope pos) 0 it acc env) R s := by
  refine cg_of_tree rfl ?_
  show wpG b _ _ ((compStart (.ListComp elt (⟨target, iter, ifs, 0⟩ :: rest) scope pos) 0 it acc env).onRaise (fun x => do noteFrame x env; standAt theWindowsPlace)) _ _ s
  refine g_notedAt ?_
  unfold compStart
  refine g_then (wpAny_askSetting ?_)
  split
  · first
      | exact g_bind (g_pure (g_pure (And.intro rfl h0)))
      | exact g_pure (And.intro rfl h0)
  · first
      | exact g_then (wpAny_rule (g_stand (g_then (wpAny_mono h (fun it' s' h' => g_pure (And.intro rfl h')) fun _ _ x => x))))
      | (refine g_then (wpAny_rule ?_); exact g_bind (g_stand (g_then (wpAny_mono h (fun it' s' h' => g_pure (And.intro rfl h')) fun _ _ x => x))))

theorem cg_compLoop {elt target iter : Expr} {ifs : List Expr} {scope : Scope} {pos : Pos} {it acc : Value} (I : Nat → Shared → Prop)
    (turn : ∀ n s, I n s → wpAny (model prog w) A (pyNext it) (fun r s₁ => match r with
      | none => R (.ok .next) s₁
      | some v => wpAny (model prog w) A (assign target env v) (fun _ s₂ =>
          wpG b (model prog w) A (forIn ifs true fun c r => if r = true then do let ok ← isTrue c env (eval c env); pure (ForInStep.yield ok) else pure (ForInStep.yield r)) (fun ok s₃ =>
            if ok = true then wpG b (model prog w) A (eval elt env) (fun x s₄ =>
              wpAny (model prog w) A (call (.builtin "list.append") [acc, x]) (fun _ s₅ => ∃ m, m < n ∧ I m s₅) (notedBy (model prog w) A env fun e s' => R (.error e) s') s₄) (notedBy (model prog w) A env fun e s' => R (.error e) s') s₃
            else ∃ m, m < n ∧ I m s₃) (notedBy (model prog w) A env fun e s' => R (.error e) s') s₂) (notedBy (model prog w) A env fun e s' => R (.error e) s') s₁) (notedBy (model prog w) A env fun e s' => R (.error e) s') s)
    (n : Nat) (h : I n s) (ht : ∀ v, letOwnedTupleGo target it v = pure ()) :
    codeG b (model prog w) A (.compLoop (.ListComp elt [⟨target, iter, ifs, 0⟩] scope pos) 0 it acc env) R s := by
  refine cg_loop rfl rfl I (fun n s hI => ?_) n h
  show wpG b _ A ((compTurn (.ListComp elt [⟨target, iter, ifs, 0⟩] scope pos) 0 it acc env).onRaise (fun x => do noteFrame x env; theTreesLotGoes x)) _ _ s
  refine g_noted ?_
  rw [compTurn_list]
  refine g_stand (g_then (wpAny_mono (turn n s hI) (fun r s₁ h₁ => ?_) fun _ _ h' => h'))
  cases r with
  | none => exact g_pure h₁
  | some v =>
    refine g_then (wpAny_of_eq (ht v) ?_)
    refine g_then (wpAny_mono h₁ (fun _ s₂ h₂ => g_bind (g_mono h₂ (fun ok s₃ h₃ => ?_) fun _ _ h' => h')) fun _ _ h' => h')
    cases ok with
    | false => exact g_pure (.inl ⟨rfl, h₃⟩)
    | true =>
      exact g_bind (g_bind (g_mono h₃ (fun x s₄ h₄ => g_then (wpAny_mono h₄ (fun _ s₅ h₅ => g_pure (g_pure (.inl ⟨rfl, h₅⟩))) fun _ _ h' => h')) fun _ _ h' => h'))
theorem g_tests_nil {Q : Bool → Shared → Prop} (h : Q true s) :
    wpG b (model prog w) A (forIn ([] : List Expr) true fun c r => if r = true then do let ok ← isTrue c env (eval c env); pure (ForInStep.yield ok) else pure (ForInStep.yield r)) Q E s := g_pure h
theorem g_tests_one {c : Expr} {Q : Bool → Shared → Prop} (h : wpG b (model prog w) A (isTrue c env (eval c env)) Q E s) :
    wpG b (model prog w) A (forIn [c] true fun c r => if r = true then do let ok ← isTrue c env (eval c env); pure (ForInStep.yield ok) else pure (ForInStep.yield r)) Q E s := by
  simp only [List.forIn_cons, List.forIn_nil, if_true]
  exact g_bind (g_bind (g_mono h (fun q s' hb => g_pure (g_pure hb)) fun _ _ x => x))
end
end Mine
end

section
open PySem PySem.W PyProof.Rows PySem.Calls
namespace Mine

/-! ## the head: the law's call is asked of a clean stack alone -/
theorem caller_ok : gO true (⟨.builtin "claim.caller" {}, none, none, [], none⟩ : Ctx) := fun _ => ⟨by decide +kernel, fun x hx => by cases hx⟩

theorem caller_ends {prog : Program} {w : World} {t : Sem Fin} {s : Shared} {R : Result → Shared → Prop} (hz : s.asleep)
    (h : wpG true (model prog w) callerA t (fun fin s' => ∃ f, fin = .done f ∧ (R (.ok f) s' ∧ leftWithCleanup s'.gens = false)) (fun e s' => R (.error e) s' ∧ leftWithCleanup s'.gens = false) s) :
    ∃ n r s' s'', runN (denote table) prog w n s ⟨t, .builtin "claim.caller" {}, default, []⟩ = .halted (outcomeOf r) s' ∧
      schedN (denote table) prog w n (.single s ⟨t, .builtin "claim.caller" {}, default, []⟩) = .halted (outcomeOf r) s' ∧ s'.forget = s''.forget ∧ R r s'' := by
  have key : Sem.wp (model prog w) ⟨.builtin "claim.caller" {}, none, none, [], none⟩ t (Sem.finPost (model prog w) ⟨.builtin "claim.caller" {}, none, none, [], none⟩ fun r s' => R r s' ∧ leftWithCleanup s'.gens = false)
      (fun e _ s' => R (.error e) s' ∧ leftWithCleanup s'.gens = false) default s := by
    refine Sem.wp_mono _ _ _ (fun fin p' s' h' => ?_) (fun _ _ _ h' => h') _ s (h.run _ default caller_in caller_ok)
    obtain ⟨f, rfl, hf⟩ := h'
    exact hf
  obtain ⟨n, r, s₁, s₂, h1, h2, h3, h4⟩ := wp_halts_full (M := model prog w) (R := R) hz key
  exact ⟨n, r, s₂, s₁, h2, h1, h3, h4⟩

noncomputable def treeOf (name : Str) (vs : List Value) : Sem Fin := do match ← nsGet mainNs name with
  | some f => do ret (← PySem.call f vs)
  | none => unsupported "claim.caller:no-such-global"

theorem call_ends {c : ClaimW} {name : Str} {w : World} {s : Shared} {free : Addr → Prop} {gens : Prop} {kept : Heap → Prop} {mg : Str → Option Value} {f : Value} (hz : s.asleep) (hgens : s.gens = #[])
    (hspec : ∀ args, c.pre args = true → WData.layableAll args = true → ∀ ord : List DictEntry → List DictEntry, (∀ l, (ord l).Perm l) →
      ∃ vs s₁ mg f, layAllW c.records (classAt s.heap) w.params ord args s = some (vs, s₁) ∧ s₁.heap.Ns mainGlobals mg ∧ mg name = some f ∧
        wpG true (model c.prog w) callerA (PySem.call f vs) (fun v s' => c.Ends s args vs s₁ (.ok (.ret v)) s' ∧ s'.os = s.os ∧ AllBare s'.gens ∧ kept s'.heap)
          (fun e s' => c.Ends s args vs s₁ (.error e) s' ∧ s'.os = s.os ∧ AllBare s'.gens ∧ kept s'.heap) s₁) :
    c.CallFrom (fun vs => ⟨treeOf name vs, .builtin "claim.caller" {}, default, []⟩) w free gens kept s := by
  intro args hpre hlay ord hord
  obtain ⟨vs, s₁, mg, f, hlaid, hg, hf, hcode⟩ := hspec args hpre hlay ord hord
  have hal := layAllW_rest _ _ _ hlaid
  have run := caller_ends (prog := c.prog) (w := w) (t := treeOf name vs) (s := s₁) (R := fun r s' => c.Ends s args vs s₁ r s' ∧ s'.os = s.os ∧ kept s'.heap) (Shared.asleep_of_life hal.2.2.2 hz) (by
    refine g_then (wpAny_nsGet hg ?_)
    rw [hf]
    refine g_bind (g_mono hcode (fun v s' h' => g_pure ⟨_, rfl, ⟨h'.1, h'.2.1, h'.2.2.2⟩, leftWithCleanup_false_of_bare h'.2.2.1⟩) fun e s' h' => ⟨⟨h'.1, h'.2.1, h'.2.2.2⟩, leftWithCleanup_false_of_bare h'.2.2.1⟩))
  obtain ⟨k, r, s', s'', hrun, hsched, hfo, hcase, hos, hkp⟩ := run
  obtain ⟨eh, _, _, eo, _⟩ := Shared.forget_eq hfo
  have hcase' := hcase.congr eh
  have hkp' : kept s'.heap := eh ▸ hkp
  have hlife : s'.heap.life = s.heap.life := (runN_life _ _ _ hrun).trans hal.2.2.2
  refine ⟨vs, s₁, hlaid, k, _, s', hsched, ?_, (fun _ i x hx => by rw [hgens] at hx; simp at hx), hkp', by rw [hlife], Shared.rest_eq (eo.trans hos)⟩
  rcases hcase' with ⟨v, rfl, d1, d2, d3, d4, d5⟩ | ⟨e, ob, cls, rfl, d1, d2, d3, d4, d5⟩
  · exact .inl ⟨v, rfl, d1, d2, d3, fun b o y _ => d4 b o y, d5⟩
  · exact .inr ⟨e, ob, cls, rfl, d1, d2, d3, d4, fun b o y _ => d5 b o y⟩

noncomputable abbrev WalkG (q : Program) (loose : List Str) (XP : (Str → Option Value) → Heap → Prop) (YP : World → Heap → Prop) (r : RowW) (d : DefRec) (kwd : List (Str × Expr)) : Prop :=
  ∀ (w : World) (s₀ s₁ : Shared) (mg mb : Str → Option Value), Ground q loose r.records XP w s₀ mg mb s₁.heap → YP w s₁.heap → ∀ (a : Addr) (o : Obj) (pm cd doc dV kV : Value), s₁.heap.get? a = some o →
    o.data = .func { docDef d.name d.params d.body d.scope pm cd doc with defaults := dV, kwdefaults := kV } → s₁.heap.CodeRec cd d.name → Dflts mg s₁.heap d.params kwd dV kV → mg d.name = some (.ref a) → s₁.gens = #[] →
    ∀ (args : List WData) (vals : List Value) (as : List Addr), r.claim.pre args = true → WData.layableAll args = true → ReadsAllW r.records (classAt s₀.heap) s₁.heap vals args as → WellAll w.params s₁.heap vals args → (∀ a ∈ as, (a == sysModules) = false) →
      wpG true (model r.prog w) callerA (PySem.call (.ref a) vals) (fun v s' => GoodWG r.claim (classAt s₀.heap) (ExcName.means s₀.heap) args s₁ (.ok (.ret v)) s')
        (fun e s' => GoodWG r.claim (classAt s₀.heap) (ExcName.means s₀.heap) args s₁ (.error e) s') s₁

theorem holds_openG {r : OpenRow} {q : Program} {loose : List Str} {Xt : Shared → Bool} {XP : (Str → Option Value) → Heap → Prop} {α : Type} {Yf : Shared → α} {Ya : World → α} {YP : World → Heap → Prop} {d : DefRec} {kwd : List (Str × Expr)} {N : Nat}
    (left : LeftO r.prog q loose Xt Yf Ya N) (hY : ∀ w s, Yf s = Ya w → YP w s.heap) (hYk : ∀ w h h', YP w h → (∀ b o, h.get? b = some o → h'.get? b = some o) → YP w h')
    (hX : ∀ s, Xt s = true → XP (s.heap.nsMap mainGlobals) s.heap) (hXk : ∀ mg h h', XP mg h → (∀ b o, h.get? b = some o → h'.get? b = some o) → XP mg h')
    (hdef : defOf q r.name = some (d, kwd)) (hp : r.prog.theDef r.name = some (d.params, d.body, d.scope)) (hk : kwWritten? d.params.kwonlyargs d.params.kw_defaults = some kwd) (hRf : ∀ s, Xt s = true → RecFacts r.records s.heap) (hwr : (!r.writes || r.records.isEmpty) = true)
    (k1 : r.wellSaid = true) (ok : (chainsOk q && opensWell r.prog && (frees r.toRowW && r.within.isEmpty)) = true) (hb : r.prog.bare) (hw : r.toRowW.promised)
    (call : WalkG q loose XP YP r.toRowW d kwd) : r.Holds := by
  obtain ⟨ok1, k5⟩ := Bool.and_eq_true_iff.mp ok
  obtain ⟨hch, o1⟩ := Bool.and_eq_true_iff.mp ok1
  obtain ⟨k5, k6⟩ := Bool.and_eq_true_iff.mp k5
  obtain ⟨hsame, hu, ha, hap, hm⟩ := frees_parts k5
  have hwi : r.toRowW.claim.within = [] := List.isEmpty_iff.mp k6
  refine ⟨k1, hw, ⟨hb, o1, by show r.toRowW.makers.map _ = []; rw [hm]; rfl⟩, hw.witness, fun w => ⟨(left.behind hX hch w).1, fun s' hs' => ?_⟩⟩
  obtain ⟨s₀, hf, hg0, s, hT, hz, hgens, hg, G00, y⟩ := (left.behind (XP := fun mg h => XP mg h ∧ RecFacts r.records h) (fun s hs => ⟨hX s hs, hRf s hs⟩) hch w).2 s' hs'
  have G0 : Ground q loose [] XP w s (s.heap.nsMap mainGlobals) (s.heap.nsMap builtinsNs) s.heap := ⟨G00.T, G00.B, G00.D, G00.TE, G00.TD, G00.W, G00.X.1, G00.cls, G00.has, G00.apart, G00.once, G00.K⟩
  have RF := G00.X.2
  refine ⟨s₀, hf, hg0, s, hT, fun n hn => ?_, RF.1, RF.2.1, ?_⟩
  · obtain rfl : n = r.name := by split at hn <;> simp_all
    exact pinned_of_view hg G0 hdef hp hk
  · have hgens' : s.gens = #[] := Array.eq_empty_of_size_eq_zero (beq_iff_eq.mp hgens)
    have G : Ground q loose r.records XP w s _ _ s.heap := RF.ground G0
    refine call_ends (c := r.toRowW.claim) (name := r.name) (mg := fun _ => none) (f := .none) hz hgens' fun args hpre hlay ord hord => ?_
    obtain ⟨⟨vs, s₁⟩, hlaid⟩ := Option.isSome_iff_exists.mp (layAllW_isSome (P := w.params) (ord := ord) G.has args r.toRowW.args s (pre_splitW hpre).1)
    have keeps := layAllW_keeps _ _ _ hlaid
    have hal := layAllW_rest _ _ _ hlaid
    obtain ⟨as, hrd, hin, hold⟩ := reads_layAllW hord _ _ _ hlaid hlay s₁.heap (fun _ _ e => e)
    have L : Laid r.records w s s₁ args vs as := ⟨⟨ord, hord, hlaid⟩, hrd, hin, hold, keeps, hal.1.trans hgens', hal.2.2.1⟩
    have G₁ := G.keeps hXk keeps
    obtain ⟨a, o, pm, cd, doc, dV, kV, h1, h2, h3, h4, h5⟩ := G₁.fn hdef
    have hi := ident_freeW hu ha hap
    refine ⟨vs, s₁, _, _, hlaid, G₁.T.g, h1, g_mono (call w s s₁ _ _ G₁ (hYk _ _ _ (hY w s y) keeps) a o pm cd doc dV kV h2 h3 h4 h5 (defOf_name hdef ▸ h1) L.gens args vs as hpre hlay L.reads L.well (L.low G.low)) (fun v s' g => ?_) fun e s' g => ?_⟩
    · obtain ⟨z1, z2, z3⟩ := g.laid (c := r.toRowW.claim) hsame hwi hi L
      exact ⟨z1, z2, z3, fun q => ⟨namesKept_of hT hg r.keeps keeps g.2.1.old, noTable hwr q⟩⟩
    · obtain ⟨z1, z2, z3⟩ := g.laid (c := r.toRowW.claim) hsame hwi hi L
      exact ⟨z1, z2, z3, fun q => ⟨namesKept_of hT hg r.keeps keeps g.2.1.old, noTable hwr q⟩⟩
end Mine
end

section
open PySem PySem.W PyProof.Rows PySem.Calls
set_option maxHeartbeats 8000000
namespace Mine

noncomputable abbrev P00 : Program := PySem.Challenge.rw_no0380_01.row.prog
noncomputable def sA (i : Nat) : Stmt := P00.main.body.getD i (.Pass default)
noncomputable def mA (i j : Nat) : Stmt := match sA i with
  | .ClassDef _ _ _ b _ _ _ _ _ _ _ => b.getD j (.Pass default)
  | s => s
noncomputable def dPs : Stmt → Arguments
  | .FunctionDef _ a _ _ _ _ _ _ _ _ => a
  | _ => ⟨[], [], none, [], [], none, []⟩
noncomputable def dBd : Stmt → List Stmt
  | .FunctionDef _ _ b _ _ _ _ _ _ _ => b
  | _ => []
noncomputable def dSc : Stmt → Scope
  | .FunctionDef _ _ _ _ _ _ s _ _ _ => s
  | _ => default
noncomputable def dPo : Stmt → Pos
  | .FunctionDef _ _ _ _ _ _ _ _ _ p => p
  | _ => default
@[reducible] noncomputable def e (P : Params) (x : Str) (t : Tok) (v : Value) : DictEntry := ⟨PyData.keyHash P x, .str x t, v⟩
@[reducible] noncomputable def tu (a : Array Value) : Obj := { cls := .type "tuple", data := .seq a }
@[reducible] noncomputable def co (a : Array Value) : Obj := { cls := .type "code", data := .fields a }
@[reducible] noncomputable def fn (n q : Str) (s : Stmt) (l : List (Str × NameKind)) (o : List (Str × Const)) (d : Value) (m : Str) (t : Tok) (c : Addr) : Obj :=
  { cls := .type "function", data := .func (fnOf n q (dPs s) (dBd s) ⟨.function, l, false, false, o⟩ d .none .none (.str m t) none (.ref c) .none) }

noncomputable def hd.heap_39 (P : Params) : Frag :=
[(2, { cls := .none, data := .dict #[e P "type.__subclasses__.Exception.0" 232 (.int 46 0), e P "type.__subclasses__.Exception.n" 233 (.int 1 0)] 2 }),
 (3, { cls := .type "dict", data := .dict #[e P "__name__" 165 (.str "law_no0380_01" 671), e P "__doc__" 166 (.none), e P "__package__" 167 (.none), e P "__loader__" 168 (.builtin "__main__.__loader__#opaque"), e P "__spec__" 169 (.none), e P "__annotations__" 170 (.ref 6), e P "__builtins__" 171 (.ref 4), e P "__file__" 173 (.str "/claim/cut.py" 172), e P "__cached__" 174 (.none), e P "_wall" 193 (.ref 21), e P "PostError" 235 (.ref 46), e P "WordFault" 251 (.ref 59), e P "WireFault" 267 (.ref 71), e P "CRLF" 271 (.bytes #[13, 10] 270), e P "lower_code" 278 (.ref 80), e P "lower" 284 (.ref 85), e P "upper_text" 290 (.ref 90), e P "ascii_text" 296 (.ref 95), e P "text_octets" 302 (.ref 100), e P "QUOTE" 306 (.int 34 305), e P "BACKSLASH" 308 (.int 92 307), e P "MOST_DEPTH" 310 (.int 30 309), e P "MOST_FIGURES" 312 (.int 19 311), e P "MOST_COUNT_FIGURES" 314 (.int 10 313), e P "MOST_QUOTED" 316 (.int 72 315), e P "SPECIALS" 318 (.bytes #[40, 41, 123, 37, 42, 34, 92, 93] 317), e P "VALUE_SPECIALS" 320 (.bytes #[40, 41, 123, 34, 93] 319), e P "Atom" 356 (.ref 124), e P "told_value" 362 (.ref 133), e P "is_printable" 369 (.ref 140), e P "is_atom_code" 376 (.ref 147), e P "is_value_code" 383 (.ref 154), e P "is_figure" 390 (.ref 161), e P "number_of_figures" 399 (.ref 168), e P "figures_of" 406 (.ref 175), e P "Wire" 626 (.ref 360), e P "is_quotable" 632 (.ref 369), e P "quoted_octets" 641 (.ref 376), e P "literal_octets" 649 (.ref 384), e P "string_octets" 657 (.ref 392), e P "write_value" 664 (.ref 398), e P "write_line" 670 (.ref 403), e P "_law_take" 681 (.ref 410), e P "_law_bag" 690 (.ref 417), e P "_law_atom" 696 (.ref 422), e P "_law_string" 702 (.ref 427), e P "_law_value" 708 (.ref 432), e P "_law_told" 714 (.ref 437), e P "_law_depth" 720 (.ref 442), e P "_law_spelled" 726 (.ref 447), e P "_law_read" 739 (.ref 454), e P "_law_is_refused" 746 (.ref 461), e P "law" 761 (.ref 468)] 53 }),
 (15, tu #[]),
 (17, tu #[.str "k" 190]),
 (18, tu #[]),
 (20, co #[.str "_wall" 187, .str "_wall" 188, .str "/claim/cut.py" 189, .int 1 0, .int 1 0, .int 0 0, .int 0 0, .int 3 0, .ref 15, .bool true, .int 181 0, .ref 16, .none, .ref 17, .ref 18, .ref 19, .int 191 0, .int 1 0, .str "/claim/cut.py" 192]),
 (21, fn "_wall" "_wall" (sA 0) [("k", .local)] [] .none "__main__" 164 20),
 (22, tu #[.type "Exception"]),
 (29, tu #[.int (-1) 209]),
 (30, tu #[]),
 (32, tu #[.str "self" 213, .str "what" 214, .str "at" 215]),
 (33, tu #[]),
 (35, co #[.str "__init__" 210, .str "PostError.__init__" 211, .str "/claim/cut.py" 212, .int 7 0, .int 3 0, .int 0 0, .int 0 0, .int 3 0, .ref 30, .bool true, .int 181 0, .ref 31, .none, .ref 32, .ref 33, .ref 34, .int 216 0, .int 7 0, .str "/claim/cut.py" 217]),
 (36, fn "__init__" "PostError.__init__" (mA 2 0) [("self", .local), ("what", .local), ("at", .local), ("Exception", .globalImplicit)] [] (.ref 29) "postkeep.errors" 194 35),
 (37, tu #[]),
 (39, tu #[.str "self" 222]),
 (40, tu #[]),
 (42, co #[.str "told" 219, .str "PostError.told" 220, .str "/claim/cut.py" 221, .int 12 0, .int 1 0, .int 0 0, .int 0 0, .int 3 0, .ref 37, .bool true, .int 181 0, .ref 38, .none, .ref 39, .ref 40, .ref 41, .int 223 0, .int 12 0, .str "/claim/cut.py" 224]),
 (43, fn "told" "PostError.told" (mA 2 1) [("self", .local)] [] .none "postkeep.errors" 194 42),
 (44, tu #[.str "at" 226, .str "what" 227]),
 (45, { cls := .type "dict", data := .dict #[e P "__module__" 203 (.str "postkeep.errors" 194), e P "__firstlineno__" 207 (.int 5 206), e P "__init__" 218 (.ref 36), e P "told" 225 (.ref 43), e P "__static_attributes__" 228 (.ref 44), e P "__weakref__" 230 (.ref 47), e P "__doc__" 231 (.none)] 3 }),
 (46, { cls := .type "type", data := .cls { name := "PostError", bases := [.type "Exception"], mro := [.ref 46, .type "Exception", .type "BaseException", .type "object"], ns := 45, qualname := "PostError", subclasses := [.ref 59, .ref 71] }, slots := #[some (.ref 22), none, some (.str "PostError" 196), some (.str "PostError" 204), some (.builtin "Exception.__new__"), some (.bool true)] }),
 (47, { cls := .type "getset_descriptor", data := .fields #[.str "__weakref__" 229, .ref 46, .builtin "ExceptionGroup.__weakref__", .none] }),
 (50, tu #[.ref 46]),
 (57, tu #[]),
 (58, { cls := .type "dict", data := .dict #[e P "__module__" 243 (.str "postkeep.errors" 194), e P "__firstlineno__" 247 (.int 14 246), e P "__static_attributes__" 248 (.ref 57), e P "__doc__" 249 (.none)] 2 }),
 (59, { cls := .type "type", data := .cls { name := "WordFault", bases := [.ref 46], mro := [.ref 59, .ref 46, .type "Exception", .type "BaseException", .type "object"], ns := 58, qualname := "WordFault" }, slots := #[some (.ref 50), none, some (.str "WordFault" 236), some (.str "WordFault" 244), some (.builtin "Exception.__new__"), some (.bool true)] }),
 (62, tu #[.ref 46]),
 (69, tu #[]),
 (70, { cls := .type "dict", data := .dict #[e P "__module__" 259 (.str "postkeep.errors" 194), e P "__firstlineno__" 263 (.int 16 262), e P "__static_attributes__" 264 (.ref 69), e P "__doc__" 265 (.none)] 2 }),
 (71, { cls := .type "type", data := .cls { name := "WireFault", bases := [.ref 46], mro := [.ref 71, .ref 46, .type "Exception", .type "BaseException", .type "object"], ns := 70, qualname := "WireFault" }, slots := #[some (.ref 62), none, some (.str "WireFault" 252), some (.str "WireFault" 260), some (.builtin "Exception.__new__"), some (.bool true)] }),
 (74, tu #[]),
 (76, tu #[.str "code" 275]),
 (77, tu #[]),
 (79, co #[.str "lower_code" 272, .str "lower_code" 273, .str "/claim/cut.py" 274, .int 20 0, .int 1 0, .int 0 0, .int 0 0, .int 3 0, .ref 74, .bool true, .int 181 0, .ref 75, .none, .ref 76, .ref 77, .ref 78, .int 276 0, .int 20 0, .str "/claim/cut.py" 277]),
 (80, fn "lower_code" "lower_code" (sA 7) [("code", .local)] [] .none "postkeep.octets" 268 79),
 (81, tu #[]),
 (84, co #[.str "lower" 279, .str "lower" 280, .str "/claim/cut.py" 281, .int 22 0, .int 1 0, .int 0 0, .int 0 0, .int 3 0, .ref 81, .bool true, .int 181 0, .ref 82, .none, .none, .none, .ref 83, .int 282 0, .int 22 0, .str "/claim/cut.py" 283]),
 (85, fn "lower" "lower" (sA 8) [("octets", .local), ("bytes", .globalImplicit)] [("fast", .str "octets"), ("fast", .str "code")] .none "postkeep.octets" 268 84),
 (86, tu #[]),
 (89, co #[.str "upper_text" 285, .str "upper_text" 286, .str "/claim/cut.py" 287, .int 24 0, .int 1 0, .int 0 0, .int 0 0, .int 3 0, .ref 86, .bool true, .int 181 0, .ref 87, .none, .none, .none, .ref 88, .int 288 0, .int 24 0, .str "/claim/cut.py" 289]),
 (90, fn "upper_text" "upper_text" (sA 9) [("text", .local)] [("fast", .str "text"), ("fast", .str "sign")] .none "postkeep.octets" 268 89),
 (91, tu #[]),
 (94, co #[.str "ascii_text" 291, .str "ascii_text" 292, .str "/claim/cut.py" 293, .int 26 0, .int 1 0, .int 0 0, .int 0 0, .int 3 0, .ref 91, .bool true, .int 181 0, .ref 92, .none, .none, .none, .ref 93, .int 294 0, .int 26 0, .str "/claim/cut.py" 295]),
 (95, fn "ascii_text" "ascii_text" (sA 10) [("octets", .local), ("at", .local), ("range", .globalImplicit), ("len", .globalImplicit), ("WordFault", .globalImplicit)] [("fast", .str "octets"), ("fast", .str "at"), ("fast", .str "code")] .none "postkeep.octets" 268 94),
 (96, tu #[]),
 (99, co #[.str "text_octets" 297, .str "text_octets" 298, .str "/claim/cut.py" 299, .int 31 0, .int 1 0, .int 0 0, .int 0 0, .int 3 0, .ref 96, .bool true, .int 181 0, .ref 97, .none, .none, .none, .ref 98, .int 300 0, .int 31 0, .str "/claim/cut.py" 301]),
 (100, fn "text_octets" "text_octets" (sA 11) [("text", .local), ("at", .local), ("range", .globalImplicit), ("len", .globalImplicit), ("ord", .globalImplicit), ("WordFault", .globalImplicit), ("bytes", .globalImplicit)] [("fast", .str "text"), ("fast", .str "at"), ("fast", .str "sign")] .none "postkeep.octets" 268 99),
 (108, tu #[]),
 (110, tu #[.str "self" 336, .str "text" 337]),
 (111, tu #[]),
 (113, co #[.str "__init__" 333, .str "Atom.__init__" 334, .str "/claim/cut.py" 335, .int 47 0, .int 2 0, .int 0 0, .int 0 0, .int 3 0, .ref 108, .bool true, .int 181 0, .ref 109, .none, .ref 110, .ref 111, .ref 112, .int 338 0, .int 47 0, .str "/claim/cut.py" 339]),
 (114, fn "__init__" "Atom.__init__" (mA 21 0) [("self", .local), ("text", .local)] [] .none "postkeep.wire" 303 113),
 (115, tu #[]),
 (117, tu #[.str "self" 344]),
 (118, tu #[]),
 (120, co #[.str "told" 341, .str "Atom.told" 342, .str "/claim/cut.py" 343, .int 50 0, .int 1 0, .int 0 0, .int 0 0, .int 3 0, .ref 115, .bool true, .int 181 0, .ref 116, .none, .ref 117, .ref 118, .ref 119, .int 345 0, .int 50 0, .str "/claim/cut.py" 346]),
 (121, fn "told" "Atom.told" (mA 21 1) [("self", .local)] [] .none "postkeep.wire" 303 120),
 (122, tu #[.str "text" 348]),
 (123, { cls := .type "dict", data := .dict #[e P "__module__" 328 (.str "postkeep.wire" 303), e P "__firstlineno__" 332 (.int 45 331), e P "__init__" 340 (.ref 114), e P "told" 347 (.ref 121), e P "__static_attributes__" 349 (.ref 122), e P "__dict__" 351 (.ref 125), e P "__weakref__" 353 (.ref 126), e P "__doc__" 354 (.none)] 4 }),
 (124, { cls := .type "type", data := .cls { name := "Atom", bases := [.type "object"], mro := [.ref 124, .type "object"], ns := 123, qualname := "Atom" }, slots := #[none, none, some (.str "Atom" 321), some (.str "Atom" 329), some (.builtin "object.__new__"), some (.bool true)] }),
 (125, { cls := .type "getset_descriptor", data := .fields #[.str "__dict__" 350, .ref 124, .builtin "function.__dict__", .builtin "function.__dict__#set"] }),
 (126, { cls := .type "getset_descriptor", data := .fields #[.str "__weakref__" 352, .ref 124, .builtin "ExceptionGroup.__weakref__", .none] }),
 (129, tu #[]),
 (132, co #[.str "told_value" 357, .str "told_value" 358, .str "/claim/cut.py" 359, .int 52 0, .int 1 0, .int 0 0, .int 0 0, .int 3 0, .ref 129, .bool true, .int 181 0, .ref 130, .none, .none, .none, .ref 131, .int 360 0, .int 52 0, .str "/claim/cut.py" 361]),
 (133, fn "told_value" "told_value" (sA 22) [("value", .local), ("isinstance", .globalImplicit), ("Atom", .globalImplicit), ("bytes", .globalImplicit), ("list", .globalImplicit), ("tuple", .globalImplicit)] [("fast", .str "value"), ("fast", .str "one")] .none "postkeep.wire" 303 132),
 (134, tu #[]),
 (136, tu #[.str "code" 366]),
 (137, tu #[]),
 (139, co #[.str "is_printable" 363, .str "is_printable" 364, .str "/claim/cut.py" 365, .int 62 0, .int 1 0, .int 0 0, .int 0 0, .int 3 0, .ref 134, .bool true, .int 181 0, .ref 135, .none, .ref 136, .ref 137, .ref 138, .int 367 0, .int 62 0, .str "/claim/cut.py" 368]),
 (140, fn "is_printable" "is_printable" (sA 23) [("code", .local)] [] .none "postkeep.wire" 303 139),
 (141, tu #[]),
 (143, tu #[.str "code" 373]),
 (144, tu #[]),
 (146, co #[.str "is_atom_code" 370, .str "is_atom_code" 371, .str "/claim/cut.py" 372, .int 64 0, .int 1 0, .int 0 0, .int 0 0, .int 3 0, .ref 141, .bool true, .int 181 0, .ref 142, .none, .ref 143, .ref 144, .ref 145, .int 374 0, .int 64 0, .str "/claim/cut.py" 375]),
 (147, fn "is_atom_code" "is_atom_code" (sA 24) [("code", .local), ("is_printable", .globalImplicit), ("SPECIALS", .globalImplicit)] [] .none "postkeep.wire" 303 146),
 (148, tu #[]),
 (150, tu #[.str "code" 380]),
 (151, tu #[]),
 (153, co #[.str "is_value_code" 377, .str "is_value_code" 378, .str "/claim/cut.py" 379, .int 66 0, .int 1 0, .int 0 0, .int 0 0, .int 3 0, .ref 148, .bool true, .int 181 0, .ref 149, .none, .ref 150, .ref 151, .ref 152, .int 381 0, .int 66 0, .str "/claim/cut.py" 382]),
 (154, fn "is_value_code" "is_value_code" (sA 25) [("code", .local), ("is_printable", .globalImplicit), ("VALUE_SPECIALS", .globalImplicit)] [] .none "postkeep.wire" 303 153),
 (155, tu #[]),
 (157, tu #[.str "code" 387]),
 (158, tu #[]),
 (160, co #[.str "is_figure" 384, .str "is_figure" 385, .str "/claim/cut.py" 386, .int 68 0, .int 1 0, .int 0 0, .int 0 0, .int 3 0, .ref 155, .bool true, .int 181 0, .ref 156, .none, .ref 157, .ref 158, .ref 159, .int 388 0, .int 68 0, .str "/claim/cut.py" 389]),
 (161, fn "is_figure" "is_figure" (sA 26) [("code", .local)] [] .none "postkeep.wire" 303 160),
 (162, tu #[]),
 (164, tu #[.str "octets" 394, .str "number" 395, .str "code" 396]),
 (165, tu #[]),
 (167, co #[.str "number_of_figures" 391, .str "number_of_figures" 392, .str "/claim/cut.py" 393, .int 70 0, .int 1 0, .int 0 0, .int 0 0, .int 3 0, .ref 162, .bool true, .int 181 0, .ref 163, .none, .ref 164, .ref 165, .ref 166, .int 397 0, .int 70 0, .str "/claim/cut.py" 398]),
 (168, fn "number_of_figures" "number_of_figures" (sA 27) [("octets", .local), ("number", .local), ("code", .local)] [] .none "postkeep.wire" 303 167),
 (169, tu #[]),
 (171, tu #[.str "number" 403]),
 (172, tu #[]),
 (174, co #[.str "figures_of" 400, .str "figures_of" 401, .str "/claim/cut.py" 402, .int 75 0, .int 1 0, .int 0 0, .int 0 0, .int 3 0, .ref 169, .bool true, .int 181 0, .ref 170, .none, .ref 171, .ref 172, .ref 173, .int 404 0, .int 75 0, .str "/claim/cut.py" 405]),
 (175, fn "figures_of" "figures_of" (sA 28) [("number", .local), ("WireFault", .globalImplicit), ("text_octets", .globalImplicit), ("str", .globalImplicit)] [] .none "postkeep.wire" 303 174),
 (183, tu #[.int 0 419]),
 (184, tu #[]),
 (186, tu #[.str "self" 423, .str "data" 424, .str "at" 425]),
 (187, tu #[]),
 (189, co #[.str "__init__" 420, .str "Wire.__init__" 421, .str "/claim/cut.py" 422, .int 81 0, .int 3 0, .int 0 0, .int 0 0, .int 3 0, .ref 184, .bool true, .int 181 0, .ref 185, .none, .ref 186, .ref 187, .ref 188, .int 426 0, .int 81 0, .str "/claim/cut.py" 427]),
 (190, fn "__init__" "Wire.__init__" (mA 29 0) [("self", .local), ("data", .local), ("at", .local)] [] (.ref 183) "postkeep.wire" 303 189),
 (191, tu #[]),
 (193, tu #[.str "self" 432, .str "what" 433]),
 (194, tu #[]),
 (196, co #[.str "fault" 429, .str "Wire.fault" 430, .str "/claim/cut.py" 431, .int 85 0, .int 2 0, .int 0 0, .int 0 0, .int 3 0, .ref 191, .bool true, .int 181 0, .ref 192, .none, .ref 193, .ref 194, .ref 195, .int 434 0, .int 85 0, .str "/claim/cut.py" 435]),
 (197, fn "fault" "Wire.fault" (mA 29 1) [("self", .local), ("what", .local), ("WireFault", .globalImplicit)] [] .none "postkeep.wire" 303 196),
 (198, tu #[]),
 (200, tu #[.str "self" 440]),
 (201, tu #[]),
 (203, co #[.str "peek" 437, .str "Wire.peek" 438, .str "/claim/cut.py" 439, .int 88 0, .int 1 0, .int 0 0, .int 0 0, .int 3 0, .ref 198, .bool true, .int 181 0, .ref 199, .none, .ref 200, .ref 201, .ref 202, .int 441 0, .int 88 0, .str "/claim/cut.py" 442]),
 (204, fn "peek" "Wire.peek" (mA 29 2) [("self", .local), ("len", .globalImplicit)] [] .none "postkeep.wire" 303 203),
 (205, tu #[]),
 (207, tu #[.str "self" 447, .str "octets" 448]),
 (208, tu #[]),
 (210, co #[.str "skip" 444, .str "Wire.skip" 445, .str "/claim/cut.py" 446, .int 91 0, .int 2 0, .int 0 0, .int 0 0, .int 3 0, .ref 205, .bool true, .int 181 0, .ref 206, .none, .ref 207, .ref 208, .ref 209, .int 449 0, .int 91 0, .str "/claim/cut.py" 450]),
 (211, fn "skip" "Wire.skip" (mA 29 3) [("self", .local), ("octets", .local), ("len", .globalImplicit)] [] .none "postkeep.wire" 303 210),
 (212, tu #[]),
 (214, tu #[.str "self" 455, .str "octets" 456, .str "what" 457]),
 (215, tu #[]),
 (217, co #[.str "need" 452, .str "Wire.need" 453, .str "/claim/cut.py" 454, .int 97 0, .int 3 0, .int 0 0, .int 0 0, .int 3 0, .ref 212, .bool true, .int 181 0, .ref 213, .none, .ref 214, .ref 215, .ref 216, .int 458 0, .int 97 0, .str "/claim/cut.py" 459]),
 (218, fn "need" "Wire.need" (mA 29 4) [("self", .local), ("octets", .local), ("what", .local)] [] .none "postkeep.wire" 303 217),
 (219, tu #[]),
 (221, tu #[.str "self" 464]),
 (222, tu #[]),
 (224, co #[.str "space" 461, .str "Wire.space" 462, .str "/claim/cut.py" 463, .int 101 0, .int 1 0, .int 0 0, .int 0 0, .int 3 0, .ref 219, .bool true, .int 181 0, .ref 220, .none, .ref 221, .ref 222, .ref 223, .int 465 0, .int 101 0, .str "/claim/cut.py" 466]),
 (225, fn "space" "Wire.space" (mA 29 5) [("self", .local)] [] .none "postkeep.wire" 303 224),
 (226, tu #[]),
 (228, tu #[.str "self" 471]),
 (229, tu #[]),
 (231, co #[.str "done" 468, .str "Wire.done" 469, .str "/claim/cut.py" 470, .int 104 0, .int 1 0, .int 0 0, .int 0 0, .int 3 0, .ref 226, .bool true, .int 181 0, .ref 227, .none, .ref 228, .ref 229, .ref 230, .int 472 0, .int 104 0, .str "/claim/cut.py" 473]),
 (232, fn "done" "Wire.done" (mA 29 6) [("self", .local), ("_wall", .globalImplicit)] [] .none "postkeep.wire" 303 231),
 (233, tu #[]),
 (235, tu #[.str "self" 478, .str "fits" 479, .str "first" 480]),
 (236, tu #[]),
 (238, co #[.str "run" 475, .str "Wire.run" 476, .str "/claim/cut.py" 477, .int 107 0, .int 2 0, .int 0 0, .int 0 0, .int 3 0, .ref 233, .bool true, .int 181 0, .ref 234, .none, .ref 235, .ref 236, .ref 237, .int 481 0, .int 107 0, .str "/claim/cut.py" 482]),
 (239, fn "run" "Wire.run" (mA 29 7) [("self", .local), ("fits", .local), ("first", .local), ("len", .globalImplicit)] [] .none "postkeep.wire" 303 238),
 (240, tu #[]),
 (242, tu #[.str "self" 487, .str "fits" 488, .str "what" 489, .str "octets" 490]),
 (243, tu #[]),
 (245, co #[.str "word_of" 484, .str "Wire.word_of" 485, .str "/claim/cut.py" 486, .int 113 0, .int 3 0, .int 0 0, .int 0 0, .int 3 0, .ref 240, .bool true, .int 181 0, .ref 241, .none, .ref 242, .ref 243, .ref 244, .int 491 0, .int 113 0, .str "/claim/cut.py" 492]),
 (246, fn "word_of" "Wire.word_of" (mA 29 8) [("self", .local), ("fits", .local), ("what", .local), ("octets", .local), ("len", .globalImplicit), ("ascii_text", .globalImplicit)] [] .none "postkeep.wire" 303 245),
 (247, tu #[]),
 (249, tu #[.str "self" 497]),
 (250, tu #[]),
 (252, co #[.str "atom" 494, .str "Wire.atom" 495, .str "/claim/cut.py" 496, .int 119 0, .int 1 0, .int 0 0, .int 0 0, .int 3 0, .ref 247, .bool true, .int 181 0, .ref 248, .none, .ref 249, .ref 250, .ref 251, .int 498 0, .int 119 0, .str "/claim/cut.py" 499]),
 (253, fn "atom" "Wire.atom" (mA 29 9) [("self", .local), ("is_atom_code", .globalImplicit)] [] .none "postkeep.wire" 303 252),
 (254, tu #[]),
 (256, tu #[.str "self" 504]),
 (257, tu #[]),
 (259, co #[.str "word" 501, .str "Wire.word" 502, .str "/claim/cut.py" 503, .int 122 0, .int 1 0, .int 0 0, .int 0 0, .int 3 0, .ref 254, .bool true, .int 181 0, .ref 255, .none, .ref 256, .ref 257, .ref 258, .int 505 0, .int 122 0, .str "/claim/cut.py" 506]),
 (260, fn "word" "Wire.word" (mA 29 10) [("self", .local), ("upper_text", .globalImplicit)] [] .none "postkeep.wire" 303 259),
 (261, tu #[]),
 (263, tu #[.str "self" 511, .str "text" 512]),
 (264, tu #[]),
 (266, co #[.str "skip_word" 508, .str "Wire.skip_word" 509, .str "/claim/cut.py" 510, .int 125 0, .int 2 0, .int 0 0, .int 0 0, .int 3 0, .ref 261, .bool true, .int 181 0, .ref 262, .none, .ref 263, .ref 264, .ref 265, .int 513 0, .int 125 0, .str "/claim/cut.py" 514]),
 (267, fn "skip_word" "Wire.skip_word" (mA 29 11) [("self", .local), ("text", .local), ("_wall", .globalImplicit)] [] .none "postkeep.wire" 303 266),
 (268, tu #[]),
 (270, tu #[.str "self" 519]),
 (271, tu #[]),
 (273, co #[.str "set_text" 516, .str "Wire.set_text" 517, .str "/claim/cut.py" 518, .int 128 0, .int 1 0, .int 0 0, .int 0 0, .int 3 0, .ref 268, .bool true, .int 181 0, .ref 269, .none, .ref 270, .ref 271, .ref 272, .int 520 0, .int 128 0, .str "/claim/cut.py" 521]),
 (274, fn "set_text" "Wire.set_text" (mA 29 12) [("self", .local), ("_wall", .globalImplicit)] [] .none "postkeep.wire" 303 273),
 (275, tu #[]),
 (277, tu #[.str "self" 526]),
 (278, tu #[]),
 (280, co #[.str "flag" 523, .str "Wire.flag" 524, .str "/claim/cut.py" 525, .int 131 0, .int 1 0, .int 0 0, .int 0 0, .int 3 0, .ref 275, .bool true, .int 181 0, .ref 276, .none, .ref 277, .ref 278, .ref 279, .int 527 0, .int 131 0, .str "/claim/cut.py" 528]),
 (281, fn "flag" "Wire.flag" (mA 29 13) [("self", .local), ("_wall", .globalImplicit)] [] .none "postkeep.wire" 303 280),
 (282, tu #[]),
 (284, tu #[.str "self" 533, .str "first" 534, .str "octets" 535]),
 (285, tu #[]),
 (287, co #[.str "number" 530, .str "Wire.number" 531, .str "/claim/cut.py" 532, .int 134 0, .int 1 0, .int 0 0, .int 0 0, .int 3 0, .ref 282, .bool true, .int 181 0, .ref 283, .none, .ref 284, .ref 285, .ref 286, .int 536 0, .int 134 0, .str "/claim/cut.py" 537]),
 (288, fn "number" "Wire.number" (mA 29 14) [("self", .local), ("first", .local), ("octets", .local), ("is_figure", .globalImplicit), ("len", .globalImplicit), ("MOST_FIGURES", .globalImplicit), ("WireFault", .globalImplicit), ("number_of_figures", .globalImplicit)] [] .none "postkeep.wire" 303 287),
 (289, tu #[]),
 (291, tu #[.str "self" 542, .str "found" 543]),
 (292, tu #[]),
 (294, co #[.str "quoted" 539, .str "Wire.quoted" 540, .str "/claim/cut.py" 541, .int 141 0, .int 1 0, .int 0 0, .int 0 0, .int 3 0, .ref 289, .bool true, .int 181 0, .ref 290, .none, .ref 291, .ref 292, .ref 293, .int 544 0, .int 141 0, .str "/claim/cut.py" 545]),
 (295, fn "quoted" "Wire.quoted" (mA 29 15) [("self", .local), ("found", .local), ("bytearray", .globalImplicit), ("QUOTE", .globalImplicit), ("BACKSLASH", .globalImplicit), ("CRLF", .globalImplicit), ("bytes", .globalImplicit)] [] .none "postkeep.wire" 303 294),
 (296, tu #[]),
 (298, tu #[.str "self" 550, .str "octets" 551, .str "end" 552, .str "found" 553]),
 (299, tu #[]),
 (301, co #[.str "literal" 547, .str "Wire.literal" 548, .str "/claim/cut.py" 549, .int 156 0, .int 1 0, .int 0 0, .int 0 0, .int 3 0, .ref 296, .bool true, .int 181 0, .ref 297, .none, .ref 298, .ref 299, .ref 300, .int 554 0, .int 156 0, .str "/claim/cut.py" 555]),
 (302, fn "literal" "Wire.literal" (mA 29 16) [("self", .local), ("octets", .local), ("end", .local), ("found", .local), ("is_figure", .globalImplicit), ("len", .globalImplicit), ("MOST_COUNT_FIGURES", .globalImplicit), ("CRLF", .globalImplicit), ("number_of_figures", .globalImplicit), ("bytes", .globalImplicit)] [] .none "postkeep.wire" 303 301),
 (303, tu #[]),
 (305, tu #[.str "self" 560]),
 (306, tu #[]),
 (308, co #[.str "string" 557, .str "Wire.string" 558, .str "/claim/cut.py" 559, .int 170 0, .int 1 0, .int 0 0, .int 0 0, .int 3 0, .ref 303, .bool true, .int 181 0, .ref 304, .none, .ref 305, .ref 306, .ref 307, .int 561 0, .int 170 0, .str "/claim/cut.py" 562]),
 (309, fn "string" "Wire.string" (mA 29 17) [("self", .local)] [] .none "postkeep.wire" 303 308),
 (310, tu #[]),
 (312, tu #[.str "self" 567, .str "fits" 568]),
 (313, tu #[]),
 (315, co #[.str "string_or" 564, .str "Wire.string_or" 565, .str "/claim/cut.py" 566, .int 173 0, .int 2 0, .int 0 0, .int 0 0, .int 3 0, .ref 310, .bool true, .int 181 0, .ref 311, .none, .ref 312, .ref 313, .ref 314, .int 569 0, .int 173 0, .str "/claim/cut.py" 570]),
 (316, fn "string_or" "Wire.string_or" (mA 29 18) [("self", .local), ("fits", .local), ("_wall", .globalImplicit)] [] .none "postkeep.wire" 303 315),
 (317, tu #[]),
 (319, tu #[.str "self" 575]),
 (320, tu #[]),
 (322, co #[.str "astring" 572, .str "Wire.astring" 573, .str "/claim/cut.py" 574, .int 176 0, .int 1 0, .int 0 0, .int 0 0, .int 3 0, .ref 317, .bool true, .int 181 0, .ref 318, .none, .ref 319, .ref 320, .ref 321, .int 576 0, .int 176 0, .str "/claim/cut.py" 577]),
 (323, fn "astring" "Wire.astring" (mA 29 19) [("self", .local), ("_wall", .globalImplicit)] [] .none "postkeep.wire" 303 322),
 (324, tu #[]),
 (326, tu #[.str "self" 582]),
 (327, tu #[]),
 (329, co #[.str "pattern" 579, .str "Wire.pattern" 580, .str "/claim/cut.py" 581, .int 179 0, .int 1 0, .int 0 0, .int 0 0, .int 3 0, .ref 324, .bool true, .int 181 0, .ref 325, .none, .ref 326, .ref 327, .ref 328, .int 583 0, .int 179 0, .str "/claim/cut.py" 584]),
 (330, fn "pattern" "Wire.pattern" (mA 29 20) [("self", .local), ("_wall", .globalImplicit)] [] .none "postkeep.wire" 303 329),
 (331, tu #[]),
 (333, tu #[.str "self" 589]),
 (334, tu #[]),
 (336, co #[.str "nstring" 586, .str "Wire.nstring" 587, .str "/claim/cut.py" 588, .int 182 0, .int 1 0, .int 0 0, .int 0 0, .int 3 0, .ref 331, .bool true, .int 181 0, .ref 332, .none, .ref 333, .ref 334, .ref 335, .int 590 0, .int 182 0, .str "/claim/cut.py" 591]),
 (337, fn "nstring" "Wire.nstring" (mA 29 21) [("self", .local), ("_wall", .globalImplicit)] [] .none "postkeep.wire" 303 336),
 (338, tu #[]),
 (340, tu #[.str "self" 596, .str "read" 597]),
 (341, tu #[]),
 (343, co #[.str "list_of" 593, .str "Wire.list_of" 594, .str "/claim/cut.py" 595, .int 185 0, .int 2 0, .int 0 0, .int 0 0, .int 3 0, .ref 338, .bool true, .int 181 0, .ref 339, .none, .ref 340, .ref 341, .ref 342, .int 598 0, .int 185 0, .str "/claim/cut.py" 599]),
 (344, fn "list_of" "Wire.list_of" (mA 29 22) [("self", .local), ("read", .local), ("_wall", .globalImplicit)] [] .none "postkeep.wire" 303 343),
 (345, tu #[]),
 (348, co #[.str "plain_value" 601, .str "Wire.plain_value" 602, .str "/claim/cut.py" 603, .int 188 0, .int 1 0, .int 0 0, .int 0 0, .int 3 0, .ref 345, .bool true, .int 181 0, .ref 346, .none, .none, .none, .ref 347, .int 604 0, .int 188 0, .str "/claim/cut.py" 605]),
 (349, fn "plain_value" "Wire.plain_value" (mA 29 23) [("self", .local), ("first", .local), ("octets", .local), ("is_value_code", .globalImplicit), ("len", .globalImplicit), ("lower", .globalImplicit), ("all", .globalImplicit), ("MOST_FIGURES", .globalImplicit), ("WireFault", .globalImplicit), ("number_of_figures", .globalImplicit), ("Atom", .globalImplicit), ("ascii_text", .globalImplicit)] [("fast", .str "self"), ("fast", .str "first"), ("fast", .str "octets"), ("fast", .str "code")] .none "postkeep.wire" 303 348),
 (350, tu #[.int 0 607]),
 (351, tu #[]),
 (353, tu #[.str "self" 611, .str "depth" 612, .str "found" 613]),
 (354, tu #[]),
 (356, co #[.str "value" 608, .str "Wire.value" 609, .str "/claim/cut.py" 610, .int 201 0, .int 2 0, .int 0 0, .int 0 0, .int 3 0, .ref 351, .bool true, .int 181 0, .ref 352, .none, .ref 353, .ref 354, .ref 355, .int 614 0, .int 201 0, .str "/claim/cut.py" 615]),
 (357, fn "value" "Wire.value" (mA 29 24) [("self", .local), ("depth", .local), ("found", .local), ("QUOTE", .globalImplicit), ("MOST_DEPTH", .globalImplicit), ("len", .globalImplicit)] [] (.ref 350) "postkeep.wire" 303 356),
 (358, tu #[.str "at" 617, .str "data" 618]),
 (359, { cls := .type "dict", data := .dict #[e P "__module__" 414 (.str "postkeep.wire" 303), e P "__firstlineno__" 418 (.int 79 417), e P "__init__" 428 (.ref 190), e P "fault" 436 (.ref 197), e P "peek" 443 (.ref 204), e P "skip" 451 (.ref 211), e P "need" 460 (.ref 218), e P "space" 467 (.ref 225), e P "done" 474 (.ref 232), e P "run" 483 (.ref 239), e P "word_of" 493 (.ref 246), e P "atom" 500 (.ref 253), e P "word" 507 (.ref 260), e P "skip_word" 515 (.ref 267), e P "set_text" 522 (.ref 274), e P "flag" 529 (.ref 281), e P "number" 538 (.ref 288), e P "quoted" 546 (.ref 295), e P "literal" 556 (.ref 302), e P "string" 563 (.ref 309), e P "string_or" 571 (.ref 316), e P "astring" 578 (.ref 323), e P "pattern" 585 (.ref 330), e P "nstring" 592 (.ref 337), e P "list_of" 600 (.ref 344), e P "plain_value" 606 (.ref 349), e P "value" 616 (.ref 357), e P "__static_attributes__" 619 (.ref 358), e P "__dict__" 621 (.ref 361), e P "__weakref__" 623 (.ref 362), e P "__doc__" 624 (.none)] 4 }),
 (360, { cls := .type "type", data := .cls { name := "Wire", bases := [.type "object"], mro := [.ref 360, .type "object"], ns := 359, qualname := "Wire" }, slots := #[none, none, some (.str "Wire" 407), some (.str "Wire" 415), some (.builtin "object.__new__"), some (.bool true)] }),
 (361, { cls := .type "getset_descriptor", data := .fields #[.str "__dict__" 620, .ref 360, .builtin "function.__dict__", .builtin "function.__dict__#set"] }),
 (362, { cls := .type "getset_descriptor", data := .fields #[.str "__weakref__" 622, .ref 360, .builtin "ExceptionGroup.__weakref__", .none] }),
 (365, tu #[]),
 (368, co #[.str "is_quotable" 627, .str "is_quotable" 628, .str "/claim/cut.py" 629, .int 215 0, .int 1 0, .int 0 0, .int 0 0, .int 3 0, .ref 365, .bool true, .int 181 0, .ref 366, .none, .none, .none, .ref 367, .int 630 0, .int 215 0, .str "/claim/cut.py" 631]),
 (369, fn "is_quotable" "is_quotable" (sA 30) [("octets", .local), ("len", .globalImplicit), ("MOST_QUOTED", .globalImplicit), ("all", .globalImplicit)] [("fast", .str "octets"), ("fast", .str "code")] .none "postkeep.wire" 303 368),
 (370, tu #[]),
 (372, tu #[.str "octets" 636, .str "found" 637, .str "code" 638]),
 (373, tu #[]),
 (375, co #[.str "quoted_octets" 633, .str "quoted_octets" 634, .str "/claim/cut.py" 635, .int 217 0, .int 1 0, .int 0 0, .int 0 0, .int 3 0, .ref 370, .bool true, .int 181 0, .ref 371, .none, .ref 372, .ref 373, .ref 374, .int 639 0, .int 217 0, .str "/claim/cut.py" 640]),
 (376, fn "quoted_octets" "quoted_octets" (sA 31) [("octets", .local), ("found", .local), ("code", .local), ("bytearray", .globalImplicit), ("QUOTE", .globalImplicit), ("BACKSLASH", .globalImplicit), ("bytes", .globalImplicit)] [] .none "postkeep.wire" 303 375),
 (377, tu #[.bool false]),
 (378, tu #[]),
 (380, tu #[.str "octets" 645, .str "is_plus" 646]),
 (381, tu #[]),
 (383, co #[.str "literal_octets" 642, .str "literal_octets" 643, .str "/claim/cut.py" 644, .int 225 0, .int 2 0, .int 0 0, .int 0 0, .int 3 0, .ref 378, .bool true, .int 181 0, .ref 379, .none, .ref 380, .ref 381, .ref 382, .int 647 0, .int 225 0, .str "/claim/cut.py" 648]),
 (384, fn "literal_octets" "literal_octets" (sA 32) [("octets", .local), ("is_plus", .local), ("figures_of", .globalImplicit), ("len", .globalImplicit), ("CRLF", .globalImplicit), ("bytes", .globalImplicit)] [] (.ref 377) "postkeep.wire" 303 383),
 (385, tu #[.bool false]),
 (386, tu #[]),
 (388, tu #[.str "octets" 653, .str "is_plus" 654]),
 (389, tu #[]),
 (391, co #[.str "string_octets" 650, .str "string_octets" 651, .str "/claim/cut.py" 652, .int 227 0, .int 2 0, .int 0 0, .int 0 0, .int 3 0, .ref 386, .bool true, .int 181 0, .ref 387, .none, .ref 388, .ref 389, .ref 390, .int 655 0, .int 227 0, .str "/claim/cut.py" 656]),
 (392, fn "string_octets" "string_octets" (sA 33) [("octets", .local), ("is_plus", .local), ("is_quotable", .globalImplicit), ("quoted_octets", .globalImplicit), ("literal_octets", .globalImplicit)] [] (.ref 385) "postkeep.wire" 303 391),
 (393, tu #[.int 0 658]),
 (394, tu #[]),
 (397, co #[.str "write_value" 659, .str "write_value" 660, .str "/claim/cut.py" 661, .int 231 0, .int 2 0, .int 0 0, .int 0 0, .int 3 0, .ref 394, .bool true, .int 181 0, .ref 395, .none, .none, .none, .ref 396, .int 662 0, .int 231 0, .str "/claim/cut.py" 663]),
 (398, fn "write_value" "write_value" (sA 34) [("value", .local), ("depth", .cell), ("isinstance", .globalImplicit), ("Atom", .globalImplicit), ("text_octets", .globalImplicit), ("bytes", .globalImplicit), ("string_octets", .globalImplicit), ("list", .globalImplicit), ("tuple", .globalImplicit), ("MOST_DEPTH", .globalImplicit), ("WireFault", .globalImplicit), ("figures_of", .globalImplicit)] [("fast", .str "value"), ("fast", .str "depth"), ("fast", .str "one")] (.ref 393) "postkeep.wire" 303 397),
 (399, tu #[]),
 (402, co #[.str "write_line" 665, .str "write_line" 666, .str "/claim/cut.py" 667, .int 243 0, .int 1 0, .int 0 0, .int 0 0, .int 3 0, .ref 399, .bool true, .int 181 0, .ref 400, .none, .none, .none, .ref 401, .int 668 0, .int 243 0, .str "/claim/cut.py" 669]),
 (403, fn "write_line" "write_line" (sA 35) [("values", .local), ("CRLF", .globalImplicit)] [("fast", .str "values"), ("fast", .str "value")] .none "postkeep.wire" 303 402),
 (404, tu #[]),
 (406, tu #[.str "bag" 676, .str "many" 677, .str "worth" 678]),
 (407, tu #[]),
 (409, co #[.str "_law_take" 673, .str "_law_take" 674, .str "/claim/cut.py" 675, .int 246 0, .int 2 0, .int 0 0, .int 0 0, .int 3 0, .ref 404, .bool true, .int 181 0, .ref 405, .none, .ref 406, .ref 407, .ref 408, .int 679 0, .int 246 0, .str "/claim/cut.py" 680]),
 (410, fn "_law_take" "_law_take" (sA 37) [("bag", .local), ("many", .local), ("worth", .local)] [] .none "law_no0380_01" 671 409),
 (411, tu #[]),
 (413, tu #[.str "script" 685, .str "number" 686, .str "cell" 687]),
 (414, tu #[]),
 (416, co #[.str "_law_bag" 682, .str "_law_bag" 683, .str "/claim/cut.py" 684, .int 250 0, .int 1 0, .int 0 0, .int 0 0, .int 3 0, .ref 411, .bool true, .int 181 0, .ref 412, .none, .ref 413, .ref 414, .ref 415, .int 688 0, .int 250 0, .str "/claim/cut.py" 689]),
 (417, fn "_law_bag" "_law_bag" (sA 38) [("script", .local), ("number", .local), ("cell", .local)] [] .none "law_no0380_01" 671 416),
 (418, tu #[]),
 (421, co #[.str "_law_atom" 691, .str "_law_atom" 692, .str "/claim/cut.py" 693, .int 257 0, .int 1 0, .int 0 0, .int 0 0, .int 3 0, .ref 418, .bool true, .int 181 0, .ref 419, .none, .none, .none, .ref 420, .int 694 0, .int 257 0, .str "/claim/cut.py" 695]),
 (422, fn "_law_atom" "_law_atom" (sA 39) [("bag", .cell), ("codes", .cell), ("text", .local), ("range", .globalImplicit), ("_law_take", .globalImplicit)] [("fast", .str "bag"), ("fast", .str "code"), ("fast", .str "codes"), ("fast", .str "turn"), ("fast", .str "text")] .none "law_no0380_01" 671 421),
 (423, tu #[]),
 (426, co #[.str "_law_string" 697, .str "_law_string" 698, .str "/claim/cut.py" 699, .int 263 0, .int 2 0, .int 0 0, .int 0 0, .int 3 0, .ref 423, .bool true, .int 181 0, .ref 424, .none, .none, .none, .ref 425, .int 700 0, .int 263 0, .str "/claim/cut.py" 701]),
 (427, fn "_law_string" "_law_string" (sA 40) [("bag", .local), ("depth", .local), ("count", .local), ("first", .cell), ("step", .cell), ("_law_take", .globalImplicit), ("bytes", .globalImplicit), ("range", .globalImplicit)] [("fast", .str "bag"), ("fast", .str "depth"), ("fast", .str "count"), ("fast", .str "first"), ("fast", .str "step"), ("fast", .str "at")] .none "law_no0380_01" 671 426),
 (428, tu #[]),
 (431, co #[.str "_law_value" 703, .str "_law_value" 704, .str "/claim/cut.py" 705, .int 271 0, .int 2 0, .int 0 0, .int 0 0, .int 3 0, .ref 428, .bool true, .int 181 0, .ref 429, .none, .none, .none, .ref 430, .int 706 0, .int 271 0, .str "/claim/cut.py" 707]),
 (432, fn "_law_value" "_law_value" (sA 41) [("bag", .cell), ("depth", .cell), ("way", .local), ("_law_take", .globalImplicit), ("_law_string", .globalImplicit), ("Atom", .globalImplicit), ("_law_atom", .globalImplicit), ("range", .globalImplicit)] [("fast", .str "bag"), ("fast", .str "depth"), ("fast", .str "way"), ("fast", .str "turn")] .none "law_no0380_01" 671 431),
 (433, tu #[]),
 (436, co #[.str "_law_told" 709, .str "_law_told" 710, .str "/claim/cut.py" 711, .int 282 0, .int 1 0, .int 0 0, .int 0 0, .int 3 0, .ref 433, .bool true, .int 181 0, .ref 434, .none, .none, .none, .ref 435, .int 712 0, .int 282 0, .str "/claim/cut.py" 713]),
 (437, fn "_law_told" "_law_told" (sA 42) [("some", .local), ("isinstance", .globalImplicit), ("bytes", .globalImplicit), ("list", .globalImplicit), ("tuple", .globalImplicit), ("Atom", .globalImplicit)] [("fast", .str "some"), ("fast", .str "one")] .none "law_no0380_01" 671 436),
 (438, tu #[]),
 (441, co #[.str "_law_depth" 715, .str "_law_depth" 716, .str "/claim/cut.py" 717, .int 292 0, .int 1 0, .int 0 0, .int 0 0, .int 3 0, .ref 438, .bool true, .int 181 0, .ref 439, .none, .none, .none, .ref 440, .int 718 0, .int 292 0, .str "/claim/cut.py" 719]),
 (442, fn "_law_depth" "_law_depth" (sA 43) [("told", .local), ("max", .globalImplicit)] [("fast", .str "told"), ("fast", .str "one")] .none "law_no0380_01" 671 441),
 (443, tu #[]),
 (446, co #[.str "_law_spelled" 721, .str "_law_spelled" 722, .str "/claim/cut.py" 723, .int 296 0, .int 2 0, .int 0 0, .int 0 0, .int 3 0, .ref 443, .bool true, .int 181 0, .ref 444, .none, .none, .none, .ref 445, .int 724 0, .int 296 0, .str "/claim/cut.py" 725]),
 (447, fn "_law_spelled" "_law_spelled" (sA 44) [("told", .local), ("bag", .cell), ("figures", .local), ("octets", .local), ("way", .local), ("code", .local), ("found", .local), ("_law_take", .globalImplicit), ("str", .globalImplicit), ("min", .globalImplicit), ("len", .globalImplicit), ("bytes", .globalImplicit)] [("fast", .str "told"), ("fast", .str "bag"), ("fast", .str "figures"), ("fast", .str "one"), ("fast", .str "octets"), ("fast", .str "way"), ("fast", .str "code"), ("fast", .str "found")] .none "law_no0380_01" 671 446),
 (448, tu #[]),
 (450, tu #[.str "data" 730, .str "at" 731, .str "found" 732, .str "one" 733, .str "end" 734, .str "count" 735, .str "text" 736]),
 (451, tu #[]),
 (453, co #[.str "_law_read" 727, .str "_law_read" 728, .str "/claim/cut.py" 729, .int 314 0, .int 2 0, .int 0 0, .int 0 0, .int 3 0, .ref 448, .bool true, .int 181 0, .ref 449, .none, .ref 450, .ref 451, .ref 452, .int 737 0, .int 314 0, .str "/claim/cut.py" 738]),
 (454, fn "_law_read" "_law_read" (sA 45) [("data", .local), ("at", .local), ("found", .local), ("one", .local), ("end", .local), ("count", .local), ("text", .local), ("_law_read", .globalImplicit), ("tuple", .globalImplicit), ("int", .globalImplicit), ("bytes", .globalImplicit), ("len", .globalImplicit)] [] .none "law_no0380_01" 671 453),
 (455, tu #[]),
 (457, tu #[.str "deed" 743]),
 (458, tu #[]),
 (460, co #[.str "_law_is_refused" 740, .str "_law_is_refused" 741, .str "/claim/cut.py" 742, .int 344 0, .int 1 0, .int 0 0, .int 0 0, .int 3 0, .ref 455, .bool true, .int 181 0, .ref 456, .none, .ref 457, .ref 458, .ref 459, .int 744 0, .int 344 0, .str "/claim/cut.py" 745]),
 (461, fn "_law_is_refused" "_law_is_refused" (sA 46) [("deed", .local), ("WireFault", .globalImplicit)] [] .none "law_no0380_01" 671 460),
 (462, tu #[]),
 (464, tu #[.str "script" 750, .str "bag" 751, .str "told" 752, .str "turn" 753, .str "octets" 754, .str "data" 755, .str "wire" 756]),
 (465, tu #[.str "free" 757, .str "some" 758]),
 (467, co #[.str "law" 747, .str "law" 748, .str "/claim/cut.py" 749, .int 350 0, .int 1 0, .int 0 0, .int 0 0, .int 3 0, .ref 462, .bool true, .int 181 0, .ref 463, .none, .ref 464, .ref 465, .ref 466, .int 759 0, .int 350 0, .str "/claim/cut.py" 760]),
 (468, fn "law" "law" (sA 47) [("script", .local), ("bag", .local), ("told", .local), ("turn", .local), ("octets", .local), ("data", .local), ("wire", .local), ("free", .cell), ("some", .cell), ("_law_bag", .globalImplicit), ("_law_value", .globalImplicit), ("_law_told", .globalImplicit), ("range", .globalImplicit), ("_law_take", .globalImplicit), ("_law_spelled", .globalImplicit), ("_law_depth", .globalImplicit), ("_law_is_refused", .globalImplicit), ("write_value", .globalImplicit), ("_law_read", .globalImplicit), ("len", .globalImplicit), ("told_value", .globalImplicit), ("Wire", .globalImplicit), ("write_line", .globalImplicit), ("Atom", .globalImplicit), ("bytes", .globalImplicit)] [] .none "law_no0380_01" 671 467)]
noncomputable def hd.view_39 : Program := PySem.W.view P00 [47]
theorem hd.addrs (P : Params) : [2, 3, 15, 17, 18, 20, 21, 22, 29, 30, 32, 33, 35, 36, 37, 39, 40, 42, 43, 44, 45, 46, 47, 50, 57, 58, 59, 62, 69, 70, 71, 74, 76, 77, 79, 80, 81, 84, 85, 86, 89, 90, 91, 94, 95, 96, 99, 100, 108, 110, 111, 113, 114, 115, 117, 118, 120, 121, 122, 123, 124, 125, 126, 129, 132, 133, 134, 136, 137, 139, 140, 141, 143, 144, 146, 147, 148, 150, 151, 153, 154, 155, 157, 158, 160, 161, 162, 164, 165, 167, 168, 169, 171, 172, 174, 175, 183, 184, 186, 187, 189, 190, 191, 193, 194, 196, 197, 198, 200, 201, 203, 204, 205, 207, 208, 210, 211, 212, 214, 215, 217, 218, 219, 221, 222, 224, 225, 226, 228, 229, 231, 232, 233, 235, 236, 238, 239, 240, 242, 243, 245, 246, 247, 249, 250, 252, 253, 254, 256, 257, 259, 260, 261, 263, 264, 266, 267, 268, 270, 271, 273, 274, 275, 277, 278, 280, 281, 282, 284, 285, 287, 288, 289, 291, 292, 294, 295, 296, 298, 299, 301, 302, 303, 305, 306, 308, 309, 310, 312, 313, 315, 316, 317, 319, 320, 322, 323, 324, 326, 327, 329, 330, 331, 333, 334, 336, 337, 338, 340, 341, 343, 344, 345, 348, 349, 350, 351, 353, 354, 356, 357, 358, 359, 360, 361, 362, 365, 368, 369, 370, 372, 373, 375, 376, 377, 378, 380, 381, 383, 384, 385, 386, 388, 389, 391, 392, 393, 394, 397, 398, 399, 402, 403, 404, 406, 407, 409, 410, 411, 413, 414, 416, 417, 418, 421, 422, 423, 426, 427, 428, 431, 432, 433, 436, 437, 438, 441, 442, 443, 446, 447, 448, 450, 451, 453, 454, 455, 457, 458, 460, 461, 462, 464, 465, 467, 468] = (hd.heap_39 P).map (·.1) := by kernel_rfl
noncomputable abbrev hd.hook : Hook := kmHook hd.heap_39 [2, 3, 15, 17, 18, 20, 21, 22, 29, 30, 32, 33, 35, 36, 37, 39, 40, 42, 43, 44, 45, 46, 47, 50, 57, 58, 59, 62, 69, 70, 71, 74, 76, 77, 79, 80, 81, 84, 85, 86, 89, 90, 91, 94, 95, 96, 99, 100, 108, 110, 111, 113, 114, 115, 117, 118, 120, 121, 122, 123, 124, 125, 126, 129, 132, 133, 134, 136, 137, 139, 140, 141, 143, 144, 146, 147, 148, 150, 151, 153, 154, 155, 157, 158, 160, 161, 162, 164, 165, 167, 168, 169, 171, 172, 174, 175, 183, 184, 186, 187, 189, 190, 191, 193, 194, 196, 197, 198, 200, 201, 203, 204, 205, 207, 208, 210, 211, 212, 214, 215, 217, 218, 219, 221, 222, 224, 225, 226, 228, 229, 231, 232, 233, 235, 236, 238, 239, 240, 242, 243, 245, 246, 247, 249, 250, 252, 253, 254, 256, 257, 259, 260, 261, 263, 264, 266, 267, 268, 270, 271, 273, 274, 275, 277, 278, 280, 281, 282, 284, 285, 287, 288, 289, 291, 292, 294, 295, 296, 298, 299, 301, 302, 303, 305, 306, 308, 309, 310, 312, 313, 315, 316, 317, 319, 320, 322, 323, 324, 326, 327, 329, 330, 331, 333, 334, 336, 337, 338, 340, 341, 343, 344, 345, 348, 349, 350, 351, 353, 354, 356, 357, 358, 359, 360, 361, 362, 365, 368, 369, 370, 372, 373, 375, 376, 377, 378, 380, 381, 383, 384, 385, 386, 388, 389, 391, 392, 393, 394, 397, 398, 399, 402, 403, 404, 406, 407, 409, 410, 411, 413, 414, 416, 417, 418, 421, 422, 423, 426, 427, 428, 431, 432, 433, 436, 437, 438, 441, 442, 443, 446, 447, 448, 450, 451, 453, 454, 455, 457, 458, 460, 461, 462, 464, 465, 467, 468] hd.addrs [463]
noncomputable abbrev hd.loose : List Str := (["_wall", "PostError", "WordFault", "WireFault", "CRLF", "lower_code", "lower", "upper_text", "ascii_text", "text_octets", "QUOTE", "BACKSLASH", "MOST_DEPTH", "MOST_FIGURES", "MOST_COUNT_FIGURES", "MOST_QUOTED", "SPECIALS", "VALUE_SPECIALS", "Atom", "told_value", "is_printable", "is_atom_code", "is_value_code", "is_figure", "number_of_figures", "figures_of", "Wire", "is_quotable", "quoted_octets", "literal_octets", "string_octets", "write_value", "write_line", "_law_take", "_law_bag", "_law_atom", "_law_string", "_law_value", "_law_told", "_law_depth", "_law_spelled", "_law_read", "_law_is_refused"] : List String).map Str.ofString
noncomputable abbrev hd.look (s : Shared) := openSeen hd.view_39 hd.loose (importedModules P00.main.body) (fun s => xlAt hd.view_39 [] s && recOk PySem.Challenge.rw_no0380_01.row.records s) true s
-- the text runs to its end (twins of the library for the run and the looks)
set_option maxHeartbeats 0 in
theorem hd.left : LeftO P00 hd.view_39 hd.loose (fun s => xlAt hd.view_39 [] s && recOk PySem.Challenge.rw_no0380_01.row.records s) (Hook.obs hd.hook) (Hook.val hd.hook) 5944 := by
  intro w
  show (openEnds treeTable P00 w 5944).map (fun s => (hd.look s, Hook.obs hd.hook s)) = some (openGood hd.view_39 hd.loose, Hook.val hd.hook w)
  unfold openEnds topFrom hd.look
  rw [PySem.W.Fast.te14364793385576792824, PySem.W.Fast.te14082659384304107361, PySem.W.Fast.te4187177175401517315]
  kernel_rfl
noncomputable abbrev hd.law : DefRec := { name := "law", params := dPs (sA 47), body := dBd (sA 47), scope := dSc (sA 47), pos := dPo (sA 47) }
noncomputable abbrev hd.row : OpenRow := PySem.Challenge.rw_no0380_01.row
theorem hd.def_ : defOf hd.view_39 hd.row.name = some (hd.law, []) := by kernel_rfl
theorem hd.the_ : hd.row.prog.theDef hd.row.name = some (hd.law.params, hd.law.body, hd.law.scope) := by kernel_rfl
theorem hd.kw_ : kwWritten? hd.law.params.kwonlyargs hd.law.params.kw_defaults = some [] := by kernel_rfl
theorem hd.ok_ : (chainsOk hd.view_39 && opensWell hd.row.prog && (frees hd.row.toRowW && hd.row.within.isEmpty)) = true := by decide +kernel
theorem hd.bare_ : hd.row.prog.bare := ⟨rfl, rfl, rfl, rfl, rfl, by decide +kernel⟩
theorem hd.promise_ : hd.row.toRowW.promised := ⟨[WData.list []], by decide +kernel, by decide +kernel⟩
theorem hd.said_ : PySem.Challenge.rw_no0380_01.wellSaid = true := by decide +kernel
theorem hd (call : WalkG hd.view_39 hd.loose (XL hd.view_39 []) hd.hook.says hd.row.toRowW hd.law []) : PySem.Challenge.rw_no0380_01.Holds := by
  refine holds_law hd.said_ fun said => ?_
  exact holds_openG (r := hd.row) (q := hd.view_39) (loose := hd.loose) (Xt := fun s => xlAt hd.view_39 [] s && recOk PySem.Challenge.rw_no0380_01.row.records s) (Yf := Hook.obs hd.hook) (Ya := Hook.val hd.hook) (N := 5944) (d := hd.law) (kwd := []) hd.left (Hook.of hd.hook) (Hook.keeps hd.hook)
    (fun s e => xl_of s (Bool.and_eq_true_iff.mp e).1) XL.keeps hd.def_ hd.the_ hd.kw_ (fun s e => recFacts_of (Bool.and_eq_true_iff.mp e).2) (by rfl) said hd.ok_ hd.bare_ hd.promise_ call
end Mine
end

section
open PySem PySem.W PyProof.Rows PySem.Calls
namespace Mine

/-- abstract values -/
inductive V where
  | none
  | bool (b : Bool)
  | int (i : Int)
  | str (l : List Nat)
  | bytes (l : List UInt8)
  | tup (vs : List V)
  | list (vs : List V)
  | atom (l : List Nat)
  | range (lo hi : Int)
  | raw (v : Value)

noncomputable abbrev DM := Addr → Option Obj

noncomputable abbrev strD (l : List Nat) : Str := ⟨l.toArray⟩

mutual
inductive VR (D : DM) : V → Value → Prop where
  | none : VR D .none .none
  | bool (b : Bool) : VR D (.bool b) (.bool b)
  | int (i : Int) (t : Tok) : VR D (.int i) (.int i t)
  | str (l : List Nat) (t : Tok) : VR D (.str l) (.str (strD l) t)
  | bytes (l : List UInt8) (t : Tok) : VR D (.bytes l) (.bytes l.toArray t)
  | tup {vs : List V} {vals : List Value} {a : Addr} {n : Nat} : D a = some { cls := .type "tuple", data := .seq vals.toArray n } → VRs D vs vals → VR D (.tup vs) (.ref a)
  | list {vs : List V} {vals : List Value} {a : Addr} {n : Nat} : D a = some { cls := .type "list", data := .seq vals.toArray n } → VRs D vs vals → VR D (.list vs) (.ref a)
  | atom {l : List Nat} {a d : Addr} {t t' : Tok} {n : Nat} {hash : Int} : D a = some (instObj 124 d) → D d = some (dictOf [⟨hash, .str (Str.ofString "text") t', .str (strD l) t⟩] n) → VR D (.atom l) (.ref a)
  | range {lo hi : Int} {a : Addr} {t1 t2 t3 : Tok} : D a = some { cls := .type "range", data := .fields #[.int lo t1, .int hi t2, .int 1 t3] } → VR D (.range lo hi) (.ref a)
  | raw (v : Value) : VR D (.raw v) v
inductive VRs (D : DM) : List V → List Value → Prop where
  | nil : VRs D [] []
  | cons {v : V} {vs : List V} {x : Value} {xs : List Value} : VR D v x → VRs D vs xs → VRs D (v :: vs) (x :: xs)
end

noncomputable def DM.le (D D' : DM) : Prop := ∀ a o, D a = some o → D' a = some o
theorem DM.le_refl (D : DM) : D.le D := fun _ _ h => h
theorem DM.le_trans {D D' D'' : DM} (h : D.le D') (h' : D'.le D'') : D.le D'' := fun a o e => h' a o (h a o e)

theorem VR.mono {D D' : DM} (k : D.le D') {v : V} {x : Value} (h : VR D v x) : VR D' v x :=
  VR.rec (motive_1 := fun v x _ => VR D' v x) (motive_2 := fun vs xs _ => VRs D' vs xs) .none .bool .int .str .bytes (fun e _ i => .tup (k _ _ e) i) (fun e _ i => .list (k _ _ e) i) (fun e e' => .atom (k _ _ e) (k _ _ e')) (fun e => .range (k _ _ e)) .raw .nil (fun _ _ i j => .cons i j) h
theorem VRs.mono {D D' : DM} (k : D.le D') {vs : List V} {xs : List Value} (h : VRs D vs xs) : VRs D' vs xs :=
  VRs.rec (motive_1 := fun v x _ => VR D' v x) (motive_2 := fun vs xs _ => VRs D' vs xs) .none .bool .int .str .bytes (fun e _ i => .tup (k _ _ e) i) (fun e _ i => .list (k _ _ e) i) (fun e e' => .atom (k _ _ e) (k _ _ e')) (fun e => .range (k _ _ e)) .raw .nil (fun _ _ i j => .cons i j) h

section
variable {D : DM} {xs : List Value}
theorem VRs.nil_inv (h : VRs D [] xs) : xs = [] := by cases h; rfl
theorem VRs.cons_inv {v : V} {vs : List V} (h : VRs D (v :: vs) xs) : ∃ y ys, xs = y :: ys ∧ VR D v y ∧ VRs D vs ys := by
  cases h with | cons h1 h2 => exact ⟨_, _, rfl, h1, h2⟩
theorem VRs.length {vs : List V} : ∀ {vals : List Value}, VRs D vs vals → vals.length = vs.length := by
  induction vs with
  | nil => intro vals h; rw [h.nil_inv]; rfl
  | cons v vs ih => intro vals h; obtain ⟨y, ys, rfl, _, h2⟩ := h.cons_inv; exact congrArg Nat.succ (ih h2)
theorem VRs.get {vs : List V} : ∀ {vals : List Value} {j : Nat} {v : V}, VRs D vs vals → vs[j]? = some v → ∃ val, vals[j]? = some val ∧ VR D v val := by
  induction vs with
  | nil => intro vals j v h e; cases e
  | cons u vs ih =>
    intro vals j v h e
    obtain ⟨y, ys, rfl, h1, h2⟩ := h.cons_inv
    cases j with
    | zero => cases e; exact ⟨y, rfl, h1⟩
    | succ j => exact ih (j := j) h2 e
theorem VRs.append {a b : List V} {x y : List Value} (h : VRs D a x) (h' : VRs D b y) : VRs D (a ++ b) (x ++ y) := by
  induction a generalizing x with
  | nil => rw [h.nil_inv]; exact h'
  | cons u a ih => obtain ⟨z, zs, rfl, h1, h2⟩ := h.cons_inv; exact .cons h1 (ih h2)
end

/-- mutable objects -/
inductive MO where
  | list (vs : List V)
  | ba (l : List UInt8)
  | inst (C d : Addr) (fs : List (Str × V))
  | exc (d : Option Addr) (fs : List (Str × V))
  | tab (ps : Array Value)

noncomputable def entOf : List (Str × V) → List DictEntry → DM → Prop
  | [], [], _ => True
  | (x, v) :: r, e :: es, D => (∃ t, e.key = .str x t) ∧ VR D v e.val ∧ entOf r es D
  | _, _, _ => False

theorem entOf_mono {D D' : DM} (k : D.le D') : ∀ {fs : List (Str × V)} {es : List DictEntry}, entOf fs es D → entOf fs es D'
  | [], [], _ => trivial
  | (_, _) :: _, _ :: _, ⟨h1, h2, h3⟩ => ⟨h1, h2.mono k, entOf_mono k h3⟩
  | [], _ :: _, h => h.elim
  | _ :: _, [], h => h.elim

/-- a wire fault that is being made -/
noncomputable abbrev excObj (d : Option Addr) (t : Addr) : Obj := { cls := .ref 71, dict := d, data := .fields #[.ref t, .none, .none, .none, .bool false, .none] }

noncomputable def MOR (D : DM) (h : Heap) (a : Addr) : MO → Prop
  | .list vs => ∃ vals n, h.get? a = some { cls := .type "list", data := .seq vals.toArray n } ∧ VRs D vs vals
  | .ba l => h.get? a = some { cls := .type "bytearray", data := .bytearray l.toArray 0 }
  | .inst C d fs => h.get? a = some (instObj C d) ∧ ∃ es n, h.get? d = some (dictOf es n) ∧ entOf fs es D
  | .tab ps => h.get? a = some (tabObj ps)
  | .exc none _ => ∃ t, h.get? a = some (excObj none t)
  | .exc (some d) fs => (∃ t, h.get? a = some (excObj (some d) t)) ∧ ∃ es n, h.get? d = some (dictOf es n) ∧ entOf fs es D

noncomputable def footO : Addr × MO → List Addr
  | (a, .inst _ d _) => [a, d]
  | (a, .exc (some d) _) => [a, d]
  | (a, _) => [a]

theorem MOR.keeps {D D' : DM} {h h' : Heap} {a : Addr} {mo : MO} (x : MOR D h a mo) (kD : D.le D') (k : ∀ b ∈ footO (a, mo), ∀ o, h.get? b = some o → h'.get? b = some o) : MOR D' h' a mo := by
  cases mo with
  | list vs => obtain ⟨vals, n, e, r⟩ := x; exact ⟨vals, n, k a (.head _) _ e, r.mono kD⟩
  | ba l => exact k a (.head _) _ x
  | tab ps => exact k a (.head _) _ x
  | inst C d fs =>
    obtain ⟨e, es, n, e', r⟩ := x
    exact ⟨k a (.head _) _ e, es, n, k d (.tail _ (.head _)) _ e', entOf_mono kD r⟩
  | exc d fs =>
    cases d with
    | none => obtain ⟨t, e⟩ := x; exact ⟨t, k a (.head _) _ e⟩
    | some d =>
      obtain ⟨⟨t, e⟩, es, n, e', r⟩ := x
      exact ⟨⟨t, k a (.head _) _ e⟩, es, n, k d (.tail _ (.head _)) _ e', entOf_mono kD r⟩

theorem MOR.ex {D : DM} {h : Heap} {a : Addr} {mo : MO} (x : MOR D h a mo) : ∀ b ∈ footO (a, mo), ∃ o, h.get? b = some o := by
  intro b hb
  cases mo with
  | list vs => obtain ⟨vals, n, e, r⟩ := x; simp [footO] at hb; subst hb; exact ⟨_, e⟩
  | ba l => simp [footO] at hb; subst hb; exact ⟨_, x⟩
  | tab ps => simp [footO] at hb; subst hb; exact ⟨_, x⟩
  | inst C d fs =>
    obtain ⟨e, es, n, e', r⟩ := x
    simp [footO] at hb
    rcases hb with rfl | rfl
    · exact ⟨_, e⟩
    · exact ⟨_, e'⟩
  | exc d fs =>
    cases d with
    | none => obtain ⟨t, e⟩ := x; simp [footO] at hb; subst hb; exact ⟨_, e⟩
    | some d =>
      obtain ⟨⟨t, e⟩, es, n, e', r⟩ := x
      simp [footO] at hb
      rcases hb with rfl | rfl
      · exact ⟨_, e⟩
      · exact ⟨_, e'⟩

structure St where
  loc : List (Option V)
  objs : List (Addr × MO)

noncomputable abbrev feet (O : List (Addr × MO)) : List Addr := O.flatMap footO

noncomputable def frames (l : List Env) : List Addr := l.filterMap (·.frame)

structure FC where
  env : Env
  stack : List Env
  own : List Addr
  hid : List (Addr × Obj)
  B : DM
  D₀ : DM
  base : Shared

noncomputable def StackOK (h : Heap) : List Env → Prop
  | [] => True
  | env :: r => env.scope.kind ≠ .module ∧ (∃ L o, env.frame = some L ∧ h.get? L = some o ∧ ∀ vs, o.data ≠ .fields vs) ∧ StackOK h r

theorem StackOK.keeps {h h' : Heap} (k : ∀ a o, h.get? a = some o → ∃ o', h'.get? a = some o' ∧ o'.data = o.data) : ∀ {l : List Env}, StackOK h l → StackOK h' l
  | [], _ => trivial
  | _ :: _, ⟨hk, ⟨L, o, hf, ho, hd⟩, hr⟩ => by
    obtain ⟨o', e1, e2⟩ := k L o ho
    exact ⟨hk, ⟨L, o', hf, e1, fun vs => e2 ▸ hd vs⟩, hr.keeps k⟩

theorem StackOK.mem {h : Heap} : ∀ {l : List Env}, StackOK h l → ∀ a ∈ frames l, ∃ o, h.get? a = some o
  | [], _, a, ha => by simp [frames] at ha
  | env :: r, ⟨_, ⟨L, o, hf, ho, _⟩, hr⟩, a, ha => by
    simp only [frames, List.filterMap_cons, hf] at ha
    rcases List.mem_cons.mp ha with rfl | ha
    · exact ⟨o, ho⟩
    · exact hr.mem a ha

noncomputable def foot (c : FC) (O : List (Addr × MO)) : List Addr := c.env.locals :: (c.own ++ (c.hid.map (·.1) ++ feet O))

/-- the slots of a frame -/
structure LocR (c : FC) (D : DM) (loc : List (Option V)) (h : Heap) : Prop where
  ns : ∃ m, h.Ns c.env.locals m ∧ ∀ (i : Nat) (x : Str) (v : V), c.env.scope.names[i]? = some (x, NameKind.local) → loc[i]? = some (some v) → ∃ val, m x = some val ∧ VR D v val
  cell : ∀ (i : Nat) (x : Str) (k : NameKind), c.env.scope.names[i]? = some (x, k) → k = .cell ∨ k = .free → ∃ ca o w, c.env.cells.lookup x = some ca ∧ h.get? ca = some o ∧ o.data = .cell w ∧ (ca ∈ c.own ∨ (c.B ca).isSome = true) ∧
      ∀ v, loc[i]? = some (some v) → ∃ val, w = some val ∧ VR D v val
  own : ∀ a ∈ c.own, ∃ o, h.get? a = some o

structure Rel (g0 : Heap) (c : FC) (D : DM) (σ : St) (s : Shared) : Prop where
  same : ∃ h t, s = { c.base with heap := h, toks := t }
  kD : ∀ a o, D a = some o → s.heap.get? a = some o
  gD : ∀ a o, g0.get? a = some o → D a = some o
  d0 : c.D₀.le D
  dn : ∀ a o, D a = some o → c.D₀ a = some o ∨ c.base.heap.get? a = none
  ex : ∀ a o, c.base.heap.get? a = some o → ∃ o', s.heap.get? a = some o'
  kB : ∀ a o, c.B a = some o → (∃ sl, s.heap.get? a = some { o with slots := sl }) ∧ (a ∉ frames c.stack → s.heap.get? a = some o)
  stk : StackOK s.heap c.stack
  loc : LocR c D σ.loc s.heap
  obj : ∀ p ∈ σ.objs, MOR D s.heap p.1 p.2
  hidR : ∀ p ∈ c.hid, s.heap.get? p.1 = some p.2
  disB : ∀ a ∈ foot c σ.objs, c.B a = none
  disD : ∀ a ∈ foot c σ.objs, D a = none
  disS : ∀ a ∈ frames c.stack, D a = none
  frB : ∀ a ∈ frames c.stack, a = c.env.locals ∨ (c.B a).isSome = true
  nd : (foot c σ.objs).Nodup

theorem Rel.feet_ex {g0 : Heap} {c : FC} {D : DM} {σ : St} {s : Shared} (R : Rel g0 c D σ s) : ∀ a ∈ foot c σ.objs, ∃ o, s.heap.get? a = some o := by
  intro a ha
  rcases List.mem_cons.mp ha with rfl | ha
  · obtain ⟨m, ⟨o, _, _, ho, _⟩, _⟩ := R.loc.ns; exact ⟨o, ho⟩
  · rcases List.mem_append.mp ha with ha | ha
    · exact R.loc.own a ha
    · rcases List.mem_append.mp ha with ha | ha
      · obtain ⟨p, hp, rfl⟩ := List.mem_map.mp ha; exact ⟨_, R.hidR p hp⟩
      · obtain ⟨p, hp, hb⟩ := List.mem_flatMap.mp ha
        exact (R.obj p hp).ex a hb

/-- nothing is lost: the state relation stays -/
theorem Rel.keep {g0 : Heap} {c : FC} {D : DM} {σ : St} {s : Shared} (R : Rel g0 c D σ s) {h' : Heap} {t' : Nat} (k : ∀ a o, s.heap.get? a = some o → h'.get? a = some o) : Rel g0 c D σ { s with heap := h', toks := t' } where
  same := by obtain ⟨h, t, e⟩ := R.same; exact ⟨h', t', by rw [e]⟩
  kD := fun a o e => k a o (R.kD a o e)
  gD := R.gD
  d0 := R.d0
  dn := R.dn
  ex := fun a o e => by obtain ⟨o', q⟩ := R.ex a o e; exact ⟨o', k _ _ q⟩
  kB := fun a o e => by
    obtain ⟨⟨sl, e1⟩, e2⟩ := R.kB a o e
    exact ⟨⟨sl, k _ _ e1⟩, fun n => k _ _ (e2 n)⟩
  stk := R.stk.keeps fun a o e => ⟨o, k a o e, rfl⟩
  loc := ⟨by obtain ⟨m, e1, e2⟩ := R.loc.ns; exact ⟨m, e1.keeps k, e2⟩, fun i x kd e1 e2 => by
      obtain ⟨ca, o, w, a1, a2, a3, a4, a5⟩ := R.loc.cell i x kd e1 e2
      exact ⟨ca, o, w, a1, k _ _ a2, a3, a4, a5⟩, fun a ha => by obtain ⟨o, e⟩ := R.loc.own a ha; exact ⟨o, k _ _ e⟩⟩
  obj := fun p hp => (R.obj p hp).keeps (DM.le_refl D) fun b _ o e => k b o e
  hidR := fun p hp => k _ _ (R.hidR p hp)
  disB := R.disB
  disD := R.disD
  disS := R.disS
  frB := R.frB
  nd := R.nd

/-- an object is laid among the frozen -/
noncomputable def DM.put (D : DM) (a : Addr) (o : Obj) : DM := fun b => if b = a then some o else D b
theorem DM.put_same (D : DM) (a : Addr) (o : Obj) : D.put a o a = some o := by simp [DM.put]
theorem DM.put_le {D : DM} {a : Addr} {o : Obj} (h : D a = none ∨ D a = some o) : D.le (D.put a o) := by
  intro b p e
  unfold DM.put
  split
  · rename_i q; subst q
    rcases h with h | h
    · rw [h] at e; cases e
    · rw [h] at e; exact e
  · exact e

theorem Rel.lay {g0 : Heap} {c : FC} {D : DM} {σ : St} {s : Shared} (R : Rel g0 c D σ s) {a : Addr} {o : Obj} (ho : s.heap.get? a = some o) (hB : c.base.heap.get? a = none) (hD : D a = none) (hf : a ∉ foot c σ.objs) (hs : a ∉ frames c.stack) : Rel g0 c (D.put a o) σ s := by
  have le : D.le (D.put a o) := DM.put_le (.inl hD)
  refine { R with kD := ?_, gD := ?_, d0 := DM.le_trans R.d0 le, dn := ?_, loc := ?_, obj := ?_, disD := ?_, disS := ?_ }
  · intro b p e
    unfold DM.put at e
    split at e
    · rename_i q; subst q; cases e; exact ho
    · exact R.kD b p e
  · exact fun b p e => le b p (R.gD b p e)
  · intro b p e
    unfold DM.put at e
    split at e
    · rename_i q; subst q; exact .inr hB
    · exact R.dn b p e
  · refine ⟨?_, fun i x kd e1 e2 => ?_, R.loc.own⟩
    · obtain ⟨m, e1, e2⟩ := R.loc.ns
      exact ⟨m, e1, fun i x v h1 h2 => by obtain ⟨val, q1, q2⟩ := e2 i x v h1 h2; exact ⟨val, q1, q2.mono le⟩⟩
    · obtain ⟨ca, oc, w, a1, a2, a3, a4, a5⟩ := R.loc.cell i x kd e1 e2
      exact ⟨ca, oc, w, a1, a2, a3, a4, fun v hv => by obtain ⟨val, q1, q2⟩ := a5 v hv; exact ⟨val, q1, q2.mono le⟩⟩
  · exact fun p hp => (R.obj p hp).keeps le fun b _ o e => e
  · intro b hb
    unfold DM.put
    rw [if_neg (show ¬ b = a from fun q => hf (q ▸ hb))]; exact R.disD b hb
  · intro b hb
    unfold DM.put
    rw [if_neg (show ¬ b = a from fun q => hs (q ▸ hb))]; exact R.disS b hb

theorem none_at {h : Heap} {a : Addr} (e : h.objs.size ≤ a) : h.get? a = none := by
  cases q : h.get? a with
  | none => rfl
  | some o => exact absurd (Heap.lt_size q) (Nat.not_lt.mpr e)

theorem Rel.fresh {g0 : Heap} {c : FC} {D : DM} {σ : St} {s : Shared} (R : Rel g0 c D σ s) {a : Addr} (hn : s.heap.get? a = none) : c.base.heap.get? a = none ∧ D a = none ∧ a ∉ foot c σ.objs ∧ a ∉ frames c.stack ∧ c.B a = none := by
  refine ⟨?_, ?_, fun h => ?_, fun h => ?_, ?_⟩
  · cases q : c.base.heap.get? a with
    | none => rfl
    | some o => obtain ⟨o', e⟩ := R.ex a o q; rw [hn] at e; cases e
  · cases q : D a with
    | none => rfl
    | some o => have := R.kD a o q; rw [hn] at this; cases this
  · obtain ⟨o, e⟩ := R.feet_ex a h; rw [hn] at e; cases e
  · obtain ⟨o, e⟩ := R.stk.mem a h; rw [hn] at e; cases e
  · cases q : c.B a with
    | none => rfl
    | some o => obtain ⟨⟨sl, e⟩, _⟩ := R.kB a o q; rw [hn] at e; cases e

end Mine
end

section
open PySem PySem.W PyProof.Rows PySem.Calls
namespace Mine

noncomputable abbrev P0 : Program := PySem.Challenge.rw_no0380_01.row.prog

structure Cx where
  w : World
  g0 : Heap
  b : Bool

noncomputable abbrev KK (X : Cx) : Frag := hd.heap_39 X.w.params

structure Gd (X : Cx) : Prop where
  K : (KK X).In X.g0
  mg : ∃ mg, X.g0.Ns mainGlobals mg
  mb : ∃ mb, X.g0.Ns builtinsNs mb ∧ ∀ x : Str, x ≠ "__name__" → mb x = bootBuiltins x
  nolimit : X.g0.NoLimit
  nodigits : ∃ mc, X.g0.Ns cStatics mc ∧ mc "sys.int_max_str_digits" = none

structure EnvOK (env : Env) : Prop where
  kind : env.scope.kind = .function
  glob : env.globals = mainGlobals
  bltn : env.builtins = builtinsNs
  nd : (env.scope.names.map (·.1)).Nodup
  nodbg : ∀ x ∈ env.scope.names.map (·.1), (x == ("__debug__" : Str)) = false ∧ (x == ("__classdict__" : Str)) = false
  frame : ∃ L, env.frame = some L
  cinj : ∀ x y ca, env.cells.lookup x = some ca → env.cells.lookup y = some ca → x = y

structure Room (A : Around) (k : Nat) : Prop where
  depth : A.depth + 2 * k + 2 < 1000
  units : A.units + 40 * k + 40 < 9900

theorem Room.d {A : Around} {k : Nat} (h : Room A k) : A.depth < recursionLimit := by have := h.depth; show _ < 1000; (first | lia | omega)
theorem Room.u {A : Around} {k : Nat} (h : Room A k) : A.units < cLine := by have := h.units; show _ < 9900; (first | lia | omega)
/-- a wire fault on its way, seen in the frame that it came to -/
structure FlightP (c : FC) (e : Value) (s' : Shared) (ea : Addr) (a0 : Value) (b h : Heap) (t : Nat) : Prop where
  e1 : e = .ref ea
  e2 : s' = { c.base with heap := h, toks := t }
  f1 : ∀ a o, c.B a = some o → a ∉ frames c.stack → b.get? a = some o
  f2 : ∀ a o, c.B a = some o → ∃ sl, h.get? a = some { o with slots := sl }
  f3 : b.StaysIn h
  f4 : b.get? ea = none
  f5 : h.FunFrames b c.stack
  f6 : ∃ m, h.Ns c.env.locals m
  f7 : (∃ oe vs, h.get? ea = some oe ∧ oe.cls = .ref 71 ∧ oe.data = .fields vs ∧ vs[0]? = some a0 ∧ vs[1]? = some .none) ∨ ∃ v, h.TracedAtW b ea (.ref 71) a0 v
noncomputable def FlightIn (c : FC) (e : Value) (s' : Shared) : Prop := ∃ (ea : Addr) (a0 : Value) (b h : Heap) (t : Nat), FlightP c e s' ea a0 b h t

noncomputable abbrev W (α : Type) := (α → St → Prop) → Prop → St → Prop

/-! the continuations by name, so that a proof's goals stay small -/
section
variable {α : Type}
noncomputable abbrev wVal (v : V) : W V := fun Q _ σ => Q v σ
noncomputable abbrev wYes : W Bool := fun Q _ σ => Q true σ
noncomputable abbrev wNay : W Bool := fun Q _ σ => Q false σ
noncomputable abbrev bOf (QV : Bool → St → Prop) : V → St → Prop := fun v σ => match v with
  | .bool b => QV b σ
  | _ => False
noncomputable abbrev kIf (x y : W α) (QV : α → St → Prop) (EV : Prop) : Bool → St → Prop := fun q σ => if q then x QV EV σ else y QV EV σ
noncomputable abbrev wThen (dt : W Bool) (x y : W α) : W α := fun QV EV σ => dt (kIf x y QV EV) EV σ
noncomputable abbrev kU (f : V → W α) (QV : α → St → Prop) (EV : Prop) : V → St → Prop := fun a σ => f a QV EV σ
noncomputable abbrev wUn (d : W V) (f : V → W α) : W α := fun QV EV σ => d (kU f QV EV) EV σ
noncomputable abbrev kB2 (f : V → V → W α) (a : V) (QV : α → St → Prop) (EV : Prop) : V → St → Prop := fun b σ => f a b QV EV σ
noncomputable abbrev kB1 (dr : W V) (f : V → V → W α) (QV : α → St → Prop) (EV : Prop) : V → St → Prop := fun a σ => dr (kB2 f a QV EV) EV σ
noncomputable abbrev wBin (dl dr : W V) (f : V → V → W α) : W α := fun QV EV σ => dl (kB1 dr f QV EV) EV σ
noncomputable abbrev fT (f : V → V → W V) (a b : V) : W Bool := fun QV EV σ => f a b (bOf QV) EV σ
noncomputable abbrev wTst (d : W V) : W Bool := fun QV EV σ => d (bOf QV) EV σ
noncomputable abbrev fCh (f1 : V → V → W V) (d2 : W V) (f2 : V → V → W α) (y : W α) (a b : V) : W α := fun QV EV σ => f1 a b (bOf (kIf (wUn d2 (f2 b)) y QV EV)) EV σ
noncomputable abbrev kNot (QV : Bool → St → Prop) : Bool → St → Prop := fun b σ => QV (!b) σ
noncomputable abbrev wNotT (d : W Bool) : W Bool := fun QV EV σ => d (kNot QV) EV σ
noncomputable abbrev wNilA : W (List V) := fun QV _ σ => QV [] σ
noncomputable abbrev kC2 (v : V) (QV : List V → St → Prop) : List V → St → Prop := fun vs σ => QV (v :: vs) σ
noncomputable abbrev kC1 (dr : W (List V)) (QV : List V → St → Prop) (EV : Prop) : V → St → Prop := fun v σ => dr (kC2 v QV) EV σ
noncomputable abbrev wCons (d : W V) (dr : W (List V)) : W (List V) := fun QV EV σ => d (kC1 dr QV EV) EV σ
noncomputable abbrev kArg (g : List V → W V) (QV : V → St → Prop) (EV : Prop) : List V → St → Prop := fun vs σ => g vs QV EV σ
noncomputable abbrev wArg (da : W (List V)) (g : List V → W V) : W V := fun QV EV σ => da (kArg g QV EV) EV σ
noncomputable abbrev kM2 (g : List V → W V) (ov : V) (QV : V → St → Prop) (EV : Prop) : List V → St → Prop := fun vs σ => g (ov :: vs) QV EV σ
noncomputable abbrev kM1 (C : V → St → Prop) (da : W (List V)) (g : List V → W V) (QV : V → St → Prop) (EV : Prop) : V → St → Prop := fun ov σ => C ov σ ∧ da (kM2 g ov QV EV) EV σ
noncomputable abbrev wMeth (do_ : W V) (C : V → St → Prop) (da : W (List V)) (g : List V → W V) : W V := fun QV EV σ => do_ (kM1 C da g QV EV) EV σ
theorem kif_t {x y : W α} {QV : α → St → Prop} {EV : Prop} {σ : St} (h : x QV EV σ) : kIf x y QV EV true σ := h
theorem kif_f {x y : W α} {QV : α → St → Prop} {EV : Prop} {σ : St} (h : y QV EV σ) : kIf x y QV EV false σ := h
theorem bif_t {x y : W α} {QV : α → St → Prop} {EV : Prop} {σ : St} (h : x QV EV σ) : bOf (kIf x y QV EV) (.bool true) σ := h
theorem bif_f {x y : W α} {QV : α → St → Prop} {EV : Prop} {σ : St} (h : y QV EV σ) : bOf (kIf x y QV EV) (.bool false) σ := h
end

structure Pre (X : Cx) (k : Nat) (c : FC) (A : Around) (D : DM) (σ : St) (s : Shared) : Prop where
  G : Gd X
  ok : EnvOK c.env
  ownf : c.env.func.isSome = true → ∀ (i : Nat) (x : Str) (ca : Addr), c.env.scope.names[i]? = some (x, .cell) → c.env.cells.lookup x = some ca → ca ∈ c.own
  room : Room A k
  hh : A.handled = none
  top : ∃ fenv outer, c.stack = fenv :: outer ∧ fenv.frame = c.env.frame
  fr : A.frames = some c.stack
  rel : Rel X.g0 c D σ s

noncomputable def Out (X : Cx) (c : FC) (D : DM) (QV : V → St → Prop) (Q : Value → Shared → Prop) : Prop :=
  ∀ v vv D' σ' s', Rel X.g0 c D' σ' s' → D.le D' → VR D' v vv → QV v σ' → Q vv s'
noncomputable def OutE (c : FC) (EV : Prop) (E : Value → Shared → Prop) : Prop := EV → ∀ e s', FlightIn c e s' → E e s'

theorem Out.le {X : Cx} {c : FC} {D D' : DM} {QV : V → St → Prop} {Q : Value → Shared → Prop} (h : Out X c D QV Q) (k : D.le D') : Out X c D' QV Q :=
  fun v vv D2 σ' s' R l hv q => h v vv D2 σ' s' R (DM.le_trans k l) hv q
theorem Pre.to {X : Cx} {k : Nat} {c : FC} {A : Around} {D D' : DM} {σ σ' : St} {s s' : Shared} (P : Pre X k c A D σ s) (R : Rel X.g0 c D' σ' s') : Pre X k c A D' σ' s' := { P with rel := R }

noncomputable def TE (X : Cx) (k : Nat) (env : Env) (e : Expr) (d : W V) : Prop :=
  ∀ c A D σ s QV EV Q E, c.env = env → Pre X k c A D σ s → d QV EV σ → Out X c D QV Q → OutE c EV E → wpG X.b (model P0 X.w) A (eval e env) Q E s

/-- the value as it is -/
theorem Out.val {X : Cx} {c : FC} {D : DM} {QV : V → St → Prop} {Q : Value → Shared → Prop} (O : Out X c D QV Q) {σ : St} {s : Shared} (R : Rel X.g0 c D σ s) {v : V} {vv : Value} (hv : VR D v vv) (h : QV v σ) : Q vv s :=
  O v vv D σ s R (DM.le_refl D) hv h

theorem Rel.toks {g0 : Heap} {c : FC} {D : DM} {σ : St} {s : Shared} (R : Rel g0 c D σ s) (t : Nat) : Rel g0 c D σ { s with toks := t } := R.keep fun _ _ e => e


section
variable {X : Cx} {k : Nat} {env : Env}

theorem te_int {i : Int} {n : Nat} {pos : Pos} : TE X k env (.Constant (.int i) n pos) (wVal (.int i)) :=
  fun _ _ _ _ _ _ _ _ _ _ P h O _ => g_of (wpAny_Constant_int (O.val (P.rel.toks _) (.int _ _) h))
theorem te_none {n : Nat} {pos : Pos} : TE X k env (.Constant .none n pos) (wVal .none) :=
  fun _ _ _ _ _ _ _ _ _ _ P h O _ => g_pure (O.val P.rel .none h)
theorem te_bool {b : Bool} {n : Nat} {pos : Pos} : TE X k env (.Constant (.bool b) n pos) (wVal (.bool b)) :=
  fun _ _ _ _ _ _ _ _ _ _ P h O _ => g_pure (O.val P.rel (.bool b) h)
theorem te_bytes {b : List UInt8} {n : Nat} {pos : Pos} : TE X k env (.Constant (.bytes b) n pos) (wVal (.bytes b)) :=
  fun _ _ _ _ s _ _ _ _ _ P h O _ => g_of fun _ _ _ => O.val (P.rel.toks (s.toks + 1)) (.bytes b s.toks) h
theorem te_str {x : Str} {l : List Nat} (e : x = strD l) {n : Nat} {pos : Pos} : TE X k env (.Constant (.str x) n pos) (wVal (.str l)) :=
  fun _ _ _ _ s _ _ _ _ _ P h O _ => by subst e; exact g_of fun _ _ _ => O.val (P.rel.toks (s.toks + 1)) (.str l s.toks) h

theorem lookup_nd {α : Type} {x : Str} {k : α} : ∀ {l : List (Str × α)} {i : Nat}, (l.map (·.1)).Nodup → l[i]? = some (x, k) → l.lookup x = some k
  | [], _, _, h => by simp at h
  | (y, k') :: r, 0, nd, h => by simp at h; obtain ⟨rfl, rfl⟩ := h; simp [List.lookup]
  | (y, k') :: r, i + 1, nd, h => by
    simp only [List.map_cons, List.nodup_cons] at nd
    simp only [List.getElem?_cons_succ] at h
    have hne : (x == y) = false := by
      refine beq_eq_false_iff_ne.mpr fun q => nd.1 ?_
      subst q
      exact List.mem_map.mpr ⟨(x, k), List.mem_of_getElem? h, rfl⟩
    rw [List.lookup_cons, hne]
    exact lookup_nd nd.2 h

theorem kind_of {env : Env} (ok : EnvOK env) {i : Nat} {x : Str} {kd : NameKind} (h : env.scope.names[i]? = some (x, kd)) : env.kindOf x = some kd := lookup_nd ok.nd h
theorem dbg_of {env : Env} (ok : EnvOK env) {i : Nat} {x : Str} {kd : NameKind} (h : env.scope.names[i]? = some (x, kd)) : (x == ("__debug__" : Str)) = false :=
  (ok.nodbg x (List.mem_map.mpr ⟨_, List.mem_of_getElem? h, rfl⟩)).1
theorem cdc_of {env : Env} (ok : EnvOK env) {i : Nat} {x : Str} {kd : NameKind} (h : env.scope.names[i]? = some (x, kd)) : (x == ("__classdict__" : Str)) = false :=
  (ok.nodbg x (List.mem_map.mpr ⟨_, List.mem_of_getElem? h, rfl⟩)).2

noncomputable def wLoc (i : Nat) : W V := fun Q _ σ => match σ.loc[i]? with
  | some (some v) => Q v σ
  | _ => False

theorem wLoc_inv {i : Nat} {Q : V → St → Prop} {E : Prop} {σ : St} (h : wLoc i Q E σ) : ∃ v, σ.loc[i]? = some (some v) ∧ Q v σ := by
  unfold wLoc at h
  split at h
  · rename_i v e; exact ⟨v, e, h⟩
  · exact h.elim

theorem te_loc (i : Nat) {x : Str} {pos : Pos} (hx : env.scope.names[i]? = some (x, .local)) : TE X k env (.Name x pos) (wLoc i) :=
  fun c A D σ s QV EV Q E hc P h O _ => by
    subst hc
    obtain ⟨v, e, h⟩ := wLoc_inv h
    obtain ⟨m, hm, hl⟩ := P.rel.loc.ns
    obtain ⟨val, e1, e2⟩ := hl i x v hx e
    exact g_of (wpAny_Name (wpAny_loadName_local P.ok.kind (kind_of P.ok hx) hm e1 (O.val P.rel e2 h)) (dbg_of P.ok hx))

theorem te_cell (i : Nat) {x : Str} {pos : Pos} (hx : env.scope.names[i]? = some (x, .cell)) : TE X k env (.Name x pos) (wLoc i) :=
  fun c A D σ s QV EV Q E hc P h O _ => by
    subst hc
    obtain ⟨v, e, h⟩ := wLoc_inv h
    obtain ⟨ca, o, w, a1, a2, a3, a4, a5⟩ := P.rel.loc.cell i x _ hx (.inl rfl)
    obtain ⟨val, rfl, e2⟩ := a5 v e
    exact g_of (wpAny_Name (wpAny_loadName_cell P.ok.kind (kind_of P.ok hx) a1 ⟨o, a2, a3⟩ (O.val P.rel e2 h)) (dbg_of P.ok hx))

theorem te_free (i : Nat) {x : Str} {pos : Pos} (hx : env.scope.names[i]? = some (x, .free)) : TE X k env (.Name x pos) (wLoc i) :=
  fun c A D σ s QV EV Q E hc P h O _ => by
    subst hc
    obtain ⟨v, e, h⟩ := wLoc_inv h
    obtain ⟨ca, o, w, a1, a2, a3, a4, a5⟩ := P.rel.loc.cell i x _ hx (.inr rfl)
    obtain ⟨val, rfl, e2⟩ := a5 v e
    exact g_of (wpAny_Name (wpAny_loadName_free P.ok.kind (kind_of P.ok hx) a1 ⟨o, a2, a3⟩ (O.val P.rel e2 h) (cdc_of P.ok hx)) (dbg_of P.ok hx))

/-- a global name of the text: its value is written -/
theorem te_glob (i : Nat) {x : Str} {pos : Pos} (hx : env.scope.names[i]? = some (x, .globalImplicit)) {v : V} {vv : Value} (e : ∀ P : Params, nsIn (hd.heap_39 P) mainGlobals x = some (some vv)) (hv : VR (fun _ => none) v vv) : TE X k env (.Name x pos) (wVal v) :=
  fun c A D σ s QV EV Q E hc P h O _ => by
    subst hc
    obtain ⟨mg, hg⟩ := P.G.mg
    have hk : ∀ b o, X.g0.get? b = some o → s.heap.get? b = some o := fun b o q => P.rel.kD _ _ (P.rel.gD _ _ q)
    refine g_of <| Name_function_global P.ok.kind (kind_of P.ok hx) (loadGlobal_global (mg := mg) (P.ok.glob ▸ hg.keeps hk) (mg_of P.G.K hg (e _)) (O.val P.rel (hv.mono (fun _ _ q => by cases q)) h)) (dbg_of P.ok hx)

theorem te_bltn (i : Nat) {x : Str} {pos : Pos} (hx : env.scope.names[i]? = some (x, .globalImplicit)) {vv : Value} (e : ∀ P : Params, nsIn (hd.heap_39 P) mainGlobals x = some none) (hb : bootBuiltins x = some vv) (hn : x ≠ "__name__") : TE X k env (.Name x pos) (wVal (.raw vv)) :=
  fun c A D σ s QV EV Q E hc P h O _ => by
    subst hc
    obtain ⟨mg, hg⟩ := P.G.mg
    obtain ⟨mb, hmb, hbt⟩ := P.G.mb
    have hk : ∀ b o, X.g0.get? b = some o → s.heap.get? b = some o := fun b o q => P.rel.kD _ _ (P.rel.gD _ _ q)
    refine g_of <| Name_function_global P.ok.kind (kind_of P.ok hx) (loadGlobal_builtin (mg := mg) (mb := mb) (P.ok.glob ▸ hg.keeps hk) (mg_none_of P.G.K hg (e _)) (P.ok.bltn ▸ hmb.keeps hk) ((hbt x hn).trans hb) (O.val P.rel (.raw _) h)) (dbg_of P.ok hx)

noncomputable def TB (X : Cx) (k : Nat) (m : Value → Value → Sem Value) (f : V → V → W V) : Prop :=
  ∀ c A D σ s a b va vb QV EV Q E, Pre X k c A D σ s → VR D a va → VR D b vb → f a b QV EV σ → Out X c D QV Q → OutE c EV E → wpAny (model P0 X.w) A (m va vb) Q E s

theorem te_bin {l r : Expr} {op : Operator} {pos : Pos} {dl dr : W V} {f : V → V → W V} (hl : TE X k env l dl) (hr : TE X k env r dr) (ho : TB X k (binaryOp op) f) :
    TE X k env (.BinOp l op r pos) (wBin dl dr f) :=
  fun c A D σ s QV EV Q E hc P h O OE => g_BinOp (hl c A D σ s _ EV _ E hc P h (fun a va D1 σ1 s1 R1 l1 v1 h1 =>
    hr c A D1 σ1 s1 _ EV _ E hc (P.to R1) h1 (fun b vb D2 σ2 s2 R2 l2 v2 h2 => g_of (ho c A D2 σ2 s2 a b va vb QV EV Q E (P.to R2) (v1.mono l2) v2 h2 (O.le (DM.le_trans l1 l2)) OE)) OE) OE)

theorem te_cmp {l r : Expr} {op : CmpOp} {pos : Pos} {dl dr : W V} {f : V → V → W V} (hl : TE X k env l dl) (hr : TE X k env r dr) (ho : TB X k (compareOp op) f) (hm : behindInMarks op r = false := by rfl) :
    TE X k env (.Compare l [op] [r] pos) (wBin dl dr f) :=
  fun c A D σ s QV EV Q E hc P h O OE => g_Compare1 (hl c A D σ s _ EV _ E hc P h (fun a va D1 σ1 s1 R1 l1 v1 h1 =>
    hr c A D1 σ1 s1 _ EV _ E hc (P.to R1) h1 (fun b vb D2 σ2 s2 R2 l2 v2 h2 => g_of (ho c A D2 σ2 s2 a b va vb QV EV Q E (P.to R2) (v1.mono l2) v2 h2 (O.le (DM.le_trans l1 l2)) OE)) OE) OE) hm

/-- a test -/
noncomputable def OutB (X : Cx) (c : FC) (D : DM) (QV : Bool → St → Prop) (Q : Bool → Shared → Prop) : Prop :=
  ∀ b D' σ' s', Rel X.g0 c D' σ' s' → D.le D' → QV b σ' → Q b s'
theorem OutB.le {X : Cx} {c : FC} {D D' : DM} {QV : Bool → St → Prop} {Q : Bool → Shared → Prop} (h : OutB X c D QV Q) (k : D.le D') : OutB X c D' QV Q :=
  fun b D2 σ' s' R l q => h b D2 σ' s' R (DM.le_trans k l) q
noncomputable def TT (X : Cx) (k : Nat) (env : Env) (e : Expr) (d : W Bool) : Prop :=
  ∀ c A D σ s QV EV Q E, c.env = env → Pre X k c A D σ s → d QV EV σ → OutB X c D QV Q → OutE c EV E → wpG X.b (model P0 X.w) A (isTrue e env (eval e env)) Q E s


theorem tt_cmp {l r : Expr} {op : CmpOp} {pos : Pos} {dl dr : W V} {f : V → V → W V} (hl : TE X k env l dl) (hr : TE X k env r dr) (ho : TB X k (compareOp op) f) (hm : behindInMarks op r = false := by rfl) :
    TT X k env (.Compare l [op] [r] pos) (wBin dl dr (fT f)) :=
  fun c A D σ s QV EV Q E hc P h O OE => g_isTrue_Compare1 (hl c A D σ s _ EV _ E hc P h (fun a va D1 σ1 s1 R1 l1 v1 h1 =>
    hr c A D1 σ1 s1 _ EV _ E hc (P.to R1) h1 (fun b vb D2 σ2 s2 R2 l2 v2 h2 => g_of <| ho c A D2 σ2 s2 a b va vb (bOf QV) EV _ E (P.to R2) (v1.mono l2) v2 h2 (fun v vv D3 σ3 s3 R3 l3 v3 h3 => by
      cases v3 with
      | bool q => exact g_of <| wpAny_truthy_bool (O q D3 σ3 s3 R3 (DM.le_trans (DM.le_trans l1 l2) l3) h3)
      | _ => exact h3.elim) OE) OE) OE) hm

theorem te_ifexp {t b o : Expr} {pos : Pos} {dt : W Bool} {db do_ : W V} (ht : TT X k env t dt) (hb : TE X k env b db) (ho : TE X k env o do_) :
    TE X k env (.IfExp t b o pos) (wThen dt db do_) :=
  fun c A D σ s QV EV Q E hc P h O OE => by
    refine g_IfExp (ht c A D σ s _ EV _ E hc P h (fun q D1 σ1 s1 R1 l1 h1 => ?_) OE)
    cases q with
    | true => exact hb c A D1 σ1 s1 QV EV Q E hc (P.to R1) h1 (O.le l1) OE
    | false => exact ho c A D1 σ1 s1 QV EV Q E hc (P.to R1) h1 (O.le l1) OE

/-- statements -/
inductive FV where
  | next
  | ret (v : V)

noncomputable def FR (D : DM) : FV → Flow → Prop
  | .next, f => f = .next
  | .ret v, f => ∃ vv, f = .ret vv ∧ VR D v vv

noncomputable def OutS (X : Cx) (c : FC) (D : DM) (QV : FV → St → Prop) (Q : Flow → Shared → Prop) : Prop :=
  ∀ f ff D' σ' s', Rel X.g0 c D' σ' s' → D.le D' → FR D' f ff → QV f σ' → Q ff s'
theorem OutS.le {X : Cx} {c : FC} {D D' : DM} {QV : FV → St → Prop} {Q : Flow → Shared → Prop} (h : OutS X c D QV Q) (k : D.le D') : OutS X c D' QV Q :=
  fun b ff D2 σ' s' R l fr q => h b ff D2 σ' s' R (DM.le_trans k l) fr q
noncomputable def TS1 (X : Cx) (k : Nat) (env : Env) (st : Stmt) (d : W FV) : Prop :=
  ∀ c A D σ s QV EV Q E, c.env = env → Pre X k c A D σ s → d QV EV σ → OutS X c D QV Q → OutE c EV E → wpG X.b (model P0 X.w) A (exec st env) Q E s
noncomputable def TS (X : Cx) (k : Nat) (env : Env) (l : List Stmt) (d : W FV) : Prop :=
  ∀ c A D σ s QV EV Q E, c.env = env → Pre X k c A D σ s → d QV EV σ → OutS X c D QV Q → OutE c EV E → wpG X.b (model P0 X.w) A (execs l env) Q E s

noncomputable abbrev wNext (dr : W FV) (QV : FV → St → Prop) (EV : Prop) : FV → St → Prop := fun f σ1 => match f with | .next => dr QV EV σ1 | .ret v => QV (.ret v) σ1
noncomputable abbrev wSeq (d dr : W FV) : W FV := fun QV EV σ => d (wNext dr QV EV) EV σ
noncomputable abbrev wNil : W FV := fun QV _ σ => QV .next σ
noncomputable abbrev wIf (dt : W Bool) (db do_ : W FV) : W FV := wThen dt db do_
noncomputable abbrev kRet (QV : FV → St → Prop) : V → St → Prop := fun v σ => QV (.ret v) σ
noncomputable abbrev wRet (d : W V) : W FV := fun QV EV σ => d (kRet QV) EV σ
noncomputable abbrev kNx (QV : FV → St → Prop) : Unit → St → Prop := fun _ σ => QV .next σ
noncomputable abbrev kAsg (f : V → W Unit) (QV : FV → St → Prop) (EV : Prop) : V → St → Prop := fun v σ => f v (kNx QV) EV σ
noncomputable abbrev wAsg (d : W V) (f : V → W Unit) : W FV := fun QV EV σ => d (kAsg f QV EV) EV σ
noncomputable abbrev kExp (QV : FV → St → Prop) : V → St → Prop := fun _ σ => QV .next σ
noncomputable abbrev wExp (d : W V) : W FV := fun QV EV σ => d (kExp QV) EV σ

theorem ts_nil : TS X k env [] wNil :=
  fun _ _ D σ s _ _ _ _ _ P h O _ => g_of <| wpAny_execs_nil (O .next .next D σ s P.rel (DM.le_refl D) rfl h)
theorem ts_cons {st : Stmt} {r : List Stmt} {d : W FV} {dr : W FV} (h1 : TS1 X k env st d) (h2 : TS X k env r dr) :
    TS X k env (st :: r) (wSeq d dr) :=
  fun c A D σ s QV EV Q E hc P h O OE => g_execs_cons (h1 c A D σ s _ EV _ E hc P h (fun f ff D1 σ1 s1 R1 l1 fr q => by
    cases f with
    | next => cases fr; exact h2 c A D1 σ1 s1 QV EV Q E hc (P.to R1) q (O.le l1) OE
    | ret v => obtain ⟨vv, rfl, hv⟩ := fr; exact O (.ret v) (.ret vv) D1 σ1 s1 R1 l1 ⟨vv, rfl, hv⟩ q) OE)

theorem ts_ret {e : Expr} {pos : Pos} {d : W V} (h : TE X k env e d) : TS1 X k env (.Return (some e) pos) (wRet d) :=
  fun c A D σ s QV EV Q E hc P q O OE => g_Return (h c A D σ s _ EV _ E hc P q (fun v vv D1 σ1 s1 R1 l1 hv h1 => O (.ret v) (.ret vv) D1 σ1 s1 R1 l1 ⟨vv, rfl, hv⟩ h1) OE)

theorem ts_if {t : Expr} {b o : List Stmt} {pos : Pos} {dt : W Bool} {db do_ : W FV} (ht : TT X k env t dt) (hb : TS X k env b db) (ho : TS X k env o do_) :
    TS1 X k env (.If t b o pos) (wIf dt db do_) :=
  fun c A D σ s QV EV Q E hc P h O OE => g_If (ht c A D σ s _ EV _ E hc P h (fun q D1 σ1 s1 R1 l1 h1 => by
    cases q with
    | true => exact hb c A D1 σ1 s1 QV EV Q E hc (P.to R1) h1 (O.le l1) OE
    | false => exact ho c A D1 σ1 s1 QV EV Q E hc (P.to R1) h1 (O.le l1) OE) OE)
end
end Mine
end

section
open PySem PySem.W PyProof.Rows PySem.Calls
namespace Mine

/-- a wire fault on its way out of a call -/
structure FlightQ (H : Heap) (X : List Addr) (l : List Env) (base : Shared) (e : Value) (s' : Shared) (ea : Addr) (a0 : Value) (b h : Heap) (t : Nat) : Prop where
  e1 : e = .ref ea
  e2 : s' = { base with heap := h, toks := t }
  f1 : ∀ a o, H.get? a = some o → a ∉ frames l → a ∉ X → b.get? a = some o
  f2 : ∀ a o, H.get? a = some o → a ∉ X → ∃ sl, h.get? a = some { o with slots := sl }
  f3 : b.StaysIn h
  f4 : b.get? ea = none
  f5 : h.FunFrames b l
  f6 : h.TracedAtW b ea (.ref 71) a0 .none
noncomputable def Flight (H : Heap) (X : List Addr) (l : List Env) (base : Shared) (e : Value) (s' : Shared) : Prop := ∃ (ea : Addr) (a0 : Value) (b h : Heap) (t : Nat), FlightQ H X l base e s' ea a0 b h t

structure CPre (X : Cx) (k : Nat) (A : Around) (l : List Env) (D : DM) (O : List (Addr × MO)) (s : Shared) : Prop where
  G : Gd X
  room : Room A k
  hh : A.handled = none
  fr : A.frames = some l
  stk : StackOK s.heap l
  kD : ∀ a o, D a = some o → s.heap.get? a = some o
  gD : ∀ a o, X.g0.get? a = some o → D a = some o
  obj : ∀ p ∈ O, MOR D s.heap p.1 p.2
  nd : (feet O).Nodup
  disD : ∀ a ∈ feet O, D a = none
  disF : ∀ a ∈ feet O, a ∉ frames l
  disS : ∀ a ∈ frames l, D a = none

structure CPost (X : Cx) (l : List Env) (D : DM) (O : List (Addr × MO)) (s : Shared) (v : V) (vv : Value) (D' : DM) (O' : List (Addr × MO)) (h' : Heap) : Prop where
  le : D.le D'
  fresh : ∀ a o, D' a = some o → D a = some o ∨ s.heap.get? a = none
  kD : ∀ a o, D' a = some o → h'.get? a = some o
  keep : ∀ a o, s.heap.get? a = some o → a ∉ feet O → (∃ sl, h'.get? a = some { o with slots := sl }) ∧ (a ∉ frames l → h'.get? a = some o)
  ex : ∀ a ∈ feet O, ∃ o, h'.get? a = some o
  obj : ∀ p ∈ O', MOR D' h' p.1 p.2
  nd : (feet O').Nodup
  disD : ∀ a ∈ feet O', D' a = none
  from_ : ∀ a ∈ feet O', a ∈ feet O ∨ s.heap.get? a = none
  val : VR D' v vv

/-- the contract of a call -/
noncomputable def CT (X : Cx) (k : Nat) (f : Value) (args : List V) (O : List (Addr × MO)) (QV : V → List (Addr × MO) → Prop) (EV : Prop) : Prop :=
  ∀ A l D s vals (Q : Value → Shared → Prop) (E : Value → Shared → Prop), CPre X k A l D O s → VRs D args vals →
    (∀ v vv D' O' h' t', CPost X l D O s v vv D' O' h' → QV v O' → Q vv { s with heap := h', toks := t' }) →
    (EV → ∀ e s', Flight s.heap (feet O) l s e s' → E e s') →
    codeG X.b (model P0 X.w) A (.call f ⟨vals, []⟩) (fun r s' => match r with | .ok (.ret v) => Q v s' | .ok _ => False | .error e => E e s') s

theorem CT.mono {X : Cx} {k : Nat} {f : Value} {args : List V} {O : List (Addr × MO)} {QV QV' : V → List (Addr × MO) → Prop} {EV EV' : Prop} (h : CT X k f args O QV EV) (hq : ∀ v O', QV v O' → QV' v O') (he : EV → EV') : CT X k f args O QV' EV' :=
  fun A l D s vals Q E P hv O1 O2 => h A l D s vals Q E P hv (fun v vv D' O' h' t' p q => O1 v vv D' O' h' t' p (hq _ _ q)) (fun ev => O2 (he ev))

theorem feet_append (O O' : List (Addr × MO)) : feet (O ++ O') = feet O ++ feet O' := by simp [feet]

theorem Rel.cpre {X : Cx} {k : Nat} {c : FC} {A : Around} {D : DM} {σ : St} {s : Shared} (P : Pre X k c A D σ s) {pre O post : List (Addr × MO)} (ho : σ.objs = pre ++ (O ++ post)) : CPre X k A c.stack D O s := by
  have R := P.rel
  have hin : ∀ a ∈ feet O, a ∈ foot c σ.objs := fun a ha => by
    rw [foot, ho, feet_append, feet_append]
    exact List.mem_cons_of_mem _ (List.mem_append_right _ (List.mem_append_right _ (List.mem_append_right _ (List.mem_append_left _ ha))))
  have nd := R.nd
  rw [foot, ho, feet_append, feet_append] at nd
  refine ⟨P.G, P.room, P.hh, P.fr, R.stk, R.kD, R.gD, fun p hp => R.obj p (by rw [ho]; exact List.mem_append_right _ (List.mem_append_left _ hp)), ?_, fun a ha => R.disD a (hin a ha), fun a ha hf => ?_, R.disS⟩
  · have := (List.nodup_cons.mp nd).2
    have := (List.nodup_append.mp this).2.1
    have := (List.nodup_append.mp this).2.1
    have := (List.nodup_append.mp this).2.1
    exact (List.nodup_append.mp this).1
  · rcases R.frB a hf with e | e
    · have := (List.nodup_cons.mp nd).1
      exact this (by rw [← e]; exact List.mem_append_right _ (List.mem_append_right _ (List.mem_append_right _ (List.mem_append_left _ ha))))
    · rw [R.disB a (hin a ha)] at e; cases e

theorem Rel.after {X : Cx} {k : Nat} {c : FC} {A : Around} {D : DM} {σ : St} {s : Shared} (P : Pre X k c A D σ s) {pre O post : List (Addr × MO)} (ho : σ.objs = pre ++ (O ++ post))
    {v : V} {vv : Value} {D' : DM} {O' : List (Addr × MO)} {h' : Heap} {t' : Nat} (C : CPost X c.stack D O s v vv D' O' h') : Rel X.g0 c D' { σ with objs := pre ++ (O' ++ post) } { s with heap := h', toks := t' } := by
  have R := P.rel
  have nd := R.nd
  rw [foot, ho, feet_append, feet_append] at nd
  obtain ⟨nd1, nd2⟩ := List.nodup_cons.mp nd
  rw [← List.append_assoc] at nd2 nd1
  obtain ⟨nd3, nd4, nd5⟩ := List.nodup_append.mp nd2
  obtain ⟨nd6, nd7, nd8⟩ := List.nodup_append.mp nd4
  obtain ⟨nd9, nd10, nd11⟩ := List.nodup_append.mp nd7
  have mem : ∀ a, a ∈ foot c σ.objs ↔ a = c.env.locals ∨ a ∈ c.own ++ c.hid.map (·.1) ∨ a ∈ feet pre ∨ a ∈ feet O ∨ a ∈ feet post := fun a => by
    rw [foot, ho, feet_append, feet_append]; simp only [List.mem_cons, List.mem_append, or_assoc]
  have exx : ∀ a ∈ foot c σ.objs, ∃ o, s.heap.get? a = some o := R.feet_ex
  -- what is not of the call's feet
  have notO : ∀ a, (a = c.env.locals ∨ a ∈ c.own ++ c.hid.map (·.1) ∨ a ∈ feet pre ∨ a ∈ feet post) → a ∉ feet O := by
    intro a ha hO
    rcases ha with rfl | ha | ha | ha
    · exact nd1 (List.mem_append_right _ (List.mem_append_right _ (List.mem_append_left _ hO)))
    · exact nd5 a ha a (List.mem_append_right _ (List.mem_append_left _ hO)) rfl
    · exact nd8 a ha a (List.mem_append_left _ hO) rfl
    · exact nd11 a hO a ha rfl
  have BnotO : ∀ a, (c.B a).isSome = true → a ∉ feet O := fun a e hO => by
    rw [R.disB a ((mem a).mpr (.inr (.inr (.inr (.inl hO)))))] at e; cases e
  have keepS : ∀ a o, s.heap.get? a = some o → a ∉ feet O → ∃ sl, h'.get? a = some { o with slots := sl } := fun a o e n => (C.keep a o e n).1
  have notF : ∀ a, (a ∈ c.own ++ c.hid.map (·.1) ∨ a ∈ feet pre ∨ a ∈ feet post) → a ∉ frames c.stack := by
    intro a ha hf
    have hm : a ∈ foot c σ.objs := (mem a).mpr (by rcases ha with h | h | h; exact .inr (.inl h); exact .inr (.inr (.inl h)); exact .inr (.inr (.inr (.inr h))))
    rcases R.frB a hf with e | e
    · subst e
      rcases ha with h | h | h
      · exact nd1 (List.mem_append_left _ h)
      · exact nd1 (List.mem_append_right _ (List.mem_append_left _ h))
      · exact nd1 (List.mem_append_right _ (List.mem_append_right _ (List.mem_append_right _ h)))
    · rw [R.disB a hm] at e; cases e
  have Dn : ∀ a, D a = none → (∃ o, s.heap.get? a = some o) → D' a = none := fun a e ⟨o, ho'⟩ => by
    cases q : D' a with
    | none => rfl
    | some p =>
      rcases C.fresh a p q with h | h
      · rw [e] at h; cases h
      · rw [ho'] at h; cases h
  have memO' : ∀ a ∈ foot c (pre ++ (O' ++ post)), (a ∈ feet O') ∨ (a = c.env.locals ∨ a ∈ c.own ++ c.hid.map (·.1) ∨ a ∈ feet pre ∨ a ∈ feet post) := fun a ha => by
    rw [foot, feet_append, feet_append] at ha
    rw [← List.append_assoc] at ha
    rcases List.mem_cons.mp ha with h | ha
    · exact .inr (.inl h)
    rcases List.mem_append.mp ha with h | ha
    · exact .inr (.inr (.inl h))
    simp only [List.mem_append] at ha
    rcases ha with h | h | h
    · exact .inr (.inr (.inr (.inl h)))
    · exact .inl h
    · exact .inr (.inr (.inr (.inr h)))
  have old : ∀ a, (a = c.env.locals ∨ a ∈ c.own ++ c.hid.map (·.1) ∨ a ∈ feet pre ∨ a ∈ feet post) → a ∈ foot c σ.objs := fun a ha => (mem a).mpr (by
    rcases ha with h | h | h | h
    · exact .inl h
    · exact .inr (.inl h)
    · exact .inr (.inr (.inl h))
    · exact .inr (.inr (.inr (.inr h))))
  have apart : ∀ a, (a = c.env.locals ∨ a ∈ c.own ++ c.hid.map (·.1) ∨ a ∈ feet pre ∨ a ∈ feet post) → a ∉ feet O' := fun a ha h' => by
    rcases C.from_ a h' with h | h
    · exact notO a ha h
    · obtain ⟨o, e⟩ := exx a (old a ha); rw [e] at h; cases h
  refine ⟨?_, C.kD, fun a o e => C.le a o (R.gD a o e), DM.le_trans R.d0 C.le, ?_, ?_, ?_, ?_, ?_, ?_, fun p hp => ?_, ?_, ?_, ?_, R.frB, ?_⟩
  · obtain ⟨h, t, e⟩ := R.same; exact ⟨h', t', by rw [e]⟩
  · intro a o e
    rcases C.fresh a o e with h | h
    · exact R.dn a o h
    · right
      cases q : c.base.heap.get? a with
      | none => rfl
      | some p => obtain ⟨o', e1⟩ := R.ex a p q; rw [h] at e1; cases e1
  · intro a o e
    obtain ⟨o', e1⟩ := R.ex a o e
    by_cases hO : a ∈ feet O
    · exact C.ex a hO
    · obtain ⟨sl, q⟩ := (C.keep a o' e1 hO).1
      exact ⟨_, q⟩
  · intro a o e
    have nO := BnotO a (by rw [e]; rfl)
    obtain ⟨⟨sl, e1⟩, e2⟩ := R.kB a o e
    refine ⟨?_, fun n => (C.keep a o (e2 n) nO).2 n⟩
    obtain ⟨sl', e3⟩ := keepS a _ e1 nO
    exact ⟨sl', e3⟩
  · have go : ∀ l : List Env, StackOK s.heap l → (∀ a ∈ frames l, a ∉ feet O) → StackOK h' l := by
      intro l
      induction l with
      | nil => intro _ _; trivial
      | cons env r ih =>
        rintro ⟨hk, ⟨L, o, hf, ho', hd⟩, hr⟩ hn
        obtain ⟨sl, e1⟩ := keepS L o ho' (hn L (by simp [frames, hf]))
        exact ⟨hk, ⟨L, _, hf, e1, hd⟩, ih hr fun a ha => hn a (by simp only [frames, List.filterMap_cons, hf]; exact List.mem_cons_of_mem _ ha)⟩
    refine go c.stack R.stk fun a ha => ?_
    rcases R.frB a ha with rfl | e
    · exact notO _ (.inl rfl)
    · exact BnotO a e
  · refine ⟨?_, fun i x kd e1 e2 => ?_, fun a ha => ?_⟩
    · obtain ⟨m, ⟨o, es, ep, e1, e2, e3⟩, e4⟩ := R.loc.ns
      obtain ⟨sl, q⟩ := keepS _ o e1 (notO _ (.inl rfl))
      exact ⟨m, ⟨_, es, ep, q, e2, e3⟩, fun i x v h1 h2 => by obtain ⟨val, q1, q2⟩ := e4 i x v h1 h2; exact ⟨val, q1, q2.mono C.le⟩⟩
    · obtain ⟨ca, o, w, a1, a2, a3, a4, a5⟩ := R.loc.cell i x kd e1 e2
      have nO : ca ∉ feet O := a4.elim (fun h => notO _ (.inr (.inl (List.mem_append_left _ h)))) (BnotO ca)
      obtain ⟨sl, q⟩ := keepS _ o a2 nO
      exact ⟨ca, _, w, a1, q, a3, a4, fun v hv => by obtain ⟨val, q1, q2⟩ := a5 v hv; exact ⟨val, q1, q2.mono C.le⟩⟩
    · obtain ⟨o, e⟩ := R.loc.own a ha
      obtain ⟨sl, q⟩ := keepS a o e (notO a (.inr (.inl (List.mem_append_left _ ha))))
      exact ⟨_, q⟩
  · intro p hp
    rcases List.mem_append.mp hp with hp | hp
    · refine (R.obj p (by rw [ho]; exact List.mem_append_left _ hp)).keeps C.le fun b hb o e => ?_
      have hb' : b ∈ feet pre := List.mem_flatMap.mpr ⟨p, hp, hb⟩
      exact (C.keep b o e (notO b (.inr (.inr (.inl hb'))))).2 (notF b (.inr (.inl hb')))
    · rcases List.mem_append.mp hp with hp | hp
      · exact C.obj p hp
      · refine (R.obj p (by rw [ho]; exact List.mem_append_right _ (List.mem_append_right _ hp))).keeps C.le fun b hb o e => ?_
        have hb' : b ∈ feet post := List.mem_flatMap.mpr ⟨p, hp, hb⟩
        exact (C.keep b o e (notO b (.inr (.inr (.inr hb'))))).2 (notF b (.inr (.inr hb')))
  · have hp' : p.1 ∈ c.own ++ c.hid.map (·.1) := List.mem_append_right _ (List.mem_map.mpr ⟨p, hp, rfl⟩)
    exact (C.keep p.1 p.2 (R.hidR p hp) (notO _ (.inr (.inl hp')))).2 (notF _ (.inl hp'))
  · intro a ha
    rcases memO' a ha with h | h
    · rcases C.from_ a h with h | h
      · exact R.disB a ((mem a).mpr (.inr (.inr (.inr (.inl h)))))
      · cases q : c.B a with
        | none => rfl
        | some p => obtain ⟨⟨sl, e1⟩, _⟩ := R.kB a p q; rw [h] at e1; cases e1
    · exact R.disB a (old a h)
  · intro a ha
    rcases memO' a ha with h | h
    · exact C.disD a h
    · exact Dn a (R.disD a (old a h)) (exx a (old a h))
  · intro a ha
    exact Dn a (R.disS a ha) (R.stk.mem a ha)
  · rw [foot, feet_append, feet_append, ← List.append_assoc]
    refine List.nodup_cons.mpr ⟨fun h => ?_, List.nodup_append.mpr ⟨nd3, List.nodup_append.mpr ⟨nd6, List.nodup_append.mpr ⟨C.nd, nd10, fun a ha b hb q => ?_⟩, fun a ha b hb q => ?_⟩, fun a ha b hb q => ?_⟩⟩
    · rcases List.mem_append.mp h with h | h
      · exact nd1 (List.mem_append_left _ h)
      · rcases List.mem_append.mp h with h | h
        · exact nd1 (List.mem_append_right _ (List.mem_append_left _ h))
        · rcases List.mem_append.mp h with h | h
          · exact apart _ (.inl rfl) h
          · exact nd1 (List.mem_append_right _ (List.mem_append_right _ (List.mem_append_right _ h)))
    · subst q; exact apart a (.inr (.inr (.inr hb))) ha
    · subst q
      rcases List.mem_append.mp hb with h | h
      · exact apart a (.inr (.inr (.inl ha))) h
      · exact nd8 a ha a (List.mem_append_right _ h) rfl
    · subst q
      rcases List.mem_append.mp hb with h | h
      · exact nd5 a ha a (List.mem_append_left _ h) rfl
      · rcases List.mem_append.mp h with h | h
        · exact apart a (.inr (.inl ha)) h
        · exact nd5 a ha a (List.mem_append_right _ (List.mem_append_right _ h)) rfl

end Mine
end

section
open PySem PySem.W PyProof.Rows PySem.Calls
namespace Mine

/-! ## a call: the caller's side -/

theorem Flight.inCaller {X : Cx} {k : Nat} {c : FC} {A : Around} {D : DM} {σ : St} {s : Shared} (P : Pre X k c A D σ s) {O : List (Addr × MO)} (hO : ∀ a ∈ feet O, a ∈ foot c σ.objs) (hLO : c.env.locals ∉ feet O) {e : Value} {s' : Shared}
    (F : Flight s.heap (feet O) c.stack s e s') : FlightIn c e s' := by
  obtain ⟨ea, a0, b, h, t, rfl, rfl, f1, f2, f3, f4, f5, f6⟩ := F
  have R := P.rel
  obtain ⟨h0, t0, e0⟩ := R.same
  have nO : ∀ a, (c.B a).isSome = true → a ∉ feet O := fun a q hm => by rw [R.disB a (hO a hm)] at q; cases q
  have hns : ∃ m, h.Ns c.env.locals m := by
    obtain ⟨m, ⟨o, es, ep, e1, e2, e3⟩, _⟩ := R.loc.ns
    have nL : c.env.locals ∉ feet O := fun hm => hLO hm
    obtain ⟨sl, q⟩ := f2 _ o e1 nL
    exact ⟨m, _, es, ep, q, e2, e3⟩
  refine ⟨ea, a0, b, h, t, rfl, by rw [e0], fun a o q n => ?_, fun a o q => ?_, f3, f4, f5, hns, .inr ⟨_, f6⟩⟩
  · exact f1 a o ((R.kB a o q).2 n) n (nO a (by rw [q]; rfl))
  · obtain ⟨⟨sl, q1⟩, _⟩ := R.kB a o q
    obtain ⟨sl', q2⟩ := f2 a _ q1 (nO a (by rw [q]; rfl))
    exact ⟨sl', q2⟩

/-- what may be called through callWith -/
noncomputable def CWok (X : Cx) (f : Value) : Prop :=
  ∀ {A : Around} {Q : Value → Shared → Prop} {E : Value → Shared → Prop} {s : Shared} {pos : Pos} {args : List (Bool × Sem Value)} {first : List Value}, args.any (·.1) = false →
    wpG X.b (model P0 X.w) A (evalArgs f true args []) (fun a s₁ => (KK X).In s₁.heap ∧ wpG X.b (model P0 X.w) A (call f (first ++ a.pos) a.kw) Q E s₁) E s → wpG X.b (model P0 X.w) A (callWith pos f first args []) Q E s

theorem cw_keep {X : Cx} {f : Value} (h : ∀ P : Params, keepIn (hd.heap_39 P) f = true) : CWok X f :=
  fun hp hh => g_callWith (P := fun h => (KK X).In h) hp (keeps_K (h X.w.params)) hh
theorem cw_bltn {X : Cx} {id : String} : CWok X (.builtin id) :=
  fun hp h => g_callWith (P := fun h => (KK X).In h) hp (fun _ _ => ⟨.machine, .inr (.inl rfl), Looks.of_pure rfl⟩) h
theorem cw_type {X : Cx} {T : String} : CWok X (.type T) :=
  fun hp h => g_callWith (P := fun h => (KK X).In h) hp (fun _ _ => ⟨.machine, .inr (.inl rfl), Looks.of_pure rfl⟩) h

/-- arguments -/
noncomputable def OutA (X : Cx) (c : FC) (D : DM) (QV : List V → St → Prop) (Q : List Value → Shared → Prop) : Prop :=
  ∀ v vv D' σ' s', Rel X.g0 c D' σ' s' → D.le D' → VRs D' v vv → QV v σ' → Q vv s'
noncomputable def TA (X : Cx) (k : Nat) (env : Env) (args : List Expr) (d : W (List V)) : Prop :=
  (∀ pos, ((backTo pos (starEach args env)).any (·.1)) = false) ∧ ∀ pos c A D σ s QV EV Q E, c.env = env → Pre X k c A D σ s → d QV EV σ → OutA X c D QV Q → OutE c EV E → wpG X.b (model P0 X.w) A (spliced (backTo pos (starEach args env))) Q E s

section
variable {X : Cx} {k : Nat} {env : Env}

theorem ta_nil : TA X k env [] wNilA :=
  ⟨fun _ => rfl, fun _ _ _ D σ s _ _ _ _ _ P h O _ => g_of <| spliced_nil (O [] [] D σ s P.rel (DM.le_refl D) .nil h)⟩
theorem ta_cons {e : Expr} {r : List Expr} {d : W V} {dr : W (List V)} (h1 : TE X k env e d) (h2 : TA X k env r dr) (hs : starEach (e :: r) env = (false, eval e env) :: starEach r env := by rfl) :
    TA X k env (e :: r) (wCons d dr) := by
  refine ⟨fun pos => ?_, fun pos c A D σ s QV EV Q E hc P h O OE => ?_⟩
  · rw [hs]; show ((backTo pos ((false, eval e env) :: starEach r env)).any (·.1)) = false
    have := h2.1 pos
    unfold backTo at this ⊢
    simp only [List.map_cons, List.any_cons, Bool.false_or]; exact this
  · rw [hs]
    show wpG _ _ A (spliced ((false, if false = true then _ else eval e env) :: backTo pos (starEach r env))) Q E s
    refine g_spliced_cons (h1 c A D σ s _ EV _ E hc P h (fun v vv D1 σ1 s1 R1 l1 hv q => ?_) OE)
    exact h2.2 pos c A D1 σ1 s1 _ EV _ E hc (P.to R1) q (fun vs vvs D2 σ2 s2 R2 l2 hvs q2 => O (v :: vs) (vv :: vvs) D2 σ2 s2 R2 (DM.le_trans l1 l2) (.cons (hv.mono l2) hvs) q2) OE

/-- the call of a def (or of a class) of the text by its contract -/
noncomputable def wCallV (X : Cx) (k : Nat) (vf : V) (vs : List V) : W V := fun QV EV σ =>
  ∃ f, vf = .raw f ∧ CWok X f ∧ ∃ pre O post, σ.objs = pre ++ (O ++ post) ∧ CT X k f vs O (fun v O' => QV v { σ with objs := pre ++ (O' ++ post) }) EV

theorem kIn {X : Cx} {k : Nat} {c : FC} {A : Around} {D : DM} {σ : St} {s : Shared} (P : Pre X k c A D σ s) : (KK X).In s.heap := fun a o e => P.rel.kD _ _ (P.rel.gD _ _ (P.G.K a o e))

theorem callV {c : FC} {A : Around} {D : DM} {σ : St} {s : Shared} {f : Value} {vs : List V} {vals : List Value} {QV : V → St → Prop} {EV : Prop} {Q : Value → Shared → Prop} {E : Value → Shared → Prop}
    (P : Pre X k c A D σ s) (hv : VRs D vs vals) {pre O post : List (Addr × MO)} (ho : σ.objs = pre ++ (O ++ post)) (hct : CT X k f vs O (fun v O' => QV v { σ with objs := pre ++ (O' ++ post) }) EV)
    (Oo : Out X c D QV Q) (OE : OutE c EV E) : wpG X.b (model P0 X.w) A (call f vals) Q E s := by
  have nd := P.rel.nd
  rw [foot, ho, feet_append, feet_append] at nd
  refine g_call (hct A c.stack D s vals Q E (Rel.cpre P ho) hv (fun v vv D' O' h' t' C q => ?_) (fun ev e s' F => OE ev e s' (F.inCaller P (fun a ha => ?_) fun hm => (List.nodup_cons.mp nd).1 (List.mem_append_right _ (List.mem_append_right _ (List.mem_append_right _ (List.mem_append_left _ hm)))))))
  · exact Oo v vv D' _ _ (Rel.after P ho C) C.le C.val q
  · rw [foot, ho, feet_append, feet_append]
    exact List.mem_cons_of_mem _ (List.mem_append_right _ (List.mem_append_right _ (List.mem_append_right _ (List.mem_append_left _ ha))))

theorem te_call {fe : Expr} {args : List Expr} {pos : Pos} {df : W V} {da : W (List V)} (hf : TE X k env fe df) (ha : TA X k env args da)
    (hs : eval (.Call fe args [] pos) env = (do callWith pos (← eval fe env) [] (backTo pos (starEach args env)) (backToKw pos (keywordEach [] env))) := by rfl) :
    TE X k env (.Call fe args [] pos) (fun QV EV σ => df (fun vf σ1 => (∃ f, vf = .raw f ∧ CWok X f) ∧ da (fun vs σ2 => wCallV X k vf vs QV EV σ2) EV σ1) EV σ) :=
  fun c A D σ s QV EV Q E hc P h O OE => by
    rw [hs]
    refine g_bind (hf c A D σ s _ EV _ E hc P h (fun vf vv D1 σ1 s1 R1 l1 hvf q => ?_) OE)
    obtain ⟨⟨f, rfl, hcw⟩, q⟩ := q
    cases hvf
    refine hcw (ha.1 pos) (g_evalArgs (ha.2 pos c A D1 σ1 s1 _ EV _ E hc (P.to R1) q (fun vs vvs D2 σ2 s2 R2 l2 hvs q2 => ⟨kIn (P.to R2), ?_⟩) OE) (ha.1 pos))
    obtain ⟨f', e', _, pre, Ob, post, ho, hct⟩ := q2
    cases e'
    exact callV (P.to R2) hvs ho hct (O.le (DM.le_trans l1 l2)) OE
end

/-! ## a call: the callee's side -/

noncomputable def mkLoc (n : Nat) (sl : List Nat) (args : List V) : List (Option V) := (List.range n).map fun i => (sl.zip args).lookup i

theorem mkLoc_get {n : Nat} {sl : List Nat} {args : List V} {i : Nat} {v : V} (h : (mkLoc n sl args)[i]? = some (some v)) : (sl.zip args).lookup i = some v := by
  unfold mkLoc at h
  simp only [List.getElem?_map, Option.map_eq_some_iff] at h
  obtain ⟨j, h1, h2⟩ := h
  have := List.getElem?_range (n := n) (i := i)
  by_cases hi : i < n
  · rw [List.getElem?_range hi] at h1; cases h1; exact h2
  · rw [List.getElem?_eq_none (by simpa using hi)] at h1; cases h1

theorem zip_lookup {sl : List Nat} {args : List V} {i : Nat} {v : V} (h : (sl.zip args).lookup i = some v) : ∃ j : Nat, sl[j]? = some i ∧ args[j]? = some v := by
  induction sl generalizing args with
  | nil => simp at h
  | cons x r ih =>
    cases args with
    | nil => simp at h
    | cons y q =>
      simp only [List.zip_cons_cons, List.lookup_cons] at h
      cases e : i == x with
      | true => rw [e] at h; cases h; exact ⟨0, by rw [beq_iff_eq.mp e]; rfl, rfl⟩
      | false => rw [e] at h; obtain ⟨j, h1, h2⟩ := ih h; exact ⟨j + 1, h1, h2⟩

noncomputable def parOK (names : List (Str × NameKind)) (pn : List Str) (sl : List Nat) : Bool :=
  pn.length == sl.length && decide pn.Nodup && (pn.zip sl).all fun x => match names[x.2]? with
    | some (y, .local) => y == x.1
    | some (y, .cell) => y == x.1
    | _ => false

theorem bindL_get {kindOf : Str → Option NameKind} : ∀ {pn : List Str} {vals : List Value} {m : Str → Option Value} {j : Nat} {x : Str} {val : Value}, pn.Nodup → pn[j]? = some x → vals[j]? = some val → kindOf x = some .local →
    bindL kindOf (pn.zip vals) m x = some val := by
  intro pn
  induction pn with
  | nil => intro _ _ _ _ _ _ h; simp at h
  | cons p r ih =>
    intro vals m j x val nd h1 h2 hk
    cases vals with
    | nil => simp at h2
    | cons w ws =>
      obtain ⟨nd1, nd2⟩ := List.nodup_cons.mp nd
      cases j with
      | zero =>
        simp at h1 h2; subst h1; subst h2
        simp only [List.zip_cons_cons, bindL, hk, if_true]
        have stay : ∀ (ps : List Str) (vs : List Value) (m : Str → Option Value), p ∉ ps → bindL kindOf (ps.zip vs) m p = m p := by
          intro ps
          induction ps with
          | nil => intro vs m _; rfl
          | cons q qs ih2 =>
            intro vs m hn
            cases vs with
            | nil => rfl
            | cons u us =>
              simp only [List.zip_cons_cons, bindL]
              rw [ih2 us _ fun h => hn (List.mem_cons_of_mem _ h)]
              split
              · dsimp only; rw [if_neg fun e => hn (by rw [e]; exact List.mem_cons_self)]
              · rfl
        rw [stay r ws _ nd1]; simp
      | succ j =>
        simp only [List.zip_cons_cons, bindL]
        exact ih nd2 h1 h2 hk

theorem bindC_get {kindOf : Str → Option NameKind} : ∀ {pn : List Str} {vals : List Value} {m : Str → Option Value} {j : Nat} {x : Str} {val : Value}, pn.Nodup → pn[j]? = some x → vals[j]? = some val → kindOf x ≠ some .local →
    bindC kindOf (pn.zip vals) m x = some val := by
  intro pn
  induction pn with
  | nil => intro _ _ _ _ _ _ h; simp at h
  | cons p r ih =>
    intro vals m j x val nd h1 h2 hk
    cases vals with
    | nil => simp at h2
    | cons w ws =>
      obtain ⟨nd1, nd2⟩ := List.nodup_cons.mp nd
      cases j with
      | zero =>
        simp at h1 h2; subst h1; subst h2
        simp only [List.zip_cons_cons, bindC, hk, if_false]
        have stay : ∀ (ps : List Str) (vs : List Value) (m : Str → Option Value), p ∉ ps → bindC kindOf (ps.zip vs) m p = m p := by
          intro ps
          induction ps with
          | nil => intro vs m _; rfl
          | cons q qs ih2 =>
            intro vs m hn
            cases vs with
            | nil => rfl
            | cons u us =>
              simp only [List.zip_cons_cons, bindC]
              rw [ih2 us _ fun h => hn (List.mem_cons_of_mem _ h)]
              split
              · rfl
              · dsimp only; rw [if_neg fun e => hn (by rw [e]; exact List.mem_cons_self)]
        rw [stay r ws _ nd1]; simp
      | succ j =>
        simp only [List.zip_cons_cons, bindC]
        exact ih nd2 h1 h2 hk

/-- what a function hands back: as it is, or a list of its own frozen -/
inductive RetV (O : List (Addr × MO)) : List (Addr × MO) → V → V → List (Addr × MO) → Prop where
  | same {objs : List (Addr × MO)} {v : V} {O' : List (Addr × MO)} : O'.Sublist objs → RetV O objs v v O'
  | frz {pre post : List (Addr × MO)} {a : Addr} {vs : List V} {O' : List (Addr × MO)} : a ∉ feet O → O'.Sublist (pre ++ post) → RetV O (pre ++ (a, .list vs) :: post) (.raw (.ref a)) (.list vs) O'

theorem feet_sub {O O' : List (Addr × MO)} (h : O'.Sublist O) : (feet O').Sublist (feet O) := by
  induction h with
  | slnil => exact List.Sublist.slnil
  | cons a _ ih => simp only [feet, List.flatMap_cons]; exact List.Sublist.trans ih (List.sublist_append_right _ _)
  | cons_cons a _ ih => simp only [feet, List.flatMap_cons]; exact List.Sublist.append (List.Sublist.refl _) ih

noncomputable def wOf : FV → V
  | .next => .none
  | .ret v => v

theorem Rel.leave {X : Cx} {c : FC} {D D' : DM} {l : List Env} {O : List (Addr × MO)} {s : Shared} {σ' : St} {h' : Heap} {t' : Nat} {s' : Shared} (hs' : s' = { s with heap := h', toks := t' }) (hst : c.stack = c.env :: l) (hfr : c.env.frame = some c.env.locals)
    (hB : c.B = fun a => if a ∈ feet O then none else s.heap.get? a) (hbase : c.base = s) (hO : ∀ a ∈ feet O, ∃ o, s.heap.get? a = some o) (hD0 : c.D₀ = D) (R : Rel X.g0 c D' σ' s')
    {v v' : V} {vv : Value} {O' : List (Addr × MO)} (hv : VR D' v vv) (hr : RetV O σ'.objs v v' O') : ∃ D'', CPost X l D O s v' vv D'' O' h' := by
  subst hs'
  have B1 : ∀ a, c.B a = none → a ∈ feet O ∨ s.heap.get? a = none := fun a e => by
    rw [hB] at e; dsimp only at e
    split at e
    · rename_i q; exact .inl q
    · exact .inr e
  have B2 : ∀ a o, s.heap.get? a = some o → a ∉ feet O → c.B a = some o := fun a o e n => by rw [hB]; dsimp only; rw [if_neg n]; exact e
  have Ln : c.B c.env.locals = none := R.disB _ List.mem_cons_self
  have keep : ∀ a o, s.heap.get? a = some o → a ∉ feet O → (∃ sl, h'.get? a = some { o with slots := sl }) ∧ (a ∉ frames l → h'.get? a = some o) := fun a o e n => by
    obtain ⟨q1, q2⟩ := R.kB a o (B2 a o e n)
    refine ⟨q1, fun n' => q2 ?_⟩
    rw [hst]; simp only [frames, List.filterMap_cons, hfr]
    intro hm
    rcases List.mem_cons.mp hm with rfl | hm
    · rw [B2 _ o e n] at Ln; cases Ln
    · exact n' hm
  have nd := (List.nodup_append.mp (List.nodup_append.mp (List.nodup_cons.mp R.nd).2).2.1).2.1
  have inF : ∀ a ∈ feet σ'.objs, a ∈ foot c σ'.objs := fun a ha => List.mem_cons_of_mem _ (List.mem_append_right _ (List.mem_append_right _ ha))
  have fr : ∀ a ∈ feet σ'.objs, a ∈ feet O ∨ s.heap.get? a = none := fun a ha => B1 a (R.disB a (inF a ha))
  have ex : ∀ a ∈ feet O, ∃ o, h'.get? a = some o := fun a ha => by
    obtain ⟨o, e⟩ := hO a ha
    exact R.ex a o (hbase ▸ e)
  have dn : ∀ a o, D' a = some o → D a = some o ∨ s.heap.get? a = none := fun a o e => by
    have := R.dn a o e; rw [hD0, hbase] at this; exact this
  generalize he : σ'.objs = objs at hr
  cases hr with
  | same hsub =>
    rw [← he] at hsub
    have hin := (feet_sub hsub).subset
    exact ⟨D', hD0 ▸ R.d0, dn, R.kD, keep, ex, fun p hp => R.obj p (hsub.subset hp), nd.sublist (feet_sub hsub), fun a ha => R.disD a (inF a (hin ha)), fun a ha => fr a (hin ha), hv⟩
  | @frz pre post a vs O' hn hsub =>
    cases hv
    have hp : (a, MO.list vs) ∈ σ'.objs := by rw [he]; simp
    obtain ⟨vals, n, e1, e2⟩ := R.obj _ hp
    dsimp only at e1
    have ha : a ∈ feet σ'.objs := List.mem_flatMap.mpr ⟨_, hp, List.mem_singleton.mpr rfl⟩
    have hf : s.heap.get? a = none := (fr a ha).resolve_left hn
    have hDn : D' a = none := R.disD a (inF a ha)
    have le : D'.le (D'.put a { cls := .type "list", data := .seq vals.toArray n }) := DM.put_le (.inl hDn)
    have nd' : (feet pre ++ (a :: feet post)).Nodup := by rw [he] at nd; rw [feet_append] at nd; exact nd
    obtain ⟨n1, n2, n3⟩ := List.nodup_append.mp nd'
    obtain ⟨n4, n5⟩ := List.nodup_cons.mp n2
    have nsub : (feet pre ++ feet post).Nodup := List.nodup_append.mpr ⟨n1, n5, fun x hx y hy => n3 x hx y (List.mem_cons_of_mem _ hy)⟩
    have hin : ∀ b ∈ feet O', b ∈ feet pre ∨ b ∈ feet post := fun b hb => by
      have := (feet_sub hsub).subset hb
      rw [feet_append] at this
      exact List.mem_append.mp this
    have hin' : ∀ b ∈ feet O', b ∈ feet σ'.objs ∧ b ≠ a := fun b hb => by
      rw [he, feet_append]
      rcases hin b hb with h | h
      · exact ⟨List.mem_append_left _ h, fun q => n3 b h a List.mem_cons_self q⟩
      · exact ⟨List.mem_append_right _ (List.mem_append_right [a] h), fun q => n4 (q ▸ h)⟩
    refine ⟨D'.put a { cls := .type "list", data := .seq vals.toArray n }, DM.le_trans (hD0 ▸ R.d0) le, fun b o e => ?_, fun b o e => ?_, keep, ex, fun p hp => ?_, ?_, fun b hb => ?_, fun b hb => fr b (hin' b hb).1, .list (DM.put_same _ _ _) (e2.mono le)⟩
    · unfold DM.put at e
      split at e
      · rename_i q; subst q; exact .inr hf
      · exact dn b o e
    · unfold DM.put at e
      split at e
      · rename_i q; subst q; cases e; exact e1
      · exact R.kD b o e
    · refine (R.obj p ?_).keeps le fun b _ o e => e
      rw [he]
      have := hsub.subset hp
      rcases List.mem_append.mp this with h | h
      · exact List.mem_append_left _ h
      · exact List.mem_append_right _ (List.mem_cons_of_mem _ h)
    · have := (feet_sub hsub); rw [feet_append] at this; exact nsub.sublist this
    · unfold DM.put
      rw [if_neg (hin' b hb).2]; exact R.disD b (inF b (hin' b hb).1)

theorem noteFrame_frame {x : Value} {e1 e2 : Env} (h : e1.frame = e2.frame) : noteFrame x e1 = noteFrame x e2 := by
  unfold noteFrame PySem.frameOf; rw [h]

noncomputable def OwnFrame (c : FC) : Prop := ∃ fenv outer, c.stack = fenv :: outer ∧ fenv.frame = c.env.frame

theorem ns_slots {h h' : Heap} {a : Addr} {m : Str → Option Value} (hn : h.Ns a m) (k : ∀ b o, h.get? b = some o → (∀ vs, o.data ≠ .fields vs) → ∃ sl, h'.get? b = some { o with slots := sl }) : ∃ m, h'.Ns a m := by
  obtain ⟨o, es, ep, e1, e2, e3⟩ := hn
  obtain ⟨sl, q⟩ := k a o e1 fun vs q => by rw [e2] at q; cases q
  exact ⟨m, _, es, ep, q, e2, e3⟩

theorem fi_noted {M : Model} {A : Around} {E : Value → Shared → Prop} {Q : Unit → Shared → Prop} {c : FC} {e : Value} {s' : Shared} (hA : A.frames = some c.stack) (hst : OwnFrame c) (F : FlightIn c e s')
    (hQ : ∀ s'', FlightIn c e s'' → (∃ ea a0 b v, e = .ref ea ∧ s''.heap.TracedAtW b ea (.ref 71) a0 v) → Q () s'') : wpAny M A (noteFrame e c.env) Q E s' := by
  obtain ⟨fenv, outer, hs, hf⟩ := hst
  rw [← noteFrame_frame hf]
  obtain ⟨ea, a0, b, h, t, rfl, rfl, f1, f2, f3, f4, f5, ⟨mn, fn⟩, f6⟩ := F
  rw [hs] at hA f5
  obtain ⟨_, ⟨L, oL, hL, hbL, hoL, hdL⟩, _⟩ := id f5
  have fin : ∀ h', Heap.NotedW b (fenv :: outer) ea (.ref 71) a0 (rawInt L) h h' → Q () { c.base with heap := h', toks := t } := fun h' ⟨k1, k2, k3, k4⟩ => by
    refine hQ _ ⟨ea, a0, b, h', t, rfl, rfl, f1, fun a o q => ?_, k1, f4, hs ▸ k2, ns_slots fn k4, .inr ⟨_, k3⟩⟩ ⟨ea, a0, b, _, rfl, k3⟩
    obtain ⟨sl, q1⟩ := f2 a o q
    by_cases hd : ∀ vs, o.data ≠ .fields vs
    · obtain ⟨sl', q2⟩ := k4 a _ q1 hd
      exact ⟨sl', q2⟩
    · have hn : a ∉ frames c.stack := fun hm => by
        rw [hs] at hm
        obtain ⟨_, o', z1, z2⟩ := f5.mem hm
        rw [q1] at z1; cases z1
        exact hd z2
      exact ⟨o.slots, k1 a o (f1 a o q hn)⟩
  rcases f6 with ⟨oe, vs, g1, g2, g3, g4, g5⟩ | ⟨v, g⟩
  · unfold noteFrame
    simp only [hL]
    refine wpAny_bind (wpAny_field g1 g3 g5 ?_)
    rw [if_neg (by decide)]
    exact wpAny_entryW hA f5 hL g1 f3 f4 g3 (Array.getElem?_eq_some_iff.mp g5).1 g4 fun h' k => fin h' (g2 ▸ k)
  · by_cases hv : (v == rawInt L) = true
    · have hv' : v = rawInt L := by simpa using hv
      subst hv'
      exact wpAny_noteFrame_againW hL g (hQ _ ⟨ea, a0, b, h, t, rfl, rfl, f1, f2, f3, f4, hs ▸ f5, ⟨mn, fn⟩, .inr ⟨_, g⟩⟩ ⟨ea, a0, b, _, rfl, g⟩)
    · obtain ⟨oe, vs, T, oT, ts, he, ⟨hcls, h0⟩, hd, h1, hnT, hTe, hT, hdT, h3⟩ := id g
      unfold noteFrame
      simp only [hL]
      refine wpAny_bind (wpAny_field he hd h1 ?_)
      rw [if_pos (show (Value.ref T != Value.none) = true from by simp)]
      refine wpAny_bind (wpAny_field hT hdT h3 ?_)
      rw [if_neg hv]
      refine wpAny_bind (wpAny_setField hT hdT (Array.getElem?_eq_some_iff.mp h3).1 ?_)
      have other : ∀ b, b ≠ T → (h.update T (Obj.mapFields (·.setIfInBounds 3 Value.none))).get? b = h.get? b := fun b hb => Heap.get?_update_other _ _ (Ne.symm hb)
      have noRecord : ∀ b o, h.get? b = some o → (∀ vs, o.data ≠ .fields vs) → b ≠ T := fun b o hb hnf q => by
        rw [q, hT] at hb; injection hb with hb; subst hb; exact hnf ts hdT
      refine wpAny_entryW hA (f5.of_keeps fun b o hb hnf => ⟨o, (other b (noRecord b o hb hnf)).trans hb, rfl⟩) hL ((other ea (Ne.symm hTe)).trans he)
        (fun b' o hbo => (other b' fun q => by rw [q, hnT] at hbo; cases hbo).trans (f3 b' o hbo)) f4 hd (Array.getElem?_eq_some_iff.mp h1).1 h0
        fun h' ⟨x1, x2, x3, x4⟩ => fin h' ⟨x1, x2, hcls ▸ x3, fun b o hb hnf => x4 b o ((other b (noRecord b o hb hnf)).trans hb) hnf⟩

theorem fi_setFlight {M : Model} {A : Around} {E : Value → Shared → Prop} {Q : Unit → Shared → Prop} {c : FC} {e : Value} {s' : Shared} {fl : Option Addr} (F : FlightIn c e s')
    (hT : ∃ ea a0 b v, e = .ref ea ∧ s'.heap.TracedAtW b ea (.ref 71) a0 v)
    (hQ : ∀ s'', FlightIn c e s'' → (∃ ea a0 b h t, e = .ref ea ∧ s'' = { c.base with heap := h, toks := t } ∧ (∀ a o, c.B a = some o → a ∉ frames c.stack → b.get? a = some o) ∧
      (∀ a o, c.B a = some o → ∃ sl, h.get? a = some { o with slots := sl }) ∧ b.StaysIn h ∧ b.get? ea = none ∧ h.FunFrames b c.stack ∧ h.TracedAtW b ea (.ref 71) a0 (fl.elim .none fun f => rawInt f)) → Q () s'') : wpAny M A (setFlight e fl) Q E s' := by
  obtain ⟨ea, a0, b, h, t, rfl, rfl, f1, f2, f3, f4, f5, ⟨mn, fn⟩, f6⟩ := F
  have hT' : ∃ v, h.TracedAtW b ea (.ref 71) a0 v := by
    rcases f6 with ⟨oe, vs, g1, g2, g3, g4, g5⟩ | g
    · obtain ⟨ea', a0', b', fl', h1, oe', vs', T, oT, ts, q1, _, q3, q4, _⟩ := hT
      cases h1
      rw [g1] at q1; cases q1; rw [g3] at q3; cases q3; rw [g5] at q4; cases q4
    · exact g
  obtain ⟨v, oe, vs, T, oT, ts, he, hcls, hd, h1, hnT, hTe, hT, hdT, h3⟩ := hT'
  have hsz3 : 3 < ts.size := (Array.getElem?_eq_some_iff.mp h3).1
  have other : ∀ a, a ≠ T → (h.update T (Obj.mapFields (·.setIfInBounds 3 (fl.elim .none fun f => rawInt f)))).get? a = h.get? a := fun a ha => Heap.get?_update_other _ _ (Ne.symm ha)
  have noRecord : ∀ a o, h.get? a = some o → (∀ vs, o.data ≠ .fields vs) → a ≠ T := fun a o hb hnf q => by
    rw [q, hT] at hb; cases hb; exact hnf ts hdT
  have k1 : b.StaysIn (h.update T (Obj.mapFields (·.setIfInBounds 3 (fl.elim .none fun f => rawInt f)))) := fun a o q => (other a fun z => by rw [z, hnT] at q; cases q).trans (f3 a o q)
  have key : (h.update T (Obj.mapFields (·.setIfInBounds 3 (fl.elim .none fun f => rawInt f)))).TracedAtW b ea (.ref 71) a0 (fl.elim .none fun f => rawInt f) :=
      ⟨oe, vs, T, _, _, (other ea (Ne.symm hTe)).trans he, hcls, hd, h1, hnT, hTe, Heap.get?_update_self _ hT (Obj.isFreed_of_fields (Obj.data_mapFields hdT _)), Obj.data_mapFields hdT _, by simp [hsz3]⟩
  have slots : ∀ a o, c.B a = some o → ∃ sl, (h.update T (Obj.mapFields (·.setIfInBounds 3 (fl.elim .none fun f => rawInt f)))).get? a = some { o with slots := sl } := fun a o q => by
    obtain ⟨sl, q1⟩ := f2 a o q
    by_cases hd : ∀ vs, o.data ≠ .fields vs
    · exact ⟨sl, (other a (noRecord a _ q1 hd)).trans q1⟩
    · have hn : a ∉ frames c.stack := fun hm => by
        obtain ⟨_, o', z1, z2⟩ := f5.mem hm
        rw [q1] at z1; cases z1
        exact hd z2
      exact ⟨o.slots, k1 a o (f1 a o q hn)⟩
  have ff := f5.of_keeps (h' := h.update T (Obj.mapFields (·.setIfInBounds 3 (fl.elim .none fun f => rawInt f)))) fun a o hb hnf => ⟨o, (other a (noRecord a o hb hnf)).trans hb, rfl⟩
  unfold setFlight
  refine wpAny_bind (wpAny_field he hd h1 ?_)
  rw [if_pos (show (Value.ref T != Value.none) = true from by simp)]
  exact wpAny_setField hT hdT hsz3 (hQ _ ⟨ea, a0, b, _, t, rfl, rfl, f1, slots, k1, f4, ff, ns_slots fn fun b o e n => ⟨o.slots, (other b (noRecord b o e n)).trans e⟩, .inr ⟨_, key⟩⟩ ⟨ea, a0, b, _, t, rfl, rfl, f1, slots, k1, f4, ff, key⟩)

/-- through a loop's own activation -/
theorem fi_passes {M : Model} {A : Around} {E : Value → Shared → Prop} {c : FC} (hA : A.frames = some c.stack) (hst : OwnFrame c) {e : Value} {s' : Shared} (F : FlightIn c e s') (hE : ∀ e s', FlightIn c e s' → E e s') :
    notedBy M A c.env (cameBackBy M A c.env E) e s' := by
  unfold notedBy
  refine fi_noted hA hst F fun s'' F' ⟨ea, a0, b, v, he, hT⟩ => ?_
  unfold cameBackBy
  obtain ⟨oe, vs, T, oT, ts, q1, q2, q3, q4, q5⟩ := id hT
  subst he
  refine wpAny_bind (wpAny_field q1 q3 q4 ?_)
  rw [if_neg (by simp)]
  exact fi_setFlight F' ⟨_, _, _, _, rfl, hT⟩ fun s3 F3 _ => hE _ _ F3

/-- a fault leaves a frame -/
theorem flight_leave {M : Model} {A : Around} {E : Value → Shared → Prop} {Q : Unit → Shared → Prop} {c : FC} {l : List Env} {L : Addr} {e : Value} {s' : Shared} {Hs : Shared} {O : List (Addr × MO)}
    (hA : A.frames = some c.stack) (hst : c.stack = c.env :: l) (hf : c.env.frame = some L) (hB : c.B = fun a => if a ∈ feet O then none else Hs.heap.get? a) (hbase : c.base = Hs) (hLn : c.B L = none)
    (F : FlightIn c e s') (hQ : ∀ s'', Flight Hs.heap (feet O) l Hs e s'' → Q () s'') : wpAny M A (leaving c.env e) Q E s' := by
  have B2 : ∀ a o, Hs.heap.get? a = some o → a ∉ feet O → c.B a = some o := fun a o e n => by rw [hB]; dsimp only; rw [if_neg n]; exact e
  unfold leaving
  refine wpAny_bind (fi_noted hA ⟨_, _, hst, rfl⟩ F fun s1 F1 hT => fi_setFlight F1 hT fun s2 F2 F3 => ?_)
  obtain ⟨ea, a0, b, h, t, h1, h2, f1, f2, f3, f4, f5, f6⟩ := F3
  refine hQ _ ⟨ea, a0, b, h, t, h1, by rw [h2, hbase], fun a o q n1 n2 => ?_, fun a o q n => f2 a o (B2 a o q n), f3, f4, ?_, f6⟩
  · refine f1 a o (B2 a o q n2) ?_
    rw [hst]; simp only [frames, List.filterMap_cons, hf]
    intro hm
    rcases List.mem_cons.mp hm with rfl | hm
    · rw [B2 _ o q n2] at hLn; cases hLn
    · exact n1 hm
  · rw [hst] at f5; exact f5.2.2

end Mine
end

section
open PySem PySem.W PyProof.Rows PySem.Calls
namespace Mine

noncomputable def scopeOK (sc : Scope) : Bool :=
  sc.kind == .function && decide (sc.names.map (·.1)).Nodup && (sc.names.all fun x => !(x.1 == ("__debug__" : Str)) && !(x.1 == ("__classdict__" : Str)))
noncomputable def noFree (sc : Scope) : Bool := sc.names.all fun x => !(x.2 == .free)

noncomputable abbrev frameEnv (sc : Scope) (L : Addr) (cells : List (Str × Addr)) (qual : Str) (f : Addr) (cd : Value) : Env := newEnv sc L mainGlobals cells (qual ++ ".<locals>.") (some f) cd none builtinsNs

theorem kIn' {X : Cx} {k : Nat} {A : Around} {l : List Env} {D : DM} {O : List (Addr × MO)} {s : Shared} (P : CPre X k A l D O s) : (KK X).In s.heap := fun a o e => P.kD _ _ (P.gD _ _ (P.G.K a o e))

theorem parOK_spec {names : List (Str × NameKind)} {pn : List Str} {sl : List Nat} (h : parOK names pn sl = true) : pn.length = sl.length ∧ pn.Nodup ∧ ∀ (j : Nat) x i, pn[j]? = some x → sl[j]? = some i → names[i]? = some (x, .local) ∨ names[i]? = some (x, .cell) := by
  unfold parOK at h
  simp only [Bool.and_eq_true, beq_iff_eq, decide_eq_true_eq] at h
  obtain ⟨⟨h1, h2⟩, h3⟩ := h
  refine ⟨h1, h2, fun j x i e1 e2 => ?_⟩
  have hm : (x, i) ∈ pn.zip sl := by
    refine List.mem_of_getElem? (i := j) ?_
    rw [List.getElem?_zip_eq_some]; exact ⟨e1, e2⟩
  have := List.all_eq_true.mp h3 _ hm
  dsimp only at this
  split at this
  · rename_i y e; left; rw [e, beq_iff_eq.mp this]
  · rename_i y e; right; rw [e, beq_iff_eq.mp this]
  · cases this

/-- at the head of a body -/
structure Head (c : FC) (D : DM) (σ : St) : Prop where
  d0 : c.D₀ = D
  hid : c.hid = []
  own : c.own = c.env.cells.map (·.2)
  B : ∀ b, c.B b = if b ∈ feet σ.objs then none else c.base.heap.get? b
  D : ∀ a o, D a = some o → c.base.heap.get? a = some o
  cells : ∃ n, c.env.cells = cellsFrom n c.env.scope.names []
noncomputable def TS0 (X : Cx) (k : Nat) (env : Env) (l : List Stmt) (d : W FV) : Prop :=
  ∀ c A D σ s QV EV Q E, c.env = env → Pre X k c A D σ s → Head c D σ → d QV EV σ → OutS X c D QV Q → OutE c EV E → wpG X.b (model P0 X.w) A (execs l env) Q E s
theorem TS.to0 {X : Cx} {k : Nat} {env : Env} {l : List Stmt} {d : W FV} (h : TS X k env l d) : TS0 X k env l d := fun c A D σ s QV EV Q E hc P _ q O OE => h c A D σ s QV EV Q E hc P q O OE

theorem ct_def0 {X : Cx} {k : Nat} {a : Addr} {oc : Value} {od : Option Addr} {name qual : Str} {params : Arguments} {body : List Stmt} {scope : Scope} {dV kV doc pm : Value} {an : Option Addr} {cdv ct : Value} {osl : Array (Option Value)}
    {args dargs : List V} {dvals : List Value} {O : List (Addr × MO)} {QV : V → List (Addr × MO) → Prop} {EV : Prop} (pn : List Str) (sl : List Nat)
    (ho : ∀ P : Params, (hd.heap_39 P).lookup a = some ⟨oc, od, .func (fnOf name qual params body scope dV kV doc pm an cdv ct), osl⟩) (hcd : ∀ P : Params, codeIn (hd.heap_39 P) cdv qual = true)
    (hbind : ∀ (s : Shared) (P : Params) (vals : List Value), (hd.heap_39 P).In s.heap → vals.length = args.length → BindsTo s (fnOf name qual params body scope dV kV doc pm an cdv ct) ⟨vals, []⟩ (pn.zip (vals ++ dvals)))
    (hdv : VRs (fun _ => none) dargs dvals) (hpar : parOK scope.names pn sl = true) (hsc : (scopeOK scope && noFree scope) = true) (hco : (scope.isCoroutine || scope.isGenerator) = false)
    (hb : ∃ d, (∀ L cells, TS0 X k (frameEnv scope L cells qual a cdv) body d) ∧ d (fun f σ' => ∃ v' O', RetV O σ'.objs (wOf f) v' O' ∧ QV v' O') EV ⟨mkLoc scope.names.length sl (args ++ dargs), O⟩) :
    CT X (k + 1) (.ref a) args O QV EV := by
  intro A l D s vals Q E P hv O1 O2
  obtain ⟨d, hts, hd⟩ := hb
  obtain ⟨hp1, hp2, hp3⟩ := parOK_spec hpar
  simp only [scopeOK, noFree, Bool.and_eq_true, beq_iff_eq, decide_eq_true_eq, Bool.or_eq_false_iff] at hsc hco
  obtain ⟨⟨⟨hk, hnd⟩, hdbg⟩, hfree⟩ := hsc
  have KI := kIn' P
  have hk0 : ∀ b o, X.g0.get? b = some o → s.heap.get? b = some o := fun b o q => P.kD _ _ (P.gD _ _ q)
  have hvv : VRs D (args ++ dargs) (vals ++ dvals) := hv.append (hdv.mono fun _ _ q => by cases q)
  refine cg_call_function P.room.d (KI _ _ (ho _)) rfl hco.1 hco.2 rfl (codeRec_of KI (hcd _)) (hbind s X.w.params vals KI hv.length _ _ _ _ ?_)
  refine wpAny_newFunctionEnv_cells hk (fun x hx => ?_) fun env he s₁ x => ?_
  · obtain ⟨j, hj1, hj2⟩ := List.mem_iff_getElem.mp hx
    have hz := List.getElem?_eq_some_iff.mpr ⟨hj1, hj2⟩
    obtain ⟨z1, z2⟩ := List.getElem?_zip_eq_some.mp hz
    have hsl : j < sl.length := by rw [← hp1]; exact (List.getElem?_eq_some_iff.mp z1).1
    rcases hp3 j x.1 sl[j] z1 (List.getElem?_eq_getElem hsl) with h | h
    · exact .inl (lookup_nd hnd h)
    · exact .inr ⟨lookup_nd hnd h, cellsFrom_some _ _ _ (.inl (lookup_nd hnd h))⟩
  · refine ⟨(P.G.nolimit.keeps hk0).keeps x.toInCall.keep, cg_func ?_⟩
    obtain ⟨h₁, tk, rfl, hkeep⟩ := x.done
    have hL : env.locals = s.heap.objs.size := by rw [he]; rfl
    have hcells : env.cells = cellsFrom (s.heap.objs.size + 1) scope.names [] := by rw [he]; rfl
    have hscp : env.scope = scope := by rw [he]; rfl
    have hfrm : env.frame = some env.locals := by rw [he]; rfl
    have hkd : ∀ y, env.kindOf y = scope.names.lookup y := fun y => by rw [he]; rfl
    let c : FC := { env := env, stack := env :: l, own := env.cells.map (·.2), hid := [], B := fun b => if b ∈ feet O then none else s.heap.get? b, D₀ := D, base := s }
    have hex : ∀ b ∈ feet O, ∃ o, s.heap.get? b = some o := fun b hb => by
      obtain ⟨p, hp, hq⟩ := List.mem_flatMap.mp hb
      exact (P.obj p hp).ex b hq
    have hnone : ∀ b, s.heap.objs.size ≤ b → s.heap.get? b = none := fun b hb => none_at hb
    have hown : ∀ b ∈ env.cells.map (·.2), s.heap.objs.size < b := fun b hb => by
      obtain ⟨p, hp, rfl⟩ := List.mem_map.mp hb
      have := x.above p.1 p.2 hp; rw [hL] at this; exact this
    have hLne : ∀ b o, s.heap.get? b = some o → b < s.heap.objs.size := fun b o e => Heap.lt_size e
    have hcnd : (env.cells.map (·.2)).Nodup := by
      have := x.apart
      unfold List.Nodup
      rw [List.pairwise_map]
      exact this
    have cellx : ∀ y ca, env.cells.lookup y = some ca → h₁.IsCell ca (bindC env.kindOf (pn.zip (vals ++ dvals)) (fun _ => none) y) := fun y ca e => x.cell y ca e
    have slot : ∀ (i : Nat) y (v : V) kd, scope.names[i]? = some (y, kd) → (mkLoc scope.names.length sl (args ++ dargs))[i]? = some (some v) → ∃ (j : Nat) (val : Value), pn[j]? = some y ∧ (vals ++ dvals)[j]? = some val ∧ VR D v val := by
      intro i y v kd e1 e2
      obtain ⟨j, q1, q2⟩ := zip_lookup (mkLoc_get e2)
      obtain ⟨val, q3, q4⟩ := hvv.get q2
      have hj : j < pn.length := by rw [hp1]; exact (List.getElem?_eq_some_iff.mp q1).1
      have e3 := hp3 j _ i (List.getElem?_eq_getElem hj) q1
      have : pn[j] = y := by
        rcases e3 with e | e <;> · rw [e1] at e; cases e; rfl
      exact ⟨j, val, by rw [List.getElem?_eq_getElem hj, this], q3, q4⟩
    have R : Rel X.g0 c D ⟨mkLoc scope.names.length sl (args ++ dargs), O⟩ { s with heap := h₁, toks := tk } := by
      refine ⟨⟨h₁, tk, rfl⟩, fun b o e => hkeep b o (P.kD b o e), P.gD, DM.le_refl D, fun b o e => .inl e, fun b o e => ⟨o, hkeep b o e⟩, fun b o e => ?_, ?_, ⟨?_, fun i y kd e1 e2 => ?_, fun b hb => ?_⟩, fun p hp => ?_, (fun _ h => by cases h), fun b hb => ?_, fun b hb => ?_, fun b hb => ?_, fun b hb => ?_, ?_⟩
      · have e' : s.heap.get? b = some o := by
          have : (if b ∈ feet O then none else s.heap.get? b) = some o := e
          split at this
          · cases this
          · exact this
        exact ⟨⟨o.slots, hkeep b o e'⟩, fun _ => hkeep b o e'⟩
      · refine ⟨by rw [hscp, hk]; decide, ?_, P.stk.keeps fun b o e => ⟨o, hkeep b o e, rfl⟩⟩
        obtain ⟨o, es, ep, q1, q2, _⟩ := x.toInCall.ns
        exact ⟨env.locals, o, hfrm, q1, fun vs q => by rw [q2] at q; cases q⟩
      · refine ⟨_, x.toInCall.ns, fun i y v e1 e2 => ?_⟩
        obtain ⟨j, val, q1, q2, q3⟩ := slot i y v _ (hscp ▸ e1) e2
        exact ⟨val, bindL_get hp2 q1 q2 (by rw [hkd]; exact lookup_nd hnd (hscp ▸ e1)), q3⟩
      · have e1' : scope.names[i]? = some (y, kd) := hscp ▸ e1
        rcases e2 with rfl | rfl
        · have hlk := cellsFrom_some (x := y) scope.names (s.heap.objs.size + 1) [] (.inl (lookup_nd hnd e1'))
          obtain ⟨ca, hca⟩ := Option.isSome_iff_exists.mp hlk
          rw [← hcells] at hca
          obtain ⟨o, q1, q2⟩ := cellx y ca hca
          refine ⟨ca, o, _, hca, q1, q2, .inl (List.mem_map.mpr ⟨(y, ca), PySem.mem_of_lookup hca, rfl⟩), fun v hv' => ?_⟩
          obtain ⟨j, val, z1, z2, z3⟩ := slot i y v _ e1' hv'
          exact ⟨val, bindC_get hp2 z1 z2 (by rw [hkd, lookup_nd hnd e1']; decide), z3⟩
        · have := List.all_eq_true.mp hfree _ (List.mem_of_getElem? e1')
          simp at this
      · obtain ⟨p, hp, rfl⟩ := List.mem_map.mp hb
        have hl : env.cells.lookup p.1 = some p.2 := by
          have : ∃ ca, env.cells.lookup p.1 = some ca := by
            have : ∀ (cs : List (Str × Addr)) (q : Str × Addr), q ∈ cs → ∃ ca, cs.lookup q.1 = some ca := by
              intro cs
              induction cs with
              | nil => intro q h; cases h
              | cons z r ih =>
                intro q h
                rw [List.lookup_cons]
                cases hz : q.1 == z.1 with
                | true => exact ⟨_, rfl⟩
                | false =>
                  rcases List.mem_cons.mp h with rfl | h
                  · simp at hz
                  · exact ih q h
            exact this _ p hp
          obtain ⟨ca, e⟩ := this
          have m1 := PySem.mem_of_lookup e
          by_cases hq : ca = p.2
          · rw [e, hq]
          · exfalso
            have nn : (cellsFrom (s.heap.objs.size + 1) scope.names []).map (·.1) = (cellsFrom 0 scope.names []).map (·.1) := cellsFrom_names scope.names _ _ [] [] rfl
            have hnn : ((cellsFrom 0 scope.names []).map (·.1)).Nodup := by
              have gen : ∀ (ns : List (Str × NameKind)) (n : Nat) (acc : List (Str × Addr)), (ns.map (·.1)).Nodup → (acc.map (·.1)).Nodup → (∀ z ∈ ns.map (·.1), z ∉ acc.map (·.1)) → ((cellsFrom n ns acc).map (·.1)).Nodup := by
                intro ns
                induction ns with
                | nil => intro n acc _ h _; exact h
                | cons z r ih =>
                  intro n acc h1 h2 h3
                  obtain ⟨h4, h5⟩ := List.nodup_cons.mp h1
                  unfold cellsFrom
                  split
                  · refine ih _ _ h5 (List.nodup_cons.mpr ⟨h3 z.1 List.mem_cons_self, h2⟩) fun y hy hm => ?_
                    rcases List.mem_cons.mp hm with q | q
                    · exact h4 (q ▸ hy)
                    · exact h3 y (List.mem_cons_of_mem _ hy) q
                  · exact ih _ _ h5 h2 fun y hy => h3 y (List.mem_cons_of_mem _ hy)
              exact gen scope.names 0 [] hnd List.nodup_nil (fun _ _ h => by cases h)
            rw [← nn, ← hcells] at hnn
            have := lookup_of_mem_nodup hnn hp
            rw [e] at this; cases this; exact hq rfl
        obtain ⟨o, q1, _⟩ := cellx p.1 p.2 hl
        exact ⟨o, q1⟩
      · exact (P.obj p hp).keeps (DM.le_refl D) fun b _ o e => hkeep b o e
      · show (if b ∈ feet O then none else s.heap.get? b) = none
        split
        · rfl
        · rename_i hn
          rcases List.mem_cons.mp hb with q | hb
          · exact hnone b (by rw [q, show c.env.locals = env.locals from rfl, hL]; exact Nat.le_refl _)
          · rcases List.mem_append.mp hb with hb | hb
            · exact hnone b (Nat.le_of_lt (hown b hb))
            · exact absurd hb hn
      · have new : ∀ b, s.heap.objs.size ≤ b → D b = none := fun b hb => by
          cases q : D b with
          | none => rfl
          | some o => have := P.kD b o q; rw [hnone b hb] at this; cases this
        rcases List.mem_cons.mp hb with q | hb
        · exact new b (by rw [q, show c.env.locals = env.locals from rfl, hL]; exact Nat.le_refl _)
        · rcases List.mem_append.mp hb with hb | hb
          · exact new b (Nat.le_of_lt (hown b hb))
          · exact P.disD b hb
      · have hb' : b ∈ frames (env :: l) := hb
        simp only [frames, List.filterMap_cons, hfrm] at hb'
        rcases List.mem_cons.mp hb' with q | hb'
        · cases q' : D b with
          | none => rfl
          | some o => have := P.kD b o q'; rw [hnone b (by rw [q, hL]; exact Nat.le_refl _)] at this; cases this
        · exact P.disS b hb'
      · have hb' : b ∈ frames (env :: l) := hb
        simp only [frames, List.filterMap_cons, hfrm] at hb'
        rcases List.mem_cons.mp hb' with q | hb'
        · exact .inl q
        · right
          show (if b ∈ feet O then none else s.heap.get? b).isSome = true
          rw [if_neg fun h => P.disF b h hb']
          obtain ⟨o, e⟩ := P.stk.mem b hb'; rw [e]; rfl
      · refine List.nodup_cons.mpr ⟨fun h => ?_, List.nodup_append.mpr ⟨hcnd, P.nd, fun b hb b' hb' q => ?_⟩⟩
        · rcases List.mem_append.mp h with h | h
          · have := hown _ h; rw [show c.env.locals = env.locals from rfl, hL] at this; exact Nat.lt_irrefl _ this
          · obtain ⟨o, e⟩ := hex _ h; have := hLne _ o e; rw [show c.env.locals = env.locals from rfl, hL] at this; exact Nat.lt_irrefl _ this
        · subst q
          obtain ⟨o, e⟩ := hex _ hb'
          exact absurd (hLne b o e) (Nat.not_lt.mpr (Nat.le_of_lt (hown b hb)))
    have ok : EnvOK env := by
      refine ⟨by rw [hscp]; exact hk, by rw [he]; rfl, by rw [he]; rfl, by rw [hscp]; exact hnd, fun y hy => ?_, ⟨_, hfrm⟩, fun y z ca h1 h2 => PySem.name_of_addr x.apart (PySem.mem_of_lookup h1) (PySem.mem_of_lookup h2)⟩
      rw [hscp] at hy
      obtain ⟨p, hp, rfl⟩ := List.mem_map.mp hy
      have := List.all_eq_true.mp hdbg p hp
      simp only [Bool.and_eq_true, Bool.not_eq_true'] at this
      exact this
    have room : Room (A.deeper env) k := ⟨by have := P.room.depth; show A.depth + 1 + 2 * k + 2 < 1000; (first | lia | omega), by have := P.room.units; show A.units + 3 + 40 * k + 40 < 9900; (first | lia | omega)⟩
    have PP : Pre X k c (A.deeper env) D ⟨mkLoc scope.names.length sl (args ++ dargs), O⟩ { s with heap := h₁, toks := tk } := ⟨P.G, ok, fun _ i y ca _ h2 => List.mem_map.mpr ⟨(y, ca), PySem.mem_of_lookup h2, rfl⟩, room, P.hh, ⟨env, l, rfl, rfl⟩, Around.frames_deeper P.fr, R⟩
    have hts' := hts env.locals env.cells
    have henv : frameEnv scope env.locals env.cells qual a cdv = env := by rw [he]; rfl
    rw [henv] at hts'
    refine hts' c (A.deeper env) D _ _ _ EV _ _ rfl PP ⟨rfl, rfl, rfl, fun _ => rfl, P.kD, ⟨_, by rw [show c.env.cells = env.cells from rfl, show c.env.scope = env.scope from rfl, hscp]; exact hcells⟩⟩ hd (fun f ff D' σ' s' R' l' fr q => ?_) fun ev e s' F => ?_
    · obtain ⟨v', O', hr, hq⟩ := q
      obtain ⟨h', t', e'⟩ := R'.same
      have fin : ∀ vv, VR D' (wOf f) vv → Q vv s' := fun vv hvv => by
        obtain ⟨D'', C⟩ := Rel.leave (X := X) (c := c) (l := l) (O := O) (s := s) (h' := h') (t' := t') e' rfl hfrm rfl rfl hex rfl R' hvv hr
        rw [e']
        exact O1 v' vv D'' O' h' t' C hq
      cases f with
      | next => cases fr; exact fin _ .none
      | ret v => obtain ⟨vv, rfl, hvv⟩ := fr; exact fin _ hvv
    · exact flight_leave (c := c) (l := l) (Hs := s) (O := O) (Around.frames_deeper P.fr) rfl hfrm rfl rfl (by
        show (if env.locals ∈ feet O then none else s.heap.get? env.locals) = none
        split
        · rfl
        · exact hnone _ (by rw [hL]; exact Nat.le_refl _)) F fun s'' F' => O2 ev e s'' F'

theorem ct_def {X : Cx} {k : Nat} {a : Addr} {oc : Value} {od : Option Addr} {name qual : Str} {params : Arguments} {body : List Stmt} {scope : Scope} {dV kV doc pm : Value} {an : Option Addr} {cdv ct : Value} {osl : Array (Option Value)}
    {args dargs : List V} {dvals : List Value} {O : List (Addr × MO)} {QV : V → List (Addr × MO) → Prop} {EV : Prop} (pn : List Str) (sl : List Nat)
    (ho : ∀ P : Params, (hd.heap_39 P).lookup a = some ⟨oc, od, .func (fnOf name qual params body scope dV kV doc pm an cdv ct), osl⟩) (hcd : ∀ P : Params, codeIn (hd.heap_39 P) cdv qual = true)
    (hbind : ∀ (s : Shared) (P : Params) (vals : List Value), (hd.heap_39 P).In s.heap → vals.length = args.length → BindsTo s (fnOf name qual params body scope dV kV doc pm an cdv ct) ⟨vals, []⟩ (pn.zip (vals ++ dvals)))
    (hdv : VRs (fun _ => none) dargs dvals) (hpar : parOK scope.names pn sl = true) (hsc : (scopeOK scope && noFree scope) = true) (hco : (scope.isCoroutine || scope.isGenerator) = false)
    (hb : ∃ d, (∀ L cells, TS X k (frameEnv scope L cells qual a cdv) body d) ∧ d (fun f σ' => ∃ v' O', RetV O σ'.objs (wOf f) v' O' ∧ QV v' O') EV ⟨mkLoc scope.names.length sl (args ++ dargs), O⟩) :
    CT X (k + 1) (.ref a) args O QV EV :=
  ct_def0 pn sl ho hcd hbind hdv hpar hsc hco (let ⟨d, h1, h2⟩ := hb; ⟨d, fun L cells => (h1 L cells).to0, h2⟩)
end Mine
end

section
open PySem PySem.W PyProof.Rows PySem.Calls
namespace Mine

theorem StackOK.keeps' {h h' : Heap} (k : ∀ a o, h.get? a = some o → (∀ vs, o.data ≠ .fields vs) → ∃ o', h'.get? a = some o' ∧ ∀ vs, o'.data ≠ .fields vs) : ∀ {l : List Env}, StackOK h l → StackOK h' l
  | [], _ => trivial
  | _ :: _, ⟨hk, ⟨L, o, hf, ho, hd⟩, hr⟩ => by
    obtain ⟨o', e1, e2⟩ := k L o ho hd
    exact ⟨hk, ⟨L, o', hf, e1, e2⟩, hr.keeps' k⟩

theorem nd_get {α : Type} : ∀ {l : List α} {i j : Nat} {x : α}, l.Nodup → l[i]? = some x → l[j]? = some x → i = j
  | [], _, _, _, _, h, _ => by simp at h
  | y :: r, 0, 0, _, _, _, _ => rfl
  | y :: r, 0, j + 1, x, nd, h, h' => by
    simp at h; subst h
    exact absurd (List.mem_of_getElem? (by simpa using h')) (List.nodup_cons.mp nd).1
  | y :: r, i + 1, 0, x, nd, h, h' => by
    simp at h'; subst h'
    exact absurd (List.mem_of_getElem? (by simpa using h)) (List.nodup_cons.mp nd).1
  | y :: r, i + 1, j + 1, x, nd, h, h' => by
    simp only [List.getElem?_cons_succ] at h h'
    rw [nd_get (List.nodup_cons.mp nd).2 h h']
theorem names_inj {sc : Scope} {i j : Nat} {x : Str} {k k' : NameKind} (nd : (sc.names.map (·.1)).Nodup) (h1 : sc.names[i]? = some (x, k)) (h2 : sc.names[j]? = some (x, k')) : i = j := by
  have e1 : (sc.names.map (·.1))[i]? = some x := by rw [List.getElem?_map, h1]; rfl
  have e2 : (sc.names.map (·.1))[j]? = some x := by rw [List.getElem?_map, h2]; rfl
  exact nd_get nd e1 e2

theorem Rel.setLoc {g0 : Heap} {c : FC} {D : DM} {σ : St} {s : Shared} (R : Rel g0 c D σ s) (ok : EnvOK c.env) {i : Nat} {x : Str} (hx : c.env.scope.names[i]? = some (x, .local)) {v : V} {vv : Value} (hv : VR D v vv) {h' : Heap} {t : Nat}
    {m : Str → Option Value} (hm : s.heap.Ns c.env.locals m) (hn : h'.Ns c.env.locals (fun y => if y = x then some vv else m y)) (hs : Heap.SameBut c.env.locals s.heap h') : Rel g0 c D { σ with loc := σ.loc.set i (some v) } { s with heap := h', toks := t } := by
  have hL : ∀ a, a ∈ foot c σ.objs → a ≠ c.env.locals → True := fun _ _ _ => trivial
  have Lf : c.env.locals ∈ foot c σ.objs := List.mem_cons_self
  have ne : ∀ a, a ≠ c.env.locals → h'.get? a = s.heap.get? a := hs.2
  obtain ⟨nd1, nd2⟩ := List.nodup_cons.mp R.nd
  refine ⟨?_, fun a o e => ?_, R.gD, R.d0, R.dn, fun a o e => ?_, fun a o e => ?_, ?_, ⟨?_, fun j y kd e1 e2 => ?_, fun a ha => ?_⟩, fun p hp => ?_, fun p hp => ?_, R.disB, R.disD, R.disS, R.frB, R.nd⟩
  · obtain ⟨h, t0, e⟩ := R.same; exact ⟨h', t, by rw [e]⟩
  · rw [ne a fun q => by rw [q, R.disD _ Lf] at e; cases e]; exact R.kD a o e
  · obtain ⟨o', q⟩ := R.ex a o e
    by_cases ha : a = c.env.locals
    · subst ha; obtain ⟨o2, _, _, q2, _⟩ := hn; exact ⟨o2, q2⟩
    · exact ⟨o', (ne a ha).trans q⟩
  · have ha : a ≠ c.env.locals := fun q => by rw [q, R.disB _ Lf] at e; cases e
    rw [ne a ha]; exact R.kB a o e
  · refine R.stk.keeps' fun a o e hd => ?_
    by_cases ha : a = c.env.locals
    · subst ha; obtain ⟨o2, _, _, q2, q3, _⟩ := hn; exact ⟨o2, q2, fun vs q => by rw [q3] at q; cases q⟩
    · exact ⟨o, (ne a ha).trans e, hd⟩
  · obtain ⟨m', e1, e2⟩ := R.loc.ns
    refine ⟨_, hn, fun j y w h1 h2 => ?_⟩
    dsimp only at h2
    by_cases hj : i = j
    · subst hj
      rw [hx] at h1; cases h1
      have : (σ.loc.set i (some v))[i]? = some (some w) := h2
      by_cases hlt : i < σ.loc.length
      · rw [List.getElem?_set_self hlt] at this; cases this
        exact ⟨vv, by simp, hv⟩
      · rw [List.getElem?_eq_none (by rw [List.length_set]; (first | lia | omega))] at this; cases this
    · rw [List.getElem?_set_ne hj] at h2
      obtain ⟨val, q1, q2⟩ := e2 j y w h1 h2
      have hmm : m = m' := funext fun z => by
        obtain ⟨o1, es1, ep1, a1, a2, a3, a4⟩ := hm
        obtain ⟨o2, es2, ep2, b1, b2, b3, b4⟩ := e1
        rw [a1] at b1; cases b1; rw [a2] at b2; cases b2
        rw [← a4, ← b4]
      refine ⟨val, ?_, q2⟩
      rw [if_neg fun q => hj (names_inj ok.nd hx (q ▸ h1)), hmm]; exact q1
  · obtain ⟨ca, o, w, a1, a2, a3, a4, a5⟩ := R.loc.cell j y kd e1 e2
    have hca : ca ≠ c.env.locals := fun q => by
      rcases a4 with h | h
      · exact nd1 (List.mem_append_left _ (q ▸ h))
      · rw [q, R.disB _ Lf] at h; cases h
    refine ⟨ca, o, w, a1, (ne ca hca).trans a2, a3, a4, fun u hu => a5 u ?_⟩
    dsimp only at hu
    rwa [List.getElem?_set_ne (fun q => by subst q; rw [hx] at e1; cases e1; rcases e2 with e | e <;> cases e)] at hu
  · obtain ⟨o, e⟩ := R.loc.own a ha
    exact ⟨o, (ne a fun q => nd1 (List.mem_append_left _ (q ▸ ha))).trans e⟩
  · refine (R.obj p hp).keeps (DM.le_refl D) fun b hb o e => ?_
    exact (ne b fun q => nd1 (List.mem_append_right _ (List.mem_append_right _ (List.mem_flatMap.mpr ⟨p, hp, q ▸ hb⟩)))).trans e
  · exact (ne _ fun q => nd1 (List.mem_append_right _ (List.mem_append_left _ (List.mem_map.mpr ⟨p, hp, q⟩)))).trans (R.hidR p hp)

/-- a cell of its own is set -/
theorem Rel.setCell {g0 : Heap} {c : FC} {D : DM} {σ : St} {s : Shared} (R : Rel g0 c D σ s) (ok : EnvOK c.env) {i : Nat} {x : Str} (hx : c.env.scope.names[i]? = some (x, .cell)) {v : V} {vv : Value} (hv : VR D v vv) {h' : Heap} {t : Nat}
    {ca : Addr} (hc : c.env.cells.lookup x = some ca) (hown : ca ∈ c.own) (hn : h'.IsCell ca (some vv)) (hs : Heap.SameBut ca s.heap h') : Rel g0 c D { σ with loc := σ.loc.set i (some v) } { s with heap := h', toks := t } := by
  have Lf : ca ∈ foot c σ.objs := List.mem_cons_of_mem _ (List.mem_append_left _ hown)
  have ne : ∀ a, a ≠ ca → h'.get? a = s.heap.get? a := hs.2
  obtain ⟨nd1, nd2⟩ := List.nodup_cons.mp R.nd
  obtain ⟨nd3, nd4, nd5⟩ := List.nodup_append.mp nd2
  have hLc : c.env.locals ≠ ca := fun q => nd1 (q ▸ List.mem_append_left _ hown)
  refine ⟨?_, fun a o e => ?_, R.gD, R.d0, R.dn, fun a o e => ?_, fun a o e => ?_, ?_, ⟨?_, fun j y kd e1 e2 => ?_, fun a ha => ?_⟩, fun p hp => ?_, fun p hp => ?_, R.disB, R.disD, R.disS, R.frB, R.nd⟩
  · obtain ⟨h, t0, e⟩ := R.same; exact ⟨h', t, by rw [e]⟩
  · rw [ne a fun q => by rw [q, R.disD _ Lf] at e; cases e]; exact R.kD a o e
  · obtain ⟨o', q⟩ := R.ex a o e
    by_cases ha : a = ca
    · subst ha; obtain ⟨o2, q2, _⟩ := hn; exact ⟨o2, q2⟩
    · exact ⟨o', (ne a ha).trans q⟩
  · have ha : a ≠ ca := fun q => by rw [q, R.disB _ Lf] at e; cases e
    rw [ne a ha]; exact R.kB a o e
  · refine R.stk.keeps' fun a o e hd => ?_
    by_cases ha : a = ca
    · subst ha; obtain ⟨o2, q2, q3⟩ := hn; exact ⟨o2, q2, fun vs q => by rw [q3] at q; cases q⟩
    · exact ⟨o, (ne a ha).trans e, hd⟩
  · obtain ⟨m', e1, e2⟩ := R.loc.ns
    refine ⟨m', e1.sameBut hs hLc, fun j y w h1 h2 => e2 j y w h1 ?_⟩
    dsimp only at h2
    rwa [List.getElem?_set_ne (fun q => by subst q; rw [hx] at h1; cases h1)] at h2
  · obtain ⟨ca', o, w, a1, a2, a3, a4, a5⟩ := R.loc.cell j y kd e1 e2
    by_cases hj : i = j
    · subst hj
      rw [hx] at e1; cases e1
      rw [hc] at a1; cases a1
      obtain ⟨o2, q2, q3⟩ := hn
      refine ⟨ca, o2, some vv, hc, q2, q3, .inl hown, fun u hu => ?_⟩
      have hu' : (σ.loc.set i (some v))[i]? = some (some u) := hu
      by_cases hlt : i < σ.loc.length
      · rw [List.getElem?_set_self hlt] at hu'; cases hu'
        exact ⟨vv, rfl, hv⟩
      · rw [List.getElem?_eq_none (by rw [List.length_set]; (first | lia | omega))] at hu'; cases hu'
    · have hne : ca' ≠ ca := fun q => hj (names_inj ok.nd hx ((ok.cinj x y ca hc (q ▸ a1)) ▸ e1))
      refine ⟨ca', o, w, a1, (ne ca' hne).trans a2, a3, a4, fun u hu => a5 u ?_⟩
      dsimp only at hu
      rwa [List.getElem?_set_ne hj] at hu
  · by_cases q : a = ca
    · subst q; obtain ⟨o2, q2, _⟩ := hn; exact ⟨o2, q2⟩
    · obtain ⟨o, e⟩ := R.loc.own a ha
      exact ⟨o, (ne a q).trans e⟩
  · refine (R.obj p hp).keeps (DM.le_refl D) fun b hb o e => ?_
    exact (ne b fun q => nd5 ca hown b (List.mem_append_right _ (List.mem_flatMap.mpr ⟨p, hp, hb⟩)) q.symm).trans e
  · exact (ne _ fun q => nd5 ca hown p.1 (List.mem_append_left _ (List.mem_map.mpr ⟨p, hp, rfl⟩)) q.symm).trans (R.hidR p hp)

noncomputable abbrev wSet (i : Nat) (v : V) : W Unit := fun Q _ σ => Q () { σ with loc := σ.loc.set i (some v) }

section
variable {X : Cx} {k : Nat} {env : Env}

/-- a store into a name -/
noncomputable def TStore (X : Cx) (k : Nat) (env : Env) (x : Str) (f : V → W Unit) : Prop :=
  ∀ c A D σ s v vv QV EV (Q : Unit → Shared → Prop) (E : Value → Shared → Prop), c.env = env → Pre X k c A D σ s → VR D v vv → f v QV EV σ → (∀ D' σ' s', Rel X.g0 c D' σ' s' → D.le D' → QV () σ' → Q () s') → OutE c EV E → wpAny (model P0 X.w) A (storeName env x vv) Q E s

theorem st_loc (i : Nat) {x : Str} (hx : env.scope.names[i]? = some (x, .local)) : TStore X k env x (wSet i) :=
  fun c A D σ s v vv QV EV Q E hc P hv h O OE => by
    subst hc
    obtain ⟨m, hm, _⟩ := P.rel.loc.ns
    refine wpAny_storeName_local (kind_of P.ok hx) hm (fun h' hn hs => ?_) (by rw [P.ok.kind]; rfl)
    exact O D _ _ (P.rel.setLoc P.ok hx hv hm hn hs) (DM.le_refl D) h

theorem st_cell (i : Nat) {x : Str} (hx : env.scope.names[i]? = some (x, .cell)) (hfn : env.func.isSome = true := by rfl) : TStore X k env x (wSet i) :=
  fun c A D σ s v vv QV EV Q E hc P hv h O OE => by
    subst hc
    obtain ⟨ca, o, w, a1, a2, a3, a4, a5⟩ := P.rel.loc.cell i x _ hx (.inl rfl)
    refine wpAny_storeName_cell P.ok.kind (kind_of P.ok hx) a1 ⟨o, a2, a3⟩ fun h' hn hs => ?_
    exact O D _ _ (P.rel.setCell P.ok hx hv a1 (P.ownf hfn i x ca hx a1) hn hs (t := s.toks)) (DM.le_refl D) h

theorem ts_assign {x : Str} {e : Expr} {pos pos' : Pos} {d : W V} {f : V → W Unit} (h : TE X k env e d) (hst : TStore X k env x f) (hs : swapsWith e (some (.Name x pos')) pos.line env = pure false := by rfl) :
    TS1 X k env (.Assign [.Name x pos'] e pos) (wAsg d f) :=
  fun c A D σ s QV EV Q E hc P q O OE => g_Assign_Name (h c A D σ s _ EV _ E hc P q (fun v vv D1 σ1 s1 R1 l1 hv h1 =>
    hst c A D1 σ1 s1 v vv _ EV _ E hc (P.to R1) hv h1 (fun D2 σ2 s2 R2 l2 h2 => O .next .next D2 σ2 s2 R2 (DM.le_trans l1 l2) rfl h2) OE) OE) hs

/-! ### tests -/
theorem te_chain {l r1 r2 : Expr} {op1 op2 : CmpOp} {pos : Pos} {dl d1 d2 : W V} {f1 f2 : V → V → W V} (hl : TE X k env l dl) (h1 : TE X k env r1 d1) (h2 : TE X k env r2 d2) (ho1 : TB X k (compareOp op1) f1) (ho2 : TB X k (compareOp op2) f2)
    (hm : lastMarks [op1, op2] [r1, r2] = false := by rfl) :
    TE X k env (.Compare l [op1, op2] [r1, r2] pos) (wBin dl d1 (fCh f1 d2 f2 (wVal (.bool false)))) :=
  fun c A D σ s QV EV Q E hc P h O OE => g_chain2 (hl c A D σ s _ EV _ E hc P h (fun a va D1 σ1 s1 R1 l1 v1 q1 =>
    (h1 c A D1 σ1 s1 _ EV _ E hc (P.to R1) q1 (fun b vb D2 σ2 s2 R2 l2 v2 q2 => g_of <| ho1 c A D2 σ2 s2 a b va vb _ EV _ E (P.to R2) (v1.mono l2) v2 q2 (fun v vv D3 σ3 s3 R3 l3 v3 q3 => by
      cases v3 with
      | bool q =>
        refine wpAny_truthy_bool ?_
        cases q with
        | false => exact O (.bool false) (.bool false) D3 σ3 s3 R3 (DM.le_trans (DM.le_trans l1 l2) l3) (.bool _) q3
        | true =>
          rw [if_pos rfl]
          refine (h2 c A D3 σ3 s3 _ EV _ E hc (P.to R3) q3 (fun e ve D4 σ4 s4 R4 l4 v4 q4 => ?_) OE)
          exact g_of <| ho2 c A D4 σ4 s4 b e vb ve _ EV _ E (P.to R4) (v2.mono (DM.le_trans l3 l4)) v4 q4 (O.le (DM.le_trans (DM.le_trans (DM.le_trans l1 l2) l3) l4)) OE
      | _ => exact q3.elim) OE) OE)) OE) hm

theorem tt_chain {l r1 r2 : Expr} {op1 op2 : CmpOp} {pos : Pos} {dl d1 d2 : W V} {f1 f2 : V → V → W V} (hl : TE X k env l dl) (h1 : TE X k env r1 d1) (h2 : TE X k env r2 d2) (ho1 : TB X k (compareOp op1) f1) (ho2 : TB X k (compareOp op2) f2)
    (hm : lastMarks [op1, op2] [r1, r2] = false := by rfl) :
    TT X k env (.Compare l [op1, op2] [r1, r2] pos) (wBin dl d1 (fCh f1 d2 (fT f2) wNay)) :=
  fun c A D σ s QV EV Q E hc P h O OE => g_test2 (hl c A D σ s _ EV _ E hc P h (fun a va D1 σ1 s1 R1 l1 v1 q1 =>
    (h1 c A D1 σ1 s1 _ EV _ E hc (P.to R1) q1 (fun b vb D2 σ2 s2 R2 l2 v2 q2 => g_of <| ho1 c A D2 σ2 s2 a b va vb _ EV _ E (P.to R2) (v1.mono l2) v2 q2 (fun v vv D3 σ3 s3 R3 l3 v3 q3 => by
      cases v3 with
      | bool q =>
        refine wpAny_truthy_bool ?_
        cases q with
        | false => exact O false D3 σ3 s3 R3 (DM.le_trans (DM.le_trans l1 l2) l3) q3
        | true =>
          rw [if_pos rfl]
          refine (h2 c A D3 σ3 s3 _ EV _ E hc (P.to R3) q3 (fun e ve D4 σ4 s4 R4 l4 v4 q4 => ?_) OE)
          exact g_of <| ho2 c A D4 σ4 s4 b e vb ve _ EV _ E (P.to R4) (v2.mono (DM.le_trans l3 l4)) v4 q4 (fun v vv D5 σ5 s5 R5 l5 v5 q5 => by
            cases v5 with
            | bool q => exact wpAny_truthy_bool (O q D5 σ5 s5 R5 (DM.le_trans (DM.le_trans (DM.le_trans (DM.le_trans l1 l2) l3) l4) l5) q5)
            | _ => exact q5.elim) OE
      | _ => exact q3.elim) OE) OE)) OE) hm

/-- a plain value as a test: a bool -/
theorem tt_val {e : Expr} {d : W V} (h : TE X k env e d) (he : isTrue e env (eval e env) = (do let v ← eval e env; standAt e.pos; holding [v] (truthy v)) := by rfl) : TT X k env e (wTst d) :=
  fun c A D σ s QV EV Q E hc P q O OE => g_isTrue_plain (h c A D σ s _ EV _ E hc P q (fun v vv D1 σ1 s1 R1 l1 v1 q1 => by
    cases v1 with
    | bool b => exact wpAny_truthy_bool (O b D1 σ1 s1 R1 l1 q1)
    | _ => exact q1.elim) OE) he
theorem tt_not {e : Expr} {pos : Pos} {d : W Bool} (h : TT X k env e d) : TT X k env (.UnaryOp .Not e pos) (wNotT d) :=
  fun c A D σ s QV EV Q E hc P q O OE => g_isTrue_Not (h c A D σ s _ EV _ E hc P q (fun b D1 σ1 s1 R1 l1 q1 => O (!b) D1 σ1 s1 R1 l1 q1) OE)

noncomputable def TTs (X : Cx) (k : Nat) (op : BoolOp) (env : Env) (es : List Expr) (d : W Bool) : Prop :=
  ∀ c A D σ s QV EV Q E, c.env = env → Pre X k c A D σ s → d QV EV σ → OutB X c D QV Q → OutE c EV E → wpG X.b (model P0 X.w) A (allTrue op es env) Q E s
theorem tts_and_nil : TTs X k .And env [] wYes := fun c A D σ s QV EV Q E hc P q O OE => g_of <| wpAny_allTrue_And_nil (O true D σ s P.rel (DM.le_refl D) q)
theorem tts_or_nil : TTs X k .Or env [] wNay := fun c A D σ s QV EV Q E hc P q O OE => g_of <| wpAny_allTrue_Or_nil (O false D σ s P.rel (DM.le_refl D) q)
theorem tts_and {e : Expr} {r : List Expr} {d dr : W Bool} (h : TT X k env e d) (hr : TTs X k .And env r dr) : TTs X k .And env (e :: r) (wThen d dr wNay) :=
  fun c A D σ s QV EV Q E hc P q O OE => g_and_cons (h c A D σ s _ EV _ E hc P q (fun b D1 σ1 s1 R1 l1 q1 => by
    cases b with
    | true => exact hr c A D1 σ1 s1 QV EV Q E hc (P.to R1) q1 (O.le l1) OE
    | false => exact O false D1 σ1 s1 R1 l1 q1) OE)
theorem tts_or {e : Expr} {r : List Expr} {d dr : W Bool} (h : TT X k env e d) (hr : TTs X k .Or env r dr) : TTs X k .Or env (e :: r) (wThen d wYes dr) :=
  fun c A D σ s QV EV Q E hc P q O OE => g_or_cons (h c A D σ s _ EV _ E hc P q (fun b D1 σ1 s1 R1 l1 q1 => by
    cases b with
    | false => exact hr c A D1 σ1 s1 QV EV Q E hc (P.to R1) q1 (O.le l1) OE
    | true => exact O true D1 σ1 s1 R1 l1 q1) OE)
theorem tt_bool {op : BoolOp} {es : List Expr} {pos : Pos} {d : W Bool} (h : TTs X k op env es d) : TT X k env (.BoolOp op es pos) d :=
  fun c A D σ s QV EV Q E hc P q O OE => g_isTrue_BoolOp (h c A D σ s QV EV Q E hc P q O OE)

/-- x and y, as a value: the left a bool -/
theorem te_and2 {x y : Expr} {pos : Pos} {dx dy : W V} (hx : TE X k env x dx) (hy : TE X k env y dy) : TE X k env (.BoolOp .And [x, y] pos) (wThen (wTst dx) dy (wVal (.bool false))) :=
  fun c A D σ s QV EV Q E hc P q O OE => g_And2 (hx c A D σ s _ EV _ E hc P q (fun v vv D1 σ1 s1 R1 l1 v1 q1 => by
    cases v1 with
    | bool b =>
      refine wpAny_truthy_bool ?_
      cases b with
      | true => exact hy c A D1 σ1 s1 QV EV Q E hc (P.to R1) q1 (O.le l1) OE
      | false => exact O (.bool false) (.bool false) D1 σ1 s1 R1 l1 (.bool _) q1
    | _ => exact q1.elim) OE)

noncomputable def fNeg (v : V) : W V := fun QV _ σ => match v with
  | .int i => QV (.int (-i)) σ
  | _ => False
theorem te_neg {e : Expr} {pos : Pos} {d : W V} (h : TE X k env e d) : TE X k env (.UnaryOp .USub e pos) (wUn d fNeg) :=
  fun c A D σ s QV EV Q E hc P q O OE => g_UnaryOp (h c A D σ s _ EV _ E hc P q (fun v vv D1 σ1 s1 R1 l1 v1 q1 => by
    cases v1 with
    | int i t => exact neg_int (O (.int (-i)) _ D1 σ1 _ (R1.toks _) l1 (.int _ _) q1)
    | _ => exact q1.elim) OE)

/-! ### ints -/
noncomputable def wNo {α : Type} : W α := fun _ _ _ => False
noncomputable def fCmp (r : Int → Int → Bool) : V → V → W V
  | .int a, .int b => wVal (.bool (r a b))
  | _, _ => wNo
noncomputable def fArith (r : Int → Int → Int) : V → V → W V
  | .int a, .int b => wVal (.int (r a b))
  | _, _ => wNo

theorem tb_int2 {m : Value → Value → Sem Value} {f : V → V → W V} (hf : ∀ a b, (∀ i j, a = .int i → b = .int j → False) → ∀ Q E σ, ¬ f a b Q E σ)
    (h : ∀ (i j : Int) (t u : Tok) c A D σ s QV EV (Q : Value → Shared → Prop) (E : Value → Shared → Prop), Pre X k c A D σ s → f (.int i) (.int j) QV EV σ → Out X c D QV Q → OutE c EV E → wpAny (model P0 X.w) A (m (.int i t) (.int j u)) Q E s) : TB X k m f :=
  fun c A D σ s a b va vb QV EV Q E P h1 h2 h3 O OE => by
    cases h1 with
    | int i t =>
      cases h2 with
      | int j u => exact h i j t u c A D σ s QV EV Q E P h3 O OE
      | _ => exact (hf _ _ (fun i j e1 e2 => by cases e2) _ _ _ h3).elim
    | _ => exact (hf _ _ (fun i j e1 e2 => by cases e1) _ _ _ h3).elim

theorem fCmp_no {r : Int → Int → Bool} : ∀ a b, (∀ i j, a = .int i → b = .int j → False) → ∀ (Q : V → St → Prop) E σ, ¬ fCmp r a b Q E σ := by
  intro a b h Q E σ q
  cases a <;> first | exact q | (cases b <;> first | exact q | exact h _ _ rfl rfl)
theorem fArith_no {r : Int → Int → Int} : ∀ a b, (∀ i j, a = .int i → b = .int j → False) → ∀ (Q : V → St → Prop) E σ, ¬ fArith r a b Q E σ := by
  intro a b h Q E σ q
  cases a <;> first | exact q | (cases b <;> first | exact q | exact h _ _ rfl rfl)

theorem tb_lt : TB X k (compareOp .Lt) (fCmp fun a b => decide (a < b)) := tb_int2 fCmp_no fun i j t u c A D σ s QV EV Q E P h O OE => lt_int (O.val P.rel (.bool _) h)
theorem tb_le : TB X k (compareOp .LtE) (fCmp fun a b => decide (a ≤ b)) := tb_int2 fCmp_no fun i j t u c A D σ s QV EV Q E P h O OE => PyProof.Rows.le_int (O.val P.rel (.bool _) h)
theorem tb_gt : TB X k (compareOp .Gt) (fCmp fun a b => decide (b < a)) := tb_int2 fCmp_no fun i j t u c A D σ s QV EV Q E P h O OE => gt_int (O.val P.rel (.bool _) h)
theorem tb_sub : TB X k (binaryOp .Sub) (fArith (· - ·)) := tb_int2 fArith_no fun i j t u c A D σ s QV EV Q E P h O OE => sub_int' (O _ _ D σ _ (P.rel.toks _) (DM.le_refl D) (.int _ _) h)
end
end Mine
end

section
open PySem PySem.W PyProof.Rows PySem.Calls
namespace Mine

/-! ## one object turns -/

theorem Rel.but {g0 : Heap} {c : FC} {D : DM} {σ : St} {s : Shared} (R : Rel g0 c D σ s) {I : Addr} (h1 : c.B I = none) (h2 : D I = none) (h3 : I ∉ foot c σ.objs) (h4 : I ∉ frames c.stack) (h5 : c.base.heap.get? I = none) {h' : Heap} {t : Nat}
    (k : ∀ a o, a ≠ I → s.heap.get? a = some o → h'.get? a = some o) : Rel g0 c D σ { s with heap := h', toks := t } := by
  have hLI : c.env.locals ≠ I := fun q => h3 (q ▸ List.mem_cons_self)
  refine ⟨?_, fun a o e => k a o (fun q => by rw [q, h2] at e; cases e) (R.kD a o e), R.gD, R.d0, R.dn, fun a o e => ?_, fun a o e => ?_, ?_, ⟨?_, fun j y kd e1 e2 => ?_, fun a ha => ?_⟩, fun p hp => ?_, fun p hp => ?_, R.disB, R.disD, R.disS, R.frB, R.nd⟩
  · obtain ⟨h, t0, e⟩ := R.same; exact ⟨h', t, by rw [e]⟩
  · obtain ⟨o', q⟩ := R.ex a o e
    exact ⟨o', k a o' (fun z => by rw [z, h5] at e; cases e) q⟩
  · have ha : a ≠ I := fun q => by rw [q, h1] at e; cases e
    obtain ⟨⟨sl, e1⟩, e2⟩ := R.kB a o e
    exact ⟨⟨sl, k a _ ha e1⟩, fun n => k a o ha (e2 n)⟩
  · have : ∀ l : List Env, (∀ a ∈ frames l, a ≠ I) → StackOK s.heap l → StackOK h' l := by
      intro l
      induction l with
      | nil => intro _ _; trivial
      | cons env r ih =>
        rintro hn ⟨hk, ⟨L, o, hf, ho, hd⟩, hr⟩
        exact ⟨hk, ⟨L, o, hf, k L o (hn L (by simp [frames, hf])) ho, hd⟩, ih (fun a ha => hn a (by simp only [frames, List.filterMap_cons, hf]; exact List.mem_cons_of_mem _ ha)) hr⟩
    exact this c.stack (fun a ha q => h4 (q ▸ ha)) R.stk
  · obtain ⟨m, ⟨o, es, ep, e1, e2, e3⟩, e4⟩ := R.loc.ns
    exact ⟨m, ⟨o, es, ep, k _ o hLI e1, e2, e3⟩, e4⟩
  · obtain ⟨ca, o, w, a1, a2, a3, a4, a5⟩ := R.loc.cell j y kd e1 e2
    have : ca ≠ I := fun q => by
      rcases a4 with h | h
      · exact h3 (q ▸ List.mem_cons_of_mem _ (List.mem_append_left _ h))
      · rw [q, h1] at h; cases h
    exact ⟨ca, o, w, a1, k ca o this a2, a3, a4, a5⟩
  · obtain ⟨o, e⟩ := R.loc.own a ha
    exact ⟨o, k a o (fun q => h3 (q ▸ List.mem_cons_of_mem _ (List.mem_append_left _ ha))) e⟩
  · exact (R.obj p hp).keeps (DM.le_refl D) fun b hb o e => k b o (fun q => h3 (q ▸ List.mem_cons_of_mem _ (List.mem_append_right _ (List.mem_append_right _ (List.mem_flatMap.mpr ⟨p, hp, hb⟩))))) e
  · exact k _ _ (fun q => h3 (q ▸ List.mem_cons_of_mem _ (List.mem_append_right _ (List.mem_append_left _ (List.mem_map.mpr ⟨p, hp, rfl⟩))))) (R.hidR p hp)

/-- an object that is kept from sight -/
noncomputable def FC.hide (c : FC) (I : Addr) (o : Obj) : FC := { c with hid := (I, o) :: c.hid }

theorem foot_hide (c : FC) (I : Addr) (o : Obj) (O : List (Addr × MO)) : ∀ a, a ∈ foot (c.hide I o) O ↔ a = I ∨ a ∈ foot c O := by
  intro a
  simp only [foot, FC.hide, List.map_cons, List.mem_cons, List.mem_append]
  constructor
  · rintro (h | h | (h | h) | h)
    · exact .inr (.inl h)
    · exact .inr (.inr (.inl h))
    · exact .inl h
    · exact .inr (.inr (.inr (.inl h)))
    · exact .inr (.inr (.inr (.inr h)))
  · rintro (h | h | h | h | h)
    · exact .inr (.inr (.inl (.inl h)))
    · exact .inl h
    · exact .inr (.inl h)
    · exact .inr (.inr (.inl (.inr h)))
    · exact .inr (.inr (.inr h))

theorem Rel.hide {g0 : Heap} {c : FC} {D : DM} {σ : St} {s : Shared} (R : Rel g0 c D σ s) {I : Addr} {o : Obj} (h0 : s.heap.get? I = some o) (h1 : c.B I = none) (h2 : D I = none) (h3 : I ∉ foot c σ.objs) (h4 : I ∉ frames c.stack) : Rel g0 (c.hide I o) D σ s := by
  refine ⟨R.same, R.kD, R.gD, R.d0, R.dn, R.ex, R.kB, R.stk, ⟨R.loc.ns, R.loc.cell, R.loc.own⟩, R.obj, fun p hp => ?_, fun a ha => ?_, fun a ha => ?_, R.disS, R.frB, ?_⟩
  · rcases List.mem_cons.mp hp with rfl | hp
    · exact h0
    · exact R.hidR p hp
  · rcases (foot_hide c I o σ.objs a).mp ha with rfl | h
    · exact h1
    · exact R.disB a h
  · rcases (foot_hide c I o σ.objs a).mp ha with rfl | h
    · exact h2
    · exact R.disD a h
  · have nd := R.nd
    simp only [foot] at nd h3
    simp only [foot, FC.hide, List.map_cons, List.cons_append]
    have : (I :: c.env.locals :: (c.own ++ (c.hid.map (·.1) ++ feet σ.objs))).Nodup := List.nodup_cons.mpr ⟨h3, nd⟩
    refine (List.Perm.nodup_iff ?_).mp this
    refine (List.Perm.swap _ _ _).trans (List.Perm.cons _ ?_)
    exact List.perm_middle.symm

theorem Rel.unhide {g0 : Heap} {c : FC} {D : DM} {σ : St} {s : Shared} {I : Addr} {o : Obj} (R : Rel g0 (c.hide I o) D σ s) : Rel g0 c D σ s ∧ s.heap.get? I = some o ∧ c.B I = none ∧ D I = none ∧ I ∉ foot c σ.objs := by
  have hI : I ∈ foot (c.hide I o) σ.objs := (foot_hide c I o σ.objs I).mpr (.inl rfl)
  have sub : ∀ a ∈ foot c σ.objs, a ∈ foot (c.hide I o) σ.objs := fun a ha => (foot_hide c I o σ.objs a).mpr (.inr ha)
  have nd : (I :: foot c σ.objs).Nodup := by
    have := R.nd
    simp only [foot, FC.hide, List.map_cons, List.cons_append] at this
    simp only [foot]
    refine (List.Perm.nodup_iff ?_).mp this
    refine List.Perm.symm ((List.Perm.swap _ _ _).trans (List.Perm.cons _ ?_))
    exact List.perm_middle.symm
  refine ⟨⟨R.same, R.kD, R.gD, R.d0, R.dn, R.ex, R.kB, R.stk, ⟨R.loc.ns, R.loc.cell, R.loc.own⟩, R.obj, fun p hp => R.hidR p (List.mem_cons_of_mem _ hp), fun a ha => R.disB a (sub a ha), fun a ha => R.disD a (sub a ha), R.disS, R.frB, (List.nodup_cons.mp nd).2⟩,
    R.hidR (I, o) List.mem_cons_self, R.disB I hI, R.disD I hI, (List.nodup_cons.mp nd).1⟩

theorem FlightIn.unhide {c : FC} {I : Addr} {o : Obj} {e : Value} {s' : Shared} (F : FlightIn (c.hide I o) e s') : FlightIn c e s' := by
  obtain ⟨ea, a0, b, h, t, z⟩ := F
  exact ⟨ea, a0, b, h, t, ⟨z.e1, z.e2, z.f1, z.f2, z.f3, z.f4, z.f5, z.f6, z.f7⟩⟩
end Mine
end

section
open PySem PySem.W PyProof.Rows PySem.Calls
namespace Mine

noncomputable def itemsOf : V → Option (List V)
  | .bytes l => some (l.map fun c => .int (c.toNat : Int))
  | .str l => some (l.map fun c => .str [c])
  | .range lo hi => if 0 ≤ lo ∧ lo ≤ hi ∧ hi ≤ 16777216 then some ((List.range (hi - lo).toNat).map fun (i : Nat) => V.int (lo + (i : Int))) else none
  | .list vs => some vs
  | .tup vs => some vs
  | _ => none

/-- an iterator over these items -/
noncomputable def ItOf (X : Cx) (D : DM) (xv : Value) (items : List V) : Prop :=
  ∀ (A : Around) (s : Shared) (Q : Value → Shared → Prop) (E : Value → Shared → Prop), (∀ a o, D a = some o → s.heap.get? a = some o) → A.handled = none →
    (∀ I o fp P St, I = s.heap.objs.size → Walks P0 X.w A I fp [I] items.length P St → (∀ b ∈ fp, b = I ∨ (D b).isSome = true) → o.isFreed = false → St 0 (s.heap.push o) → (∀ i h, St i h → ∃ o, h.get? I = some o) →
      (∀ i v, P i v → ∃ x, items[i]? = some x ∧ VR D x v) → Q (.ref I) { s with heap := s.heap.push o }) → wpAny (model P0 X.w) A (pyIter xv) Q E s

theorem VRs.nth {D : DM} {vs : List V} {vals : List Value} (h : VRs D vs vals) {i : Nat} {v : Value} (e : vals.toArray[i]? = some v) : ∃ x, vs[i]? = some x ∧ VR D x v := by
  have e' : vals[i]? = some v := by simpa using e
  have hl := h.length
  have hi : i < vs.length := by rw [← hl]; exact (List.getElem?_eq_some_iff.mp e').1
  obtain ⟨val, q1, q2⟩ := h.get (List.getElem?_eq_getElem hi)
  rw [e'] at q1; cases q1
  exact ⟨_, List.getElem?_eq_getElem hi, q2⟩

theorem itOf_ok {X : Cx} {D : DM} {v : V} {xv : Value} {items : List V} (hv : VR D v xv) (hi : itemsOf v = some items) : ItOf X D xv items := by
  intro A s Q E kD hh hQ
  cases hv with
  | bytes l t =>
    cases hi
    have hsz : l.toArray.size = (l.map fun c => V.int (c.toNat : Int)).length := by simp
    refine KBw.pyIter_bytes (hQ _ _ _ _ _ rfl (hsz ▸ KBw.walks hh s.heap.objs.size l.toArray t) (fun b hb => .inl (List.mem_singleton.mp hb)) rfl ⟨_, Heap.get?_push_size _ rfl, rfl, rfl⟩ (fun i h st => let ⟨o, ho, _⟩ := st; ⟨o, ho⟩) ?_)
    rintro i v ⟨c, u, h1, rfl⟩
    refine ⟨.int (c.toNat : Int), ?_, .int _ _⟩
    simp at h1
    simp [h1]
  | str l t =>
    cases hi
    have hsz : (strD l).cps.size = (l.map fun c => V.str [c]).length := by simp
    have sgn : ∀ i v, SignAt (strD l) i v → ∃ x, (l.map fun c => V.str [c])[i]? = some x ∧ VR D x v := by
      rintro i v ⟨c, u, h1, rfl⟩
      refine ⟨.str [c], ?_, .str _ _⟩
      simp at h1
      simp [h1]
    cases ha : (strD l).cps.all (· < 128)
    · refine wpAny_pyIter_wide ha (hQ _ _ _ _ _ rfl (hsz ▸ Walks.strWide hh s.heap.objs.size (strD l) t) (fun b hb => .inl (List.mem_singleton.mp hb)) rfl ⟨_, Heap.get?_push_size _ rfl, rfl, rfl⟩ ?_ sgn)
      exact fun i h st => let ⟨o, ho, _⟩ := st; ⟨o, ho⟩
    · refine wpAny_pyIter_ascii ha (hQ _ _ _ _ _ rfl (hsz ▸ Walks.strAscii hh s.heap.objs.size (strD l) t) (fun b hb => .inl (List.mem_singleton.mp hb)) rfl ⟨_, Heap.get?_push_size _ rfl, rfl, rfl⟩ ?_ sgn)
      exact fun i h st => let ⟨o, ho, _⟩ := st; ⟨o, ho⟩
  | range h =>
    rename_i lo hi' a t1 t2 t3
    simp only [itemsOf] at hi
    split at hi
    · rename_i hb
      cases hi
      have hn : Builtin.Range.rangeSize lo hi' 1 = ((hi' - lo).toNat : Int) := by
        unfold Builtin.Range.rangeSize
        rw [if_pos (by decide)]
        split <;> (first | lia | omega)
      have hsm : Builtin.Range.small lo hi' 1 = true := by
        unfold Builtin.Range.small
        rw [hn]
        simp only [Builtin.Range.rangeFitsLong, Bool.and_eq_true, Bool.or_eq_true, decide_eq_true_eq, beq_iff_eq]
        refine ⟨⟨⟨⟨⟨?_, ?_⟩, ⟨?_, ?_⟩⟩, ⟨?_, ?_⟩⟩, ⟨?_, ?_⟩⟩, .inr ?_⟩
        all_goals first | (first | lia | omega) | (rw [if_pos (by decide)]; simp only [Bool.and_eq_true, decide_eq_true_eq]; (first | lia | omega))
      refine wpAny_pyIter_range (kD _ _ h) hsm (hQ _ _ [s.heap.objs.size] (fun i v => i < (hi' - lo).toNat ∧ ∃ t, v = .int (lo + (i : Nat) * 1) t) (fun i h => IsRangeIter h s.heap.objs.size (lo + (i : Nat) * 1) (((hi' - lo).toNat : Int) - (i : Nat)) 1) rfl ?_ (fun b hb => .inl (List.mem_singleton.mp hb)) rfl ?_ (fun i h st => ⟨_, st⟩) ?_)
      · have W := (Walks.range (prog := P0) (w := X.w) hh s.heap.objs.size lo 1 (hi' - lo).toNat).bound
        rw [show (List.map (fun (i : Nat) => V.int (lo + (i : Int))) (List.range (hi' - lo).toNat)).length = (hi' - lo).toNat by simp]
        exact W
      · show IsRangeIter _ _ _ _ _
        rw [hn]
        simpa using Heap.get?_push_size _ rfl
      · rintro i v ⟨h1, t, rfl⟩
        refine ⟨.int (lo + (i : Int)), ?_, ?_⟩
        · rw [List.getElem?_map, List.getElem?_range h1]; rfl
        · rw [Int.mul_one]; exact .int _ _
    · cases hi
  | list h hs =>
    cases hi
    rename_i vals a n
    have hl : s.heap.IsList a vals.toArray := ⟨_, kD _ _ h, rfl, _, rfl⟩
    have hne : a ≠ s.heap.objs.size := Nat.ne_of_lt (Heap.lt_size (kD _ _ h))
    have hsz : vals.toArray.size = items.length := by simpa using hs.length
    refine wpAny_pyIter_list hl (hQ _ _ _ _ _ rfl (hsz ▸ Walks.list hh s.heap.objs.size a hne vals.toArray) (fun b hb => ?_) rfl ⟨⟨_, Heap.get?_push_size _ rfl, rfl, rfl⟩, hl.push _⟩ (fun i h st => let ⟨⟨o, ho, _⟩, _⟩ := st; ⟨o, ho⟩) fun i v e => hs.nth e)
    simp only [List.mem_cons, List.not_mem_nil, or_false] at hb
    rcases hb with rfl | rfl
    · exact .inl rfl
    · right; rw [h]; rfl
  | tup h hs =>
    cases hi
    rename_i vals a n
    have hl : s.heap.IsTuple a vals.toArray := ⟨_, kD _ _ h, rfl, _, rfl⟩
    have hne : a ≠ s.heap.objs.size := Nat.ne_of_lt (Heap.lt_size (kD _ _ h))
    have hsz : vals.toArray.size = items.length := by simpa using hs.length
    refine wpAny_pyIter_tuple hl (hQ _ _ _ _ _ rfl (hsz ▸ Walks.tuple hh s.heap.objs.size a hne vals.toArray) (fun b hb => ?_) rfl ⟨⟨_, Heap.get?_push_size _ rfl, rfl, rfl⟩, ⟨_, Heap.get?_push_of_some _ (kD _ _ h), rfl, _, rfl⟩⟩ (fun i h st => let ⟨⟨o, ho, _⟩, _⟩ := st; ⟨o, ho⟩) fun i v e => hs.nth e)
    simp only [List.mem_cons, List.not_mem_nil, or_false] at hb
    rcases hb with rfl | rfl
    · exact .inl rfl
    · right; rw [h]; rfl
  | _ => cases hi
end Mine
end

section
open PySem PySem.W PyProof.Rows PySem.Calls
namespace Mine

structure Apart (c : FC) (D : DM) (σ : St) (I : Addr) : Prop where
  B : c.B I = none
  D : D I = none
  f : I ∉ foot c σ.objs
  s : I ∉ frames c.stack
  b : c.base.heap.get? I = none

theorem Rel.apart {g0 : Heap} {c : FC} {D : DM} {σ : St} {s : Shared} (R : Rel g0 c D σ s) {I : Addr} (h : s.heap.get? I = none) : Apart c D σ I :=
  let ⟨a, b, c', d, e⟩ := R.fresh h; ⟨e, b, c', d, a⟩

theorem Pre.hide {X : Cx} {k : Nat} {c : FC} {A : Around} {D : DM} {σ : St} {s : Shared} {I : Addr} {o : Obj} (P : Pre X k c A D σ s) (R : Rel X.g0 (c.hide I o) D σ s) : Pre X k (c.hide I o) A D σ s :=
  ⟨P.G, P.ok, P.ownf, P.room, P.hh, P.top, P.fr, R⟩

noncomputable def wFor (b : V → W FV) : List V → W FV
  | [] => fun QV _ σ => QV .next σ
  | v :: r => fun QV EV σ => b v (wNext (wFor b r) QV EV) EV σ

section
variable {X : Cx} {k : Nat} {env : Env}

theorem fp_frame {D D2 : DM} {h h' : Heap} {fp : List Addr} {I : Addr} {oI : Obj} (hfp : ∀ b ∈ fp, b = I ∨ (D b).isSome = true) (le : D.le D2) (k1 : ∀ a o, D a = some o → h.get? a = some o) (k2 : ∀ a o, D2 a = some o → h'.get? a = some o) (e1 : h.get? I = some oI) (e2 : h'.get? I = some oI) :
    ∀ b ∈ fp, ∀ o, h.get? b = some o → h'.get? b = some o := by
  intro b hb o e
  rcases hfp b hb with rfl | hD
  · rw [e1] at e; cases e; exact e2
  · obtain ⟨o', q⟩ := Option.isSome_iff_exists.mp hD
    have := k1 b o' q
    rw [e] at this; cases this
    exact k2 b o (le b o q)

noncomputable abbrev kDb (db : W FV) (QV : FV → St → Prop) (EV : Prop) : Unit → St → Prop := fun _ σ => db QV EV σ
noncomputable abbrev fBody (fst : V → W Unit) (db : W FV) (v : V) : W FV := fun QV EV σ => fst v (kDb db QV EV) EV σ
noncomputable abbrev fFor (b : V → W FV) (xv : V) : W FV := fun QV EV σ => ∃ items, itemsOf xv = some items ∧ wFor b items QV EV σ
theorem ts_for {x : Str} {px pos : Pos} {iter : Expr} {body : List Stmt} {di : W V} {fst : V → W Unit} {db : W FV} (hi : TE X k env iter di) (hst : TStore X k env x fst) (hb : TS X k env body db)
    (hs : ∀ x, foldedSetIterable iter env x = pure x := by intro _; rfl) :
    TS1 X k env (.For (.Name x px) iter body [] pos) (wUn di (fFor (fBody fst db))) :=
  fun c A D σ s QV EV Q E hc P h O OE => by
    refine g_For (hi c A D σ s _ EV _ E hc P h (fun xv xvv D1 σ1 s1 R1 l1 hv q => ?_) OE) hs
    obtain ⟨items, hit, hw⟩ := q
    refine itOf_ok hv hit A s1 _ E R1.kD P.hh fun I o fp Pi St hI W hfp hfree hst0 hIo hP => ?_
    have hIn : s1.heap.get? I = none := by rw [hI]; exact none_at (Nat.le_refl _)
    have ap0 := R1.apart hIn
    have R1' : Rel X.g0 c D1 σ1 { s1 with heap := s1.heap.push o } := R1.keep (t' := s1.toks) fun a o' e => Heap.get?_push_of_some _ e
    subst hc
    have pass : ∀ e s', EV → FlightIn c e s' → notedBy (model P0 X.w) A c.env (cameBackBy (model P0 X.w) A c.env E) e s' := fun e s' ev F => fi_passes P.fr P.top F fun e s' F => OE ev e s' F
    refine cg_for (fun n s' => ∃ i D' σ', n = items.length - i ∧ i ≤ items.length ∧ Rel X.g0 c D' σ' s' ∧ D1.le D' ∧ Apart c D' σ' I ∧ St i s'.heap ∧
        wFor (fBody fst db) (items.drop i) QV EV σ') ?_ items.length ⟨0, D1, σ1, rfl, Nat.zero_le _, R1', DM.le_refl _, ap0, hst0, hw⟩ (fun _ => rfl)
    rintro n s' ⟨i, D', σ', rfl, hile, R', le', ap', hst', hw'⟩
    by_cases hlt : i < items.length
    · refine W.item i s' _ _ hlt hst' fun v h' tk hPv hst1 hk => ?_
      have hk' : ∀ a o, a ≠ I → s'.heap.get? a = some o → h'.get? a = some o := fun a o' ha e => hk a o' (by simpa using ha) e
      have R2 := R'.but ap'.B ap'.D ap'.f ap'.s ap'.b (t := tk) hk'
      obtain ⟨oI, hoI⟩ := hIo _ _ hst1
      have R3 := R2.hide hoI ap'.B ap'.D ap'.f ap'.s
      obtain ⟨xi, hxi, hvi⟩ := hP i v hPv
      have hdrop : items.drop i = xi :: items.drop (i + 1) := by
        rw [List.drop_eq_getElem_cons hlt]
        rw [List.getElem?_eq_getElem hlt] at hxi; cases hxi; rfl
      rw [hdrop] at hw'
      have hE : OutE (c.hide I oI) EV (notedBy (model P0 X.w) A c.env (cameBackBy (model P0 X.w) A c.env E)) := fun ev e s' F => pass e s' ev F.unhide
      have P3 : Pre X k (c.hide I oI) A D' σ' { s' with heap := h', toks := tk } := (P.to R2).hide R3
      refine wpAny_assign_Name (hst (c.hide I oI) A D' σ' _ xi v _ EV _ _ rfl P3 (hvi.mono le') hw' (fun D4 σ4 s4 R4 l4 q4 => ?_) hE)
      refine hb (c.hide I oI) A D4 σ4 s4 _ EV _ _ rfl (P3.to R4) q4 (fun f ff D5 σ5 s5 R5 l5 fr q5 => ?_) hE
      obtain ⟨R6, e1, e2, e3, e4⟩ := R5.unhide
      have ap6 : Apart c D5 σ5 I := ⟨e2, e3, e4, ap'.s, ap'.b⟩
      have le6 : D1.le D5 := DM.le_trans le' (DM.le_trans l4 l5)
      have st6 : St (i + 1) s5.heap := W.frame _ _ _ hst1 (fp_frame hfp le6 (fun a o e => R2.kD a o (le' a o e)) R6.kD hoI e1)
      cases f with
      | next =>
        cases fr
        exact ⟨items.length - (i + 1), by omega, i + 1, D5, σ5, rfl, hlt, R6, le6, ap6, st6, q5⟩
      | ret u =>
        obtain ⟨vv, rfl, hvv⟩ := fr
        exact O (.ret u) (.ret vv) D5 σ5 s5 R6 (DM.le_trans l1 le6) ⟨vv, rfl, hvv⟩ q5
    · have hin : i = items.length := by omega
      subst hin
      refine W.done s' _ _ hst' fun h' tk hk => ?_
      have R2 := R'.but ap'.B ap'.D ap'.f ap'.s ap'.b (t := tk) fun a o' ha e => hk a o' (by simpa using ha) e
      rw [List.drop_length] at hw'
      exact (O .next .next D' σ' _ R2 (DM.le_trans l1 le') rfl hw')
end
end Mine
end

section
open PySem PySem.W PyProof.Rows PySem.Calls
namespace Mine

noncomputable def freeToCell (ns : List (Str × NameKind)) : List (Str × NameKind) := ns.map fun p => match p.2 with
  | .free => (p.1, .cell)
  | _ => p

noncomputable def capOne (sc osc : Scope) (caps : List (Nat × Nat)) (i : Nat) : Bool := match sc.names[i]? with
  | some (n, .free) => (match caps.lookup i with
    | some j => osc.names[j]? == some (n, .cell)
    | none => false)
  | some (_, .cell) => false
  | some _ => (caps.lookup i).isNone
  | none => true

noncomputable def compOK (sc osc : Scope) (caps : List (Nat × Nat)) (tgt : Nat) (x : Str) : Bool :=
  scopeOK sc && osc.kind == .function && (List.range sc.names.length).all (capOne sc osc caps) && sc.names[tgt]? == some (x, .local)

noncomputable def capLoc (n : Nat) (caps : List (Nat × Nat)) (loc : List (Option V)) : List (Option V) :=
  (List.range n).map fun i => match caps.lookup i with
    | some j => (loc[j]?).join
    | none => none

theorem capLoc_get {n : Nat} {caps : List (Nat × Nat)} {loc : List (Option V)} {i : Nat} {v : V} (h : (capLoc n caps loc)[i]? = some (some v)) : ∃ j, caps.lookup i = some j ∧ loc[j]? = some (some v) := by
  unfold capLoc at h
  by_cases hi : i < n
  · rw [List.getElem?_map, List.getElem?_range hi] at h
    simp only [Option.map_some, Option.some.injEq] at h
    cases hc : caps.lookup i with
    | none => rw [hc] at h; cases h
    | some j =>
      rw [hc] at h
      dsimp only at h
      refine ⟨j, rfl, ?_⟩
      cases hl : loc[j]? with
      | none => rw [hl] at h; cases h
      | some o => rw [hl] at h; cases o with
        | none => cases h
        | some w => simp at h; rw [h]
  · rw [List.getElem?_eq_none (by simpa using hi)] at h; cases h

theorem closure_go {env : Env} : ∀ (names : List (Str × NameKind)) (acc : List (Str × Addr)), (∀ x ∈ names, x.2 = .free → ∃ ca, env.cells.lookup x.1 = some ca) →
    ∃ cl, (forIn names acc fun (x : Str × NameKind) (r : List (Str × Addr)) => if x.2 == .free then (do let a ← cellOf env x.1; pure (ForInStep.yield ((x.1, a) :: r))) else pure (ForInStep.yield r) : Sem (List (Str × Addr))) = pure cl ∧
      ∀ n, cl.lookup n = if (names.any fun x => x.1 == n && x.2 == .free) = true then env.cells.lookup n else acc.lookup n
  | [], acc, _ => ⟨acc, rfl, fun n => rfl⟩
  | (m, k) :: r, acc, h => by
    by_cases hk : (k == NameKind.free) = true
    · have hk' : k = .free := by simpa using hk
      subst hk'
      obtain ⟨ca, hca⟩ := h (m, .free) List.mem_cons_self rfl
      obtain ⟨cl, e1, e2⟩ := closure_go r ((m, ca) :: acc) fun x hx => h x (List.mem_cons_of_mem _ hx)
      refine ⟨cl, ?_, fun n => ?_⟩
      · rw [List.forIn_cons]
        have : cellOf env m = pure ca := by unfold cellOf; rw [hca]
        simp only [beq_self_eq_true, if_true, this, pure_bind]
        exact e1
      · rw [e2 n]
        simp only [List.any_cons, beq_self_eq_true, Bool.and_true, Bool.or_eq_true, List.lookup_cons]
        by_cases hr : (r.any fun x => x.1 == n && x.2 == .free) = true
        · rw [if_pos hr, if_pos (.inr hr)]
        · rw [if_neg hr]
          by_cases hmn : m = n
          · subst hmn; simp [hca]
          · rw [if_neg (by simp [hmn, hr])]
            have : (n == m) = false := beq_eq_false_iff_ne.mpr (Ne.symm hmn)
            rw [this]
    · obtain ⟨cl, e1, e2⟩ := closure_go r acc fun x hx => h x (List.mem_cons_of_mem _ hx)
      refine ⟨cl, ?_, fun n => ?_⟩
      · rw [List.forIn_cons]
        simp only [hk, Bool.false_eq_true, if_false, pure_bind]
        exact e1
      · rw [e2 n]
        have : (k == NameKind.free) = false := by simpa using hk
        simp [this]

theorem closure_ok {sc : Scope} {env : Env} (h : ∀ x ∈ sc.names, x.2 = .free → ∃ ca, env.cells.lookup x.1 = some ca) :
    ∃ cl, closureFor sc env = pure cl ∧ ∀ n, cl.lookup n = if (sc.names.any fun x => x.1 == n && x.2 == .free) = true then env.cells.lookup n else none := by
  obtain ⟨cl, e1, e2⟩ := closure_go (env := env) sc.names [] h
  refine ⟨cl, ?_, fun n => by rw [e2 n]; rfl⟩
  unfold closureFor
  show (forIn sc.names [] _ >>= fun cs => pure cs) = pure cl
  rw [bind_pure]
  exact e1

/-- the tests of a comprehension -/
noncomputable def TIfs (X : Cx) (k : Nat) (env : Env) (ifs : List Expr) (d : W Bool) : Prop :=
  ∀ c A D σ s QV EV Q E, c.env = env → Pre X k c A D σ s → d QV EV σ → OutB X c D QV Q → OutE c EV E →
    wpG X.b (model P0 X.w) A (forIn ifs true fun c r => if r = true then do let ok ← isTrue c env (eval c env); pure (ForInStep.yield ok) else pure (ForInStep.yield r)) Q E s


section
variable {X : Cx} {k : Nat} {env : Env}
theorem tifs_nil : TIfs X k env [] wYes := fun c A D σ s QV EV Q E hc P h O OE => g_tests_nil (O true D σ s P.rel (DM.le_refl D) h)
theorem tifs_one {e : Expr} {d : W Bool} (h : TT X k env e d) : TIfs X k env [e] d := fun c A D σ s QV EV Q E hc P q O OE => g_tests_one (h c A D σ s QV EV Q E hc P q O OE)
end

noncomputable def wCompGo (dt : W Bool) (de : W V) (tgt : Nat) : List V → List V → List (Option V) → (List V → List (Addr × MO) → Prop) → Prop → List (Addr × MO) → Prop
  | [], acc, _, K, _, objs => K acc objs
  | v :: r, acc, loc, K, EV, objs => dt (fun b σ1 => if b then de (fun y σ2 => wCompGo dt de tgt r (acc ++ [y]) σ2.loc K EV σ2.objs) EV σ1 else wCompGo dt de tgt r acc σ1.loc K EV σ1.objs) EV ⟨loc.set tgt (some v), objs⟩

/-- what a fault does behind a comprehension -/
theorem fi_exit {X : Cx} {c c' : FC} {D : DM} {σ : St} {s1 : Shared} (R1 : Rel X.g0 c D σ s1) (hb : c'.base = s1) (hs : c'.stack = c.stack) (hB : c'.B = fun a => if a ∈ feet σ.objs then none else s1.heap.get? a)
    (hC : s1.heap.get? c'.env.locals = none) {e : Value} {s2 : Shared} (F : FlightIn c' e s2) (hT : ∃ ea a0 b v, e = .ref ea ∧ s2.heap.TracedAtW b ea (.ref 71) a0 v) {h' : Heap} (hsb : Heap.SameBut c'.env.locals s2.heap h') :
    FlightIn c e { s2 with heap := h' } ∧ ∃ ea a0 b v, e = .ref ea ∧ h'.TracedAtW b ea (.ref 71) a0 v := by
  obtain ⟨ea, a0, b, h, t, rfl, rfl, f1, f2, f3, f4, f5, ⟨mn, fn⟩, f6⟩ := F
  have hT' : ∃ v, h.TracedAtW b ea (.ref 71) a0 v := by
    rcases f6 with ⟨oe, vs, g1, g2, g3, g4, g5⟩ | g
    · obtain ⟨ea', a0', b', fl', h1, oe', vs', T, oT, ts, q1, _, q3, q4, _⟩ := hT
      cases h1
      rw [g1] at q1; cases q1; rw [g3] at q3; cases q3; rw [g5] at q4; cases q4
    · exact g
  obtain ⟨v, oe, vs, T, oT, ts, he, hcls, hd, h1, hnT, hTe, hT, hdT, h3⟩ := hT'
  obtain ⟨oC, esC, epC, eC1, eC2, eC3⟩ := fn
  have neF : ∀ a o, h.get? a = some o → (∃ vs, o.data = .fields vs) → a ≠ c'.env.locals := fun a o e ⟨vs, q⟩ z => by
    rw [z, eC1] at e; cases e; rw [eC2] at q; cases q
  have sb : ∀ a, a ≠ c'.env.locals → h'.get? a = h.get? a := hsb.2
  have ke := neF ea oe he ⟨_, hd⟩
  have kT := neF T oT hT ⟨_, hdT⟩
  have hne : ∀ a o, s1.heap.get? a = some o → a ≠ c'.env.locals := fun a o e z => by rw [z, hC] at e; cases e
  have feetB : ∀ a, (c.B a).isSome = true → a ∉ feet σ.objs := fun a q hm => by
    rw [R1.disB a (List.mem_cons_of_mem _ (List.mem_append_right _ (List.mem_append_right _ hm)))] at q; cases q
  have toB : ∀ a o, s1.heap.get? a = some o → a ∉ feet σ.objs → c'.B a = some o := fun a o e n => by rw [hB]; dsimp only; rw [if_neg n]; exact e
  have tr : h'.TracedAtW (b.hide c'.env.locals) ea (.ref 71) a0 v := by
    refine ⟨oe, vs, T, oT, ts, (sb _ ke).trans he, hcls, hd, h1, ?_, hTe, (sb _ kT).trans hT, hdT, h3⟩
    rw [Heap.hide_ne b kT]; exact hnT
  have ofH : ∀ a o, (b.hide c'.env.locals).get? a = some o → a ≠ c'.env.locals ∧ b.get? a = some o := fun a o e => by
    have : a ≠ c'.env.locals := fun z => by rw [z, Heap.hide_self] at e; cases e
    rw [Heap.hide_ne b this] at e
    exact ⟨this, e⟩
  have ff : h'.FunFrames (b.hide c'.env.locals) c.stack := by
    rw [← hs]
    have go : ∀ l : List Env, h.FunFrames b l → (∀ a ∈ frames l, a ≠ c'.env.locals) → h'.FunFrames (b.hide c'.env.locals) l := by
      intro l
      induction l with
      | nil => intro _ _; trivial
      | cons env r ih =>
        rintro ⟨hk, ⟨L, o, hf, hn, ho, hd'⟩, hr⟩ hne'
        have : L ≠ c'.env.locals := hne' L (by simp [frames, hf])
        exact ⟨hk, ⟨L, o, hf, by rw [Heap.hide_ne b this]; exact hn, (sb _ this).trans ho, hd'⟩, ih hr fun a ha => hne' a (by simp only [frames, List.filterMap_cons, hf]; exact List.mem_cons_of_mem _ ha)⟩
    refine go _ f5 fun a ha => ?_
    rw [hs] at ha
    obtain ⟨o, q⟩ := R1.stk.mem a ha
    exact hne a o q
  obtain ⟨h0, t0, e0⟩ := R1.same
  refine ⟨⟨ea, a0, b.hide c'.env.locals, h', t, rfl, by rw [hb, e0], fun a o q n => ?_, fun a o q => ?_, fun a o q => ?_, ?_, ff, ?_, .inr ⟨v, tr⟩⟩, ea, a0, _, v, rfl, tr⟩
  · have q1 := (R1.kB a o q).2 n
    rw [Heap.hide_ne b (hne a o q1)]
    exact f1 a o (toB a o q1 (feetB a (by rw [q]; rfl))) (by rw [hs]; exact n)
  · obtain ⟨⟨sl, q1⟩, _⟩ := R1.kB a o q
    obtain ⟨sl', q2⟩ := f2 a _ (toB a _ q1 (feetB a (by rw [q]; rfl)))
    exact ⟨sl', (sb a (hne a _ q1)).trans q2⟩
  · obtain ⟨q1, q2⟩ := ofH a o q
    exact (sb a q1).trans (f3 a o q2)
  · rw [Heap.hide_ne b ke]; exact f4
  · obtain ⟨m, ⟨o, es, ep, q1, q2, q3⟩, _⟩ := R1.loc.ns
    have nL : c.env.locals ∉ feet σ.objs := fun hm => (List.nodup_cons.mp R1.nd).1 (List.mem_append_right _ (List.mem_append_right _ hm))
    obtain ⟨sl', q4⟩ := f2 _ _ (toB _ _ q1 nL)
    exact ⟨m, _, es, ep, (sb _ (hne _ _ q1)).trans q4, q2, q3⟩

theorem fi_passOn {α : Type} {M : Model} {A : Around} {E : Value → Shared → Prop} {Q : α → Shared → Prop} {c : FC} {e : Value} {s : Shared} {what : String} {env : Env} (F : FlightIn c e s) (hT : ∃ ea a0 b v, e = .ref ea ∧ s.heap.TracedAtW b ea (.ref 71) a0 v)
    (hE : ∀ s', FlightIn c e s' → E e s') : wpAny M A (PySem.passOn what e env : Sem α) Q E s := by
  unfold PySem.passOn
  obtain ⟨ea, a0, b, v, rfl, hT'⟩ := id hT
  obtain ⟨oe, vs, T, oT, ts, q1, q2, q3, q4, q5⟩ := hT'
  refine wpAny_bind (wpAny_field q1 q3 q4 ?_)
  rw [if_neg (by simp)]
  exact wpAny_bind (fi_setFlight F hT fun s3 F3 _ => wpAny_throw (hE s3 F3))
end Mine
end

section
open PySem PySem.W PyProof.Rows PySem.Calls
namespace Mine

theorem relabel_names {sc : Scope} {env : Env} {caps : List (Nat × Nat)} {tgt : Nat} {x : Str} (hk : env.scope.kind = .function) (hnd : (env.scope.names.map (·.1)).Nodup) (h : compOK sc env.scope caps tgt x = true) : (relabel sc env).names = freeToCell sc.names := by
  simp only [compOK, Bool.and_eq_true, List.all_eq_true] at h
  obtain ⟨⟨⟨h1, h2⟩, h3⟩, h4⟩ := h
  unfold relabel freeToCell
  dsimp only
  refine List.map_congr_left fun p hp => ?_
  obtain ⟨i, hi, rfl⟩ := List.mem_iff_getElem.mp hp
  have := h3 i (List.mem_range.mpr hi)
  unfold capOne at this
  rw [List.getElem?_eq_getElem hi] at this
  generalize sc.names[i] = p at this ⊢
  obtain ⟨n, kd⟩ := p
  cases kd with
  | free =>
    dsimp only at this ⊢
    split at this
    · rename_i j _
      have hj : env.scope.names[j]? = some (n, .cell) := by simpa using this
      have : env.kindOf n = some .cell := lookup_nd hnd hj
      rw [this, hk]
      rw [if_pos (by decide)]
    · cases this
  | _ => dsimp only; rw [if_neg (by simp)]

theorem freeToCell_get {ns : List (Str × NameKind)} {i : Nat} {x : Str} {kd : NameKind} (h : (freeToCell ns)[i]? = some (x, kd)) : ∃ k0, ns[i]? = some (x, k0) ∧ (kd = match k0 with | .free => .cell | k => k) := by
  unfold freeToCell at h
  rw [List.getElem?_map] at h
  cases e : ns[i]? with
  | none => rw [e] at h; cases h
  | some p =>
    obtain ⟨n, k0⟩ := p
    rw [e] at h
    simp only [Option.map_some, Option.some.injEq] at h
    cases k0 <;> (simp only [Prod.mk.injEq] at h; obtain ⟨rfl, rfl⟩ := h; exact ⟨_, rfl, rfl⟩)

theorem lookup_mem {α : Type} {l : List (Str × α)} (nd : (l.map (·.1)).Nodup) {y : Str × α} (h : y ∈ l) : l.lookup y.1 = some y.2 := by
  obtain ⟨i, hi, e⟩ := List.mem_iff_getElem.mp h
  exact lookup_nd nd (i := i) (by rw [List.getElem?_eq_getElem hi, e])

section
variable {X : Cx} {k : Nat} {env : Env}

noncomputable abbrev kCo (σ1 : St) (QV : V → St → Prop) : List V → List (Addr × MO) → Prop := fun vs objs => QV (.list vs) { σ1 with objs := objs }
noncomputable abbrev fComp (dt : W Bool) (de : W V) (tgt n : Nat) (caps : List (Nat × Nat)) (xv : V) : W V := fun QV EV σ1 => ∃ items, itemsOf xv = some items ∧ items.length ≤ 16777216 ∧ wCompGo dt de tgt items [] (capLoc n caps σ1.loc) (kCo σ1 QV) EV σ1.objs
set_option maxHeartbeats 1000000 in
theorem te_comp {elt iter : Expr} {x : Str} {px : Pos} {ifs : List Expr} {sc : Scope} {pos : Pos} {di : W V} {dt : W Bool} {de : W V} (caps : List (Nat × Nat)) (tgt : Nat) (hi : TE X k env iter di)
    (hok : compOK sc env.scope caps tgt x = true)
    (ht : ∀ cenv : Env, cenv.scope.names = freeToCell sc.names → TIfs X k cenv ifs dt)
    (he : ∀ cenv : Env, cenv.scope.names = freeToCell sc.names → TE X k cenv elt de)
    (hs : ∀ x, foldedSetIterable iter env x = pure x := by intro _; rfl) :
    TE X k env (.ListComp elt [⟨.Name x px, iter, ifs, 0⟩] sc pos) (wUn di (fComp dt de tgt sc.names.length caps)) :=
  fun c A D σ s QV EV Q E hc P h O OE => by
    subst hc
    have hrl := relabel_names P.ok.kind P.ok.nd hok
    obtain ⟨h1, h2, h3, h4⟩ : scopeOK sc = true ∧ c.env.scope.kind = .function ∧ (∀ i, i < sc.names.length → capOne sc c.env.scope caps i = true) ∧ sc.names[tgt]? = some (x, .local) := by
      simp only [compOK, Bool.and_eq_true, List.all_eq_true, beq_iff_eq, List.mem_range] at hok
      exact ⟨hok.1.1.1, hok.1.1.2, hok.1.2, hok.2⟩
    simp only [scopeOK, Bool.and_eq_true, beq_iff_eq, decide_eq_true_eq] at h1
    obtain ⟨⟨hk, hnd⟩, hdbg⟩ := h1
    have hcap : ∀ i y, sc.names[i]? = some (y, .free) → ∃ j, caps.lookup i = some j ∧ c.env.scope.names[j]? = some (y, .cell) := fun i y e => by
      have := h3 i (List.getElem?_eq_some_iff.mp e).1
      unfold capOne at this
      rw [e] at this
      dsimp only at this
      split at this
      · rename_i j q; exact ⟨j, q, by simpa using this⟩
      · cases this
    have hnocell : ∀ y ∈ sc.names, y.2 ≠ .cell := fun y hy q => by
      obtain ⟨i, hi', rfl⟩ := List.mem_iff_getElem.mp hy
      have := h3 i hi'
      unfold capOne at this
      rw [List.getElem?_eq_getElem hi'] at this
      generalize sc.names[i] = p at this q
      obtain ⟨n, kd⟩ := p
      dsimp only at q; subst q
      cases this
    have hcells : ∀ y ∈ sc.names, y.2 = .free → ∃ ca, c.env.cells.lookup y.1 = some ca := fun y hy q => by
      obtain ⟨i, hi', e⟩ := List.mem_iff_getElem.mp hy
      obtain ⟨j, _, hj⟩ := hcap i y.1 (by rw [List.getElem?_eq_getElem hi', e]; congr 1; exact Prod.ext rfl q)
      obtain ⟨ca, _, _, q1, _⟩ := P.rel.loc.cell j y.1 _ hj (.inl rfl)
      exact ⟨ca, q1⟩
    obtain ⟨cl, hcl, hcl'⟩ := closure_ok hcells
    rw [eval_ListComp]
    refine g_comprehension rfl hs hcl hk (fun y hy q => (lookup_mem hnd hy).trans (congrArg some q))
      (hi c A D σ s _ EV _ E rfl P h (fun xv xvv D1 σ1s s1 R1 l1 hv q => ?_) OE)
    obtain ⟨items, hit, hlen, hw⟩ := q
    refine itOf_ok hv hit A s1 _ E R1.kD P.hh fun I o fp Pi St hI W hfp hfree hst0 hIo hP => ?_
    refine wpAny_newObj_type (wpAny_newFunctionEnv hnocell (by intro y hy; simp at hy) (fun hh1 hns1 hsb1 => ?_) hk)
    dsimp only at hns1 hsb1 ⊢
    generalize hAd : (s1.heap.push o).objs.size = Ad at *
    generalize hC : ((s1.heap.push o).push { cls := .type "list", dict := none, data := .seq ([] : List Value).toArray }).objs.size = C at *
    have hI1 : I = s1.heap.objs.size := hI
    have hA1 : Ad = s1.heap.objs.size + 1 := by rw [← hAd, Heap.size_push]
    have hC1 : C = s1.heap.objs.size + 2 := by rw [← hC, Heap.size_push, hAd, hA1]
    have hIn : s1.heap.get? I = none := none_at (by (first | lia | omega))
    have hAn : s1.heap.get? Ad = none := none_at (by (first | lia | omega))
    have hCn : s1.heap.get? C = none := none_at (by (first | lia | omega))
    have hIA : I ≠ Ad := by (first | lia | omega)
    have hIC : I ≠ C := by (first | lia | omega)
    have hAC : Ad ≠ C := by (first | lia | omega)
    have keep1 : ∀ a o', s1.heap.get? a = some o' → hh1.get? a = some o' := fun a o' e => by
      have hlt := Heap.lt_size e
      rw [hsb1.2 a (Nat.ne_of_lt (by rw [hC1]; exact Nat.lt_of_lt_of_le hlt (Nat.le_add_right _ _)))]
      exact Heap.get?_push_of_some _ (Heap.get?_push_of_some _ (Heap.get?_push_of_some _ e))
    have hAd1 : hh1.get? Ad = some { cls := .type "list", dict := none, data := .seq ([] : List Value).toArray } := by
      rw [hsb1.2 Ad hAC, ← hAd]; exact Heap.get?_push_of_some _ (Heap.get?_push_size _ rfl)
    have keepI : ∀ o', (s1.heap.push o).get? I = some o' → hh1.get? I = some o' := fun o' e => by
      rw [hsb1.2 I hIC]; exact Heap.get?_push_of_some _ (Heap.get?_push_of_some _ e)
    have P1 : Pre X k c A D1 σ1s s1 := P.to R1
    have ho : σ1s.objs = [] ++ (σ1s.objs ++ []) := by simp
    have CP := Rel.cpre P1 ho
    let cenv : Env := { scope := relabel sc c.env, locals := C, globals := c.env.globals, cells := cl, qual := c.env.qual, func := none, code := c.env.code, frame := c.env.frame, builtins := c.env.builtins }
    let c' : FC := { env := cenv, stack := c.stack, own := [], hid := [], B := fun a => if a ∈ feet σ1s.objs then none else s1.heap.get? a, D₀ := D1, base := s1 }
    have hex : ∀ b ∈ feet σ1s.objs, ∃ o, s1.heap.get? b = some o := fun b hb => R1.feet_ex b (List.mem_cons_of_mem _ (List.mem_append_right _ (List.mem_append_right _ hb)))
    have hB' : ∀ a, c'.B a = if a ∈ feet σ1s.objs then none else s1.heap.get? a := fun a => rfl
    have fresh0 : ∀ a, s1.heap.get? a = none → c'.B a = none ∧ D1 a = none ∧ a ∉ feet σ1s.objs ∧ a ∉ frames c.stack := fun a e => by
      refine ⟨by rw [hB']; split; rfl; exact e, ?_, fun hm => ?_, fun hm => ?_⟩
      · cases q : D1 a with
        | none => rfl
        | some o' => have := R1.kD a o' q; rw [e] at this; cases this
      · obtain ⟨o', q⟩ := hex a hm; rw [e] at q; cases q
      · obtain ⟨o', q⟩ := R1.stk.mem a hm; rw [e] at q; cases q
    have hstk : ∀ a ∈ frames c.stack, a ∉ feet σ1s.objs := fun a ha hm => CP.disF a hm ha
    have ok' : EnvOK cenv := ⟨hk, P.ok.glob, P.ok.bltn, by
      show ((relabel sc c.env).names.map (·.1)).Nodup
      rw [hrl]
      have : (freeToCell sc.names).map (·.1) = sc.names.map (·.1) := by
        unfold freeToCell
        rw [List.map_map]
        refine List.map_congr_left fun p _ => ?_
        obtain ⟨n, kd⟩ := p
        cases kd <;> rfl
      rw [this]; exact hnd, fun y hy => by
      have hy' : y ∈ (relabel sc c.env).names.map (·.1) := hy
      rw [hrl] at hy'
      have : (freeToCell sc.names).map (·.1) = sc.names.map (·.1) := by
        unfold freeToCell
        rw [List.map_map]
        refine List.map_congr_left fun p _ => ?_
        obtain ⟨n, kd⟩ := p
        cases kd <;> rfl
      rw [this] at hy'
      obtain ⟨p, hp, rfl⟩ := List.mem_map.mp hy'
      have := List.all_eq_true.mp hdbg p hp
      simp only [Bool.and_eq_true, Bool.not_eq_true'] at this
      exact this, P.ok.frame, fun y z ca q1 q2 => by
      have q1' : cl.lookup y = some ca := q1
      have q2' : cl.lookup z = some ca := q2
      rw [hcl'] at q1' q2'
      split at q1'
      · split at q2'
        · exact P.ok.cinj y z ca q1' q2'
        · cases q2'
      · cases q1'⟩
    have Rc : Rel X.g0 c' D1 ⟨capLoc sc.names.length caps σ1s.loc, σ1s.objs⟩ { s1 with heap := hh1, toks := s1.toks + ([] : List (Str × Value)).length } := by
      refine ⟨⟨hh1, _, rfl⟩, fun a o' e => keep1 a o' (R1.kD a o' e), R1.gD, DM.le_refl _, fun a o' e => .inl e, fun a o' e => ⟨o', keep1 a o' e⟩, fun a o' e => ?_, R1.stk.keeps fun a o' e => ⟨o', keep1 a o' e, rfl⟩, ⟨⟨_, hns1, fun i y v e1 e2 => ?_⟩, fun i y kd e1 e2 => ?_, (fun _ h => by cases h)⟩, fun p hp => ?_, (fun _ h => by cases h), fun a ha => ?_, fun a ha => ?_, R1.disS, fun a ha => ?_, ?_⟩
      · rw [hB'] at e
        split at e
        · cases e
        · exact ⟨⟨o'.slots, keep1 a o' e⟩, fun _ => keep1 a o' e⟩
      · have e1' : (relabel sc c.env).names[i]? = some (y, .local) := e1
        rw [hrl] at e1'
        obtain ⟨k0, q1, q2⟩ := freeToCell_get e1'
        obtain ⟨j, q3, _⟩ := capLoc_get e2
        have := h3 i (List.getElem?_eq_some_iff.mp q1).1
        unfold capOne at this
        rw [q1] at this
        cases k0 with
        | «local» => dsimp only at this; rw [q3] at this; cases this
        | _ => cases q2
      · have e1' : (relabel sc c.env).names[i]? = some (y, kd) := e1
        rw [hrl] at e1'
        obtain ⟨k0, q1, q2⟩ := freeToCell_get e1'
        have hfr : k0 = .free := by
          cases k0 with
          | free => rfl
          | cell => exact absurd rfl (hnocell _ (List.mem_of_getElem? q1))
          | _ => dsimp only at q2; subst q2; rcases e2 with e | e <;> cases e
        subst hfr
        obtain ⟨j, q3, q4⟩ := hcap i y q1
        obtain ⟨ca, oc, w, a1, a2, a3, a4, a5⟩ := R1.loc.cell j y _ q4 (.inl rfl)
        have hmem : (sc.names.any fun x => x.1 == y && x.2 == .free) = true := List.any_eq_true.mpr ⟨_, List.mem_of_getElem? q1, by simp⟩
        have hnf : ca ∉ feet σ1s.objs := fun hm => by
          rcases a4 with q | q
          · have nd := R1.nd
            obtain ⟨_, n2⟩ := List.nodup_cons.mp nd
            obtain ⟨_, _, n3⟩ := List.nodup_append.mp n2
            exact n3 ca q ca (List.mem_append_right _ hm) rfl
          · rw [R1.disB ca (List.mem_cons_of_mem _ (List.mem_append_right _ (List.mem_append_right _ hm)))] at q; cases q
        refine ⟨ca, oc, w, (hcl' y).trans (by rw [if_pos hmem]; exact a1), keep1 ca oc a2, a3, .inr (by rw [hB', if_neg hnf, a2]; rfl), fun v hv' => ?_⟩
        obtain ⟨j', z1, z2⟩ := capLoc_get hv'
        rw [q3] at z1; cases z1
        exact a5 v z2
      · exact (R1.obj p hp).keeps (DM.le_refl _) fun b _ o' e => keep1 b o' e
      · rcases List.mem_cons.mp ha with rfl | ha
        · exact (fresh0 _ hCn).1
        · have : a ∈ feet σ1s.objs := ha
          rw [hB', if_pos this]
      · rcases List.mem_cons.mp ha with rfl | ha
        · exact (fresh0 _ hCn).2.1
        · exact CP.disD a ha
      · refine .inr ?_
        rw [hB', if_neg (hstk a ha)]
        obtain ⟨o', q⟩ := R1.stk.mem a ha; rw [q]; rfl
      · exact List.nodup_cons.mpr ⟨(fresh0 _ hCn).2.2.1, CP.nd⟩
    have apart0 : ∀ a, s1.heap.get? a = none → a ≠ C → Apart c' D1 ⟨capLoc sc.names.length caps σ1s.loc, σ1s.objs⟩ a := fun a e n => by
      obtain ⟨f1, f2, f3, f4⟩ := fresh0 a e
      exact ⟨f1, f2, fun hm => by rcases List.mem_cons.mp hm with q | q; exact n q; exact f3 q, f4, e⟩
    have PC : Pre X k c' A D1 ⟨capLoc sc.names.length caps σ1s.loc, σ1s.objs⟩ { s1 with heap := hh1, toks := s1.toks + ([] : List (Str × Value)).length } :=
      ⟨P.G, ok', (fun q => by cases q), P.room, P.hh, P.top, P.fr, Rc⟩
    have hst1 : St 0 hh1 := by
      obtain ⟨oI, hoI⟩ := hIo _ _ hst0
      exact W.frame _ _ _ hst0 (fp_frame hfp (DM.le_refl D1) (fun a o e => Heap.get?_push_of_some _ (R1.kD a o e)) (fun a o e => keep1 a o (R1.kD a o e)) hoI (keepI _ hoI))
    have errE : ∀ e s', EV → FlightIn c' e s' → notedBy (model P0 X.w) A cenv (fun e s' => compPostG (model P0 X.w) A E Q (.ref Ad) C (.error e) s') e s' := fun e s' ev F => by
      unfold notedBy
      refine fi_noted (c := c') P.fr P.top F fun s'' F' hT => ?_
      show ∃ m, s''.heap.Ns C m ∧ ∀ h', Heap.SameBut C s''.heap h' → ∀ cenv : Env, cenv.locals = C → wpAny _ A (PySem.passOn "comprehension.variables-let-go" e cenv : Sem Value) (fun _ _ => False) E { s'' with heap := h' }
      obtain ⟨ea, a0, b, h', t, z1, z2, z3, z4, z5, z6, z7, ⟨mz, z8⟩, z9⟩ := id F'
      refine ⟨mz, by rw [z2]; exact z8, fun h2 hsb2 cenv2 _ => ?_⟩
      obtain ⟨F2, hT2⟩ := fi_exit (c := c) (c' := c') R1 rfl rfl rfl hCn F' hT hsb2
      exact fi_passOn F2 hT2 fun s3 F3 => OE ev _ _ F3
    have names' : cenv.scope.names = freeToCell sc.names := hrl
    have htgt : cenv.scope.names[tgt]? = some (x, .local) := by
      rw [names', freeToCell, List.getElem?_map, h4]; rfl
    suffices H : ∀ s4 : Shared, s4 = { s1 with heap := hh1, toks := s1.toks + ([] : List (Str × Value)).length } → codeG X.b (model P0 X.w) A (.compLoop (.ListComp elt [⟨.Name x px, iter, ifs, 0⟩] sc pos) 0 (.ref I) (.ref Ad) cenv) (compPostG (model P0 X.w) A E Q (.ref Ad) C) s4 from
      cg_compStart (H _ rfl) (W.self 0 _ _ _ hst1 (H _ rfl))
    rintro s4 rfl
    refine cg_compLoop (fun n s' => ∃ i D' loc objs vs vals, n = items.length - i ∧ i ≤ items.length ∧ Rel X.g0 c' D' ⟨loc, objs⟩ s' ∧ D1.le D' ∧ Apart c' D' ⟨loc, objs⟩ I ∧ Apart c' D' ⟨loc, objs⟩ Ad ∧ St i s'.heap ∧
        s'.heap.PlainList Ad (List.toArray vals) ∧ VRs D' vs vals ∧ vals.length ≤ i ∧ wCompGo dt de tgt (items.drop i) vs loc (fun vs objs => QV (.list vs) { σ1s with objs := objs }) EV objs) ?_ items.length
      ⟨0, D1, _, _, [], [], rfl, Nat.zero_le _, Rc, DM.le_refl _, apart0 I hIn hIC, apart0 Ad hAn hAC, hst1, ⟨_, hAd1⟩, .nil, Nat.le_refl _, hw⟩ (fun _ => rfl)
    rintro n s' ⟨i, D', loc, objs, vs, vals, rfl, hile, R', le', apI, apA, hst', hpl, hvs, hvl, hw'⟩
    by_cases hlt : i < items.length
    · refine W.item i s' _ _ hlt hst' fun v h' tk hPv hst1 hk => ?_
      have hk' : ∀ a o, a ≠ I → s'.heap.get? a = some o → h'.get? a = some o := fun a o' ha e => hk a o' (by simpa using ha) e
      have R2 := R'.but apI.B apI.D apI.f apI.s apI.b (t := tk) hk'
      obtain ⟨oI, hoI⟩ := hIo _ _ hst1
      have R3 := R2.hide hoI apI.B apI.D apI.f apI.s
      obtain ⟨nl, hol⟩ := hpl
      have R4 := R3.hide (I := Ad) (hk' _ _ hIA.symm hol) apA.B apA.D (fun hm => by rcases (foot_hide c' I oI objs Ad).mp hm with q | q; exact hIA q.symm; exact apA.f q) apA.s
      obtain ⟨xi, hxi, hvi⟩ := hP i v hPv
      have hdrop : items.drop i = xi :: items.drop (i + 1) := by
        rw [List.drop_eq_getElem_cons hlt]
        rw [List.getElem?_eq_getElem hlt] at hxi; cases hxi; rfl
      rw [hdrop] at hw'
      generalize hc'' : (c'.hide I oI).hide Ad { cls := .type "list", data := .seq vals.toArray nl } = c'' at R4
      have henv : c''.env = cenv := by rw [← hc'']; rfl
      have hE : OutE c'' EV (notedBy (model P0 X.w) A cenv (fun e s' => compPostG (model P0 X.w) A E Q (.ref Ad) C (.error e) s')) := fun ev e s' F => errE e s' ev (by rw [← hc''] at F; exact F.unhide.unhide)
      have P4 : Pre X k c'' A D' ⟨loc, objs⟩ { s' with heap := h', toks := tk } := by rw [← hc''] at R4 ⊢; exact ((PC.to R2).hide R3).hide R4
      have back : ∀ {D5 σ5 s5}, Rel X.g0 c'' D5 σ5 s5 → D'.le D5 → ∃ R6 : Rel X.g0 c' D5 σ5 s5, Apart c' D5 σ5 I ∧ Apart c' D5 σ5 Ad ∧ St (i + 1) s5.heap ∧ s5.heap.get? Ad = some { cls := .type "list", data := .seq vals.toArray nl } := fun {D5 σ5 s5} R5 l5 => by
        rw [← hc''] at R5
        obtain ⟨R5a, e1, e2, e3, e4⟩ := R5.unhide
        obtain ⟨R6, e5, e6, e7, e8⟩ := R5a.unhide
        refine ⟨R6, ⟨e6, e7, e8, apI.s, apI.b⟩, ⟨e2, e3, fun hm => e4 ((foot_hide c' I oI σ5.objs Ad).mpr (.inr hm)), apA.s, apA.b⟩, ?_, e1⟩
        exact W.frame _ _ _ hst1 (fp_frame hfp (DM.le_trans le' l5) (fun a o e => R2.kD a o (le' a o e)) R6.kD hoI e5)
      refine wpAny_assign_Name (st_loc tgt htgt c'' A D' ⟨loc, objs⟩ _ xi v (fun _ σ2 => dt (fun b σ1 => if b then de (fun y σ2 => wCompGo dt de tgt (items.drop (i + 1)) (vs ++ [y]) σ2.loc (fun vs objs => QV (.list vs) { σ1s with objs := objs }) EV σ2.objs) EV σ1 else wCompGo dt de tgt (items.drop (i + 1)) vs σ1.loc (fun vs objs => QV (.list vs) { σ1s with objs := objs }) EV σ1.objs) EV σ2) EV _ _ henv P4 (hvi.mono le') hw' (fun D5 σ5 s5 R5 l5 q5 => ?_) hE)
      refine ht cenv names' c'' A D5 σ5 s5 _ EV _ _ henv (P4.to R5) q5 (fun b D6 σ6 s6 R6 l6 q6 => ?_) hE
      cases b with
      | false =>
        rw [if_neg (by decide)] at q6 ⊢
        obtain ⟨R7, z1, z2, z3, z4⟩ := back R6 (DM.le_trans l5 l6)
        exact ⟨items.length - (i + 1), by (first | lia | omega), i + 1, D6, σ6.loc, σ6.objs, vs, vals, rfl, hlt, R7, DM.le_trans le' (DM.le_trans l5 l6), z1, z2, z3, ⟨nl, z4⟩, hvs.mono (DM.le_trans l5 l6), by (first | lia | omega), q6⟩
      | true =>
        rw [if_pos rfl] at q6 ⊢
        refine he cenv names' c'' A D6 σ6 s6 _ EV _ _ henv (P4.to R6) q6 (fun y yv D7 σ7 s7 R7 l7 hy q7 => ?_) hE
        obtain ⟨R8, z1, z2, z3, z4⟩ := back R7 (DM.le_trans l5 (DM.le_trans l6 l7))
        have le7 : D'.le D7 := DM.le_trans l5 (DM.le_trans l6 l7)
        refine wpAny_list_append_plain (items := vals.toArray) ⟨nl, z4⟩ (fun h8 hpl8 hsb8 => ?_) (by
          have : vals.length ≤ 16777216 := by (first | lia | omega)
          simpa [sizeLine] using this)
        have hk8 : ∀ a o, a ≠ Ad → s7.heap.get? a = some o → h8.get? a = some o := fun a o ha e => (hsb8.2 a ha).trans e
        have R9 := R8.but z2.B z2.D z2.f z2.s z2.b (t := s7.toks) hk8
        obtain ⟨oI7, hoI7⟩ := hIo _ _ z3
        have st9 : St (i + 1) h8 := W.frame _ _ _ z3 (fp_frame hfp (DM.le_trans le' le7) (fun a o e => R8.kD a o (DM.le_trans le' le7 a o e)) R9.kD hoI7 (hk8 _ _ hIA hoI7))
        refine ⟨items.length - (i + 1), by (first | lia | omega), i + 1, D7, σ7.loc, σ7.objs, vs ++ [y], vals ++ [yv], rfl, hlt, R9, DM.le_trans le' le7, z1, z2, st9, ?_, (hvs.mono le7).append (.cons hy .nil), by simp; (first | lia | omega), q7⟩
        have : vals.toArray.push yv = (vals ++ [yv]).toArray := by simp
        rw [← this]; exact hpl8
    · have hin : i = items.length := by (first | lia | omega)
      subst hin
      refine W.done s' _ _ hst' fun h' tk hk => ?_
      have hk' : ∀ a o, a ≠ I → s'.heap.get? a = some o → h'.get? a = some o := fun a o' ha e => hk a o' (by simpa using ha) e
      have R2 := R'.but apI.B apI.D apI.f apI.s apI.b (t := tk) hk'
      rw [List.drop_length] at hw'
      obtain ⟨nl, hol⟩ := hpl
      show ∃ m, Heap.Ns h' C m ∧ ∀ h2, Heap.SameBut C h' h2 → Q (.ref Ad) { s' with heap := h2, toks := tk }
      obtain ⟨mC, hmC, _⟩ := R2.loc.ns
      refine ⟨mC, hmC, fun h2 hsb2 => ?_⟩
      obtain ⟨hb, tb, eb⟩ := R2.same
      have es' : ({ s' with heap := h2, toks := tk } : Shared) = { s1 with heap := h2, toks := tk } := by
        have := congrArg (fun z : Shared => ({ z with heap := h2, toks := tk } : Shared)) eb
        exact this
      rw [es']
      have hAl : h2.get? Ad = some { cls := .type "list", data := .seq vals.toArray nl } := (hsb2.2 Ad hAC).trans (hk' _ _ hIA.symm hol)
      have le2 : D'.le (D'.put Ad { cls := .type "list", data := .seq vals.toArray nl }) := DM.put_le (.inl apA.D)
      have neC : ∀ a, s1.heap.get? a ≠ none → a ≠ C := fun a e q => e (q ▸ hCn)
      have CPo : CPost X c.stack D1 σ1s.objs s1 (.list vs) (.ref Ad) (D'.put Ad { cls := .type "list", data := .seq vals.toArray nl }) objs h2 := by
        have inF : ∀ a ∈ feet objs, a ∈ foot c' objs := fun a ha => List.mem_cons_of_mem _ ha
        have fC : ∀ a ∈ feet objs, a ≠ C := fun a ha q => by
          have nd := R2.nd
          exact (List.nodup_cons.mp nd).1 (by subst q; exact ha)
        refine ⟨DM.le_trans le' le2, fun a o' e => ?_, fun a o' e => ?_, fun a o' e n => ?_, fun a ha => ?_, fun p hp => ?_, ?_, fun a ha => ?_, fun a ha => ?_, .list (DM.put_same _ _ _) (hvs.mono le2)⟩
        · unfold DM.put at e
          split at e
          · rename_i q; subst q; exact .inr hAn
          · exact R2.dn a o' e
        · unfold DM.put at e
          split at e
          · rename_i q; subst q; cases e; exact hAl
          · rw [hsb2.2 a fun q => by have := R2.disD C List.mem_cons_self; rw [← q, e] at this; cases this]
            exact R2.kD a o' e
        · have hBa : c'.B a = some o' := by rw [hB', if_neg n]; exact e
          obtain ⟨⟨sl, q1⟩, q2⟩ := R2.kB a o' hBa
          have := neC a (by rw [e]; simp)
          exact ⟨⟨sl, (hsb2.2 a this).trans q1⟩, fun nf => (hsb2.2 a this).trans (q2 nf)⟩
        · obtain ⟨o', q⟩ := hex a ha
          obtain ⟨o2, q2⟩ := R2.ex a o' q
          exact ⟨o2, (hsb2.2 a (neC a (by rw [q]; simp))).trans q2⟩
        · refine (R2.obj p hp).keeps le2 fun b hb' o' e => ?_
          exact (hsb2.2 b (fC b (List.mem_flatMap.mpr ⟨p, hp, hb'⟩))).trans e
        · exact (List.nodup_cons.mp R2.nd).2
        · unfold DM.put
          rw [if_neg (show ¬ a = Ad from fun q => apA.f (q ▸ inF a ha))]
          exact R2.disD a (inF a ha)
        · have := R2.disB a (inF a ha)
          rw [hB'] at this
          split at this
          · rename_i q; exact .inl q
          · exact .inr this
      have Rf := Rel.after (t' := tk) P1 ho CPo
      simp only [List.nil_append, List.append_nil] at Rf
      exact O (.list vs) (.ref Ad) _ _ _ Rf (DM.le_trans l1 CPo.le) CPo.val hw'
end
end Mine
end

section
open PySem PySem.W PyProof.Rows PySem.Calls
namespace Mine

/-! ## objects: one turns, one is new, one is frozen -/

theorem Rel.turn {X : Cx} {k : Nat} {c : FC} {A : Around} {D : DM} {σ : St} {s : Shared} (P : Pre X k c A D σ s) {pre post : List (Addr × MO)} {a : Addr} {mo mo' : MO} (ho : σ.objs = pre ++ (a, mo) :: post)
    (hf : footO (a, mo') = footO (a, mo)) {h' : Heap} {t' : Nat} (hm : MOR D h' a mo') (kp : ∀ b o, b ∉ footO (a, mo) → s.heap.get? b = some o → h'.get? b = some o) :
    Rel X.g0 c D { σ with objs := pre ++ (a, mo') :: post } { s with heap := h', toks := t' } := by
  have ho' : σ.objs = pre ++ ([(a, mo)] ++ post) := ho
  have CP := Rel.cpre P ho'
  have f1 : feet [(a, mo)] = footO (a, mo) := by simp [feet]
  have f2 : feet [(a, mo')] = footO (a, mo) := by simp [feet, hf]
  have C : CPost X c.stack D [(a, mo)] s .none .none D [(a, mo')] h' := by
    refine ⟨DM.le_refl D, fun b o e => .inl e, fun b o e => kp b o (fun hb => ?_) (CP.kD b o e), fun b o e n => ?_, fun b hb => ?_, fun p hp => ?_, ?_, fun b hb => ?_, fun b hb => ?_, .none⟩
    · rw [CP.disD b (f1 ▸ hb)] at e; cases e
    · have := kp b o (f1 ▸ n) e; exact ⟨⟨o.slots, this⟩, fun _ => this⟩
    · exact hm.ex b (by rw [hf]; exact f1 ▸ hb)
    · rw [List.mem_singleton.mp hp]; exact hm
    · rw [f2, ← f1]; exact CP.nd
    · exact CP.disD b (by rw [f1]; exact f2 ▸ hb)
    · exact .inl (by rw [f1]; exact f2 ▸ hb)
  exact Rel.after P ho' C

theorem Rel.new {X : Cx} {k : Nat} {c : FC} {A : Around} {D : DM} {σ : St} {s : Shared} (P : Pre X k c A D σ s) {a : Addr} {mo : MO} {h' : Heap} {t' : Nat} (hm : MOR D h' a mo) (hn : ∀ b ∈ footO (a, mo), s.heap.get? b = none) (hnd : (footO (a, mo)).Nodup)
    (kp : ∀ b o, s.heap.get? b = some o → h'.get? b = some o) : Rel X.g0 c D { σ with objs := (a, mo) :: σ.objs } { s with heap := h', toks := t' } := by
  have ho' : σ.objs = [] ++ ([] ++ σ.objs) := rfl
  have f2 : feet [(a, mo)] = footO (a, mo) := by simp [feet]
  have C : CPost X c.stack D [] s .none .none D [(a, mo)] h' := by
    refine ⟨DM.le_refl D, fun b o e => .inl e, fun b o e => kp b o (P.rel.kD b o e), fun b o e n => ⟨⟨o.slots, kp b o e⟩, fun _ => kp b o e⟩, (fun _ h => by cases h), fun p hp => ?_, f2 ▸ hnd, fun b hb => ?_, fun b hb => .inr (hn b (f2 ▸ hb)), .none⟩
    · rw [List.mem_singleton.mp hp]; exact hm
    · cases q : D b with
      | none => rfl
      | some o => have := P.rel.kD b o q; rw [hn b (f2 ▸ hb)] at this; cases this
  exact Rel.after P ho' C

/-- a new frozen object -/
theorem Rel.newD {X : Cx} {k : Nat} {c : FC} {A : Around} {D : DM} {σ : St} {s : Shared} (P : Pre X k c A D σ s) {a : Addr} {o : Obj} {h' : Heap} {t' : Nat} (ha : h'.get? a = some o) (hn : s.heap.get? a = none)
    (kp : ∀ b o, s.heap.get? b = some o → h'.get? b = some o) : Rel X.g0 c (D.put a o) σ { s with heap := h', toks := t' } ∧ D.le (D.put a o) := by
  obtain ⟨f1, f2, f3, f4, _⟩ := P.rel.fresh hn
  exact ⟨(P.rel.keep (t' := t') kp).lay ha f1 f2 f3 f4, DM.put_le (.inl f2)⟩

/-! ## calls of builtins, by values -/
noncomputable def TF (X : Cx) (k : Nat) (f : Value) (g : List V → W V) : Prop :=
  CWok X f ∧ ∀ c A D σ s vs vals QV EV Q E, Pre X k c A D σ s → VRs D vs vals → g vs QV EV σ → Out X c D QV Q → OutE c EV E → wpG X.b (model P0 X.w) A (call f vals) Q E s

section
variable {X : Cx} {k : Nat} {env : Env}

theorem te_callb {fe : Expr} {args : List Expr} {pos : Pos} {f : Value} {da : W (List V)} {g : List V → W V} (hf : TE X k env fe (wVal (.raw f))) (ha : TA X k env args da) (hg : TF X k f g)
    (hs : eval (.Call fe args [] pos) env = (do callWith pos (← eval fe env) [] (backTo pos (starEach args env)) (backToKw pos (keywordEach [] env))) := by rfl) :
    TE X k env (.Call fe args [] pos) (wArg da g) :=
  fun c A D σ s QV EV Q E hc P h O OE => by
    rw [hs]
    refine g_bind (hf c A D σ s (fun vf σ1 => vf = .raw f ∧ da (fun vs σ2 => g vs QV EV σ2) EV σ1) EV _ E hc P ⟨rfl, h⟩ (fun vf vv D1 σ1 s1 R1 l1 hvf q => ?_) OE)
    obtain ⟨rfl, q⟩ := q
    cases hvf
    refine hg.1 (ha.1 pos) (g_evalArgs (ha.2 pos c A D1 σ1 s1 _ EV _ E hc (P.to R1) q (fun vs vvs D2 σ2 s2 R2 l2 hvs q2 => ⟨kIn (P.to R2), ?_⟩) OE) (ha.1 pos))
    exact hg.2 c A D2 σ2 s2 vs vvs QV EV Q E (P.to R2) hvs q2 (O.le (DM.le_trans l1 l2)) OE

/-- a method of a builtin type: which receivers it takes -/
noncomputable def TM (X : Cx) (k : Nat) (name : Str) (id : String) (C : V → St → Prop) : Prop :=
  ∀ c A D σ s v vv (Q : Value × List Value → Shared → Prop) (E : Value → Shared → Prop) (pl : Sem Bool), Pre X k c A D σ s → VR D v vv → C v σ → Q (.builtin id, [vv]) s → wpAny (model P0 X.w) A (getMethod vv name pl) Q E s

theorem te_methb {o : Expr} {name : Str} {apos pos : Pos} {args : List Expr} {do_ : W V} {da : W (List V)} {id : String} {C : V → St → Prop} {g : List V → W V} {pl : Sem Bool} (ho : TE X k env o do_) (hm : TM X k name id C) (ha : TA X k env args da) (hg : TF X k (.builtin id) g)
    (he : eval (.Call (.Attribute o name apos) args [] pos) env = (do
      let ov ← eval o env
      standAt apos.atName
      let (f, first) ← holding [ov] (getMethod ov name pl)
      callWith pos f first (backTo pos (starEach args env)) (backToKw pos (keywordEach [] env))) := by rfl) :
    TE X k env (.Call (.Attribute o name apos) args [] pos) (wMeth do_ C da g) :=
  fun c A D σ s QV EV Q E hc P h O OE => by
    refine g_method (name := name) (pl := pl) (ho c A D σ s _ EV _ E hc P h (fun ov vv D1 σ1 s1 R1 l1 hv q => ?_) OE) he
    obtain ⟨q1, q2⟩ := q
    refine hm c A D1 σ1 s1 ov vv _ E pl (P.to R1) hv q1 ?_
    refine hg.1 (ha.1 pos) (g_evalArgs (ha.2 pos c A D1 σ1 s1 _ EV _ E hc (P.to R1) q2 (fun vs vvs D2 σ2 s2 R2 l2 hvs q3 => ⟨kIn (P.to R2), ?_⟩) OE) (ha.1 pos))
    exact hg.2 c A D2 σ2 s2 (ov :: vs) (vv :: vvs) QV EV Q E (P.to R2) (.cons (hv.mono l2) hvs) q3 (O.le (DM.le_trans l1 l2)) OE

/-! ## instances of the text's own classes -/
noncomputable def AttrOK (C : Addr) (name : Str) : Prop := ∀ P : Params, plainGet (hd.heap_39 P) C name = true ∧ hasDictIn (hd.heap_39 P) C = true ∧ findIn (hd.heap_39 P) (.ref C) name = some none

theorem beq_sw (x y : Str) : (x == y) = (y == x) := by
  by_cases h : x = y
  · subst h; rfl
  · rw [beq_eq_false_iff_ne.mpr h, beq_eq_false_iff_ne.mpr (Ne.symm h)]

theorem entOf_get {D : DM} {name : Str} {v : V} : ∀ {fs : List (Str × V)} {es : List DictEntry}, entOf fs es D → fs.lookup name = some v → ∃ vv, getL name es = some (some vv) ∧ VR D v vv
  | [], [], _, h => by cases h
  | (x, u) :: r, e :: es, ⟨⟨t, h1⟩, h2, h3⟩, h => by
    rw [List.lookup_cons] at h
    unfold getL
    rw [List.find?_cons]
    have hk : e.key.isStr name = (name == x) := by rw [h1]; exact beq_sw x name
    rw [hk]
    cases q : name == x with
    | true => rw [q] at h; cases h; exact ⟨_, rfl, h2⟩
    | false =>
      rw [q] at h
      obtain ⟨vv, g1, g2⟩ := entOf_get h3 h
      refine ⟨vv, ?_, g2⟩
      unfold getL at g1
      have hr : e.refKey = false := by unfold DictEntry.refKey; rw [h1]
      simp only [List.any_cons, hr, Bool.false_or]
      exact g1
  | [], _ :: _, h, _ => h.elim
  | _ :: _, [], h, _ => h.elim

noncomputable def plainV : V → Prop
  | .raw (.ref _) => True
  | .raw _ => False
  | _ => True
theorem plainV_ok {D : DM} {v : V} {vv : Value} (h : VR D v vv) (p : plainV v) : handedIn vv = true := by
  cases h with
  | raw => cases vv <;> first | rfl | exact p.elim
  | _ => rfl

noncomputable abbrev fAttr (C : Addr) (name : Str) (ov : V) : W V := fun QV _ σ => ∃ a d fs v, ov = .raw (.ref a) ∧ (a, .inst C d fs) ∈ σ.objs ∧ fs.lookup name = some v ∧ plainV v ∧ QV v σ
theorem te_attr (C : Addr) {o : Expr} {name : Str} {pos : Pos} {do_ : W V} (ho : TE X k env o do_) (hA : AttrOK C name) (hb : attributeBase o name env (eval o env) = eval o env := by rfl) :
    TE X k env (.Attribute o name pos) (wUn do_ (fAttr C name)) :=
  fun c A D σ s QV EV Q E hc P h O OE => by
    rw [arm_eval_Attribute, hb]
    refine g_bind (ho c A D σ s _ EV _ E hc P h (fun ov vv D1 σ1 s1 R1 l1 hv q => g_of ?_) OE)
    obtain ⟨a, d, fs, v, rfl, hm, hl, hp, hq⟩ := q
    cases hv
    refine wpAny_bind (wpAny_standAt (wpAny_bind (wpAny_holding ?_)))
    obtain ⟨e1, es, n, e2, e3⟩ := R1.obj _ hm
    obtain ⟨vv, g1, g2⟩ := entOf_get e3 hl
    obtain ⟨p1, p2, p3⟩ := hA X.w.params
    refine get_value (kIn (P.to R1)) (⟨e1, rfl, rfl, e2⟩ : InstAt s1.heap a (instObj C d) C (some (dictOf es n))) (plainGet_of p1).1 (findObj_own p2 p3 rfl g1) (plainV_ok g2 hp) ?_
    exact wpAny_bind (wpAny_letTemporaryGo (wpAny_pure (O v vv D1 σ1 _ (R1.toks _) l1 g2 hq)))

noncomputable abbrev fText (ov : V) : W V := fun QV _ σ => ∃ l, ov = .atom l ∧ QV (.str l) σ
theorem te_atext {o : Expr} {pos : Pos} {do_ : W V} (ho : TE X k env o do_) (hA : AttrOK 124 (Str.ofString "text")) (hb : attributeBase o (Str.ofString "text") env (eval o env) = eval o env := by rfl) :
    TE X k env (.Attribute o (Str.ofString "text") pos) (wUn do_ fText) :=
  fun c A D σ s QV EV Q E hc P h O OE => by
    rw [arm_eval_Attribute, hb]
    refine g_bind (ho c A D σ s _ EV _ E hc P h (fun ov vv D1 σ1 s1 R1 l1 hv q => g_of ?_) OE)
    obtain ⟨l, rfl, hq⟩ := q
    cases hv
    rename_i a d t t' n hash h1 h2
    refine wpAny_bind (wpAny_standAt (wpAny_bind (wpAny_holding ?_)))
    obtain ⟨p1, p2, p3⟩ := hA X.w.params
    refine get_value (kIn (P.to R1)) (⟨R1.kD _ _ h1, rfl, rfl, R1.kD _ _ h2⟩ : InstAt s1.heap a (instObj 124 d) 124 (some (dictOf _ n))) (plainGet_of p1).1 (findObj_own p2 p3 rfl (v := .str (strD l) t) ?_) rfl ?_
    · rw [lookIn_dict]; unfold getL; rw [List.find?_cons]; simp [Value.isStr]
    exact wpAny_bind (wpAny_letTemporaryGo (wpAny_pure (O (.str l) _ D1 σ1 _ (R1.toks _) l1 (.str _ _) hq)))

/-! ## statements -/
theorem ts_expr {e : Expr} {pos : Pos} {d : W V} (h : TE X k env e d) (hi : interactive env = false := by rfl) (hs : swapsWith e none pos.line env = pure false := by rfl) :
    TS1 X k env (.Expr e pos) (wExp d) :=
  fun c A D σ s QV EV Q E hc P q O OE => g_Expr (h c A D σ s _ EV _ E hc P q (fun v vv D1 σ1 s1 R1 l1 hv h1 => O .next .next D1 σ1 s1 R1 l1 rfl h1) OE) hi hs
end
end Mine
end

section
open PySem PySem.W PyProof.Rows PySem.Calls
namespace Mine

noncomputable def putF (name : Str) (v : V) : List (Str × V) → List (Str × V)
  | [] => [(name, v)]
  | (x, u) :: r => if x == name then (x, v) :: r else (x, u) :: putF name v r

theorem entOf_put {D : DM} {name : Str} {v : V} {vv : Value} {hsh : Int} {tk : Tok} (hv : VR D v vv) : ∀ {fs : List (Str × V)} {es : List DictEntry}, entOf fs es D → entOf (putF name v fs) (putL name hsh (.str name tk) vv es) D
  | [], [], _ => ⟨⟨tk, rfl⟩, hv, trivial⟩
  | (x, u) :: r, e :: es, ⟨⟨t, h1⟩, h2, h3⟩ => by
    unfold putF putL
    have hk : e.key.isStr name = (x == name) := by rw [h1]; rfl
    rw [hk]
    cases x == name with
    | true => exact ⟨⟨t, h1⟩, hv, h3⟩
    | false => exact ⟨⟨t, h1⟩, h2, entOf_put hv h3⟩
  | [], _ :: _, h => h.elim
  | _ :: _, [], h => h.elim

theorem entOf_some {D : DM} {name : Str} : ∀ {fs : List (Str × V)} {es : List DictEntry}, entOf fs es D → (getL name es).isSome = true ∧ es.length = fs.length ∧ (es.any (·.refKey)) = false
  | [], [], _ => ⟨rfl, rfl, rfl⟩
  | (x, u) :: r, e :: es, ⟨⟨t, h1⟩, h2, h3⟩ => by
    obtain ⟨g1, g2, g3⟩ := entOf_some (name := name) h3
    have hr : e.refKey = false := by unfold DictEntry.refKey; rw [h1]
    refine ⟨?_, by simp [g2], by rw [List.any_cons, hr, g3]; rfl⟩
    unfold getL at g1 ⊢
    rw [List.find?_cons]
    cases e.key.isStr name with
    | true => rfl
    | false => simp only [List.any_cons, hr, Bool.false_or]; exact g1
  | [], _ :: _, h => h.elim
  | _ :: _, [], h => h.elim

section
variable {prog : Program} {w : World} {A : Around} {E : Value → Shared → Prop} {s : Shared} {K : Frag} {x C dx : Addr} {es : List DictEntry} {n : Nat} {name : Str} {v : Value}
theorem pushed (h : Heap) (o : Obj) (hf : o.isFreed = false) : (h.push o).get? h.objs.size = some o := Heap.get?_push_size _ hf
theorem osa_raw {R : Result → Shared → Prop} {t0 : Tok} (X : K.In s.heap) (I : InstAt s.heap x (instObj C dx) C (some (dictOf es n)))
    (hp : plainOver K C = true) (ht : takerIn K C name = some none) (hh : hasDictIn K C = true) (hl : (getL name es).isSome = true) (hr : (es.any (·.refKey)) = false) (hz : es.length ≤ 900)
    (h : ∀ tk tk' h', h'.get? dx = some (dictOf (putL name (PyData.keyHash w.params name) (.str name tk) v es) (putN name es n)) → (∀ b o, b ≠ dx → s.heap.get? b = some o → h'.get? b = some o) → R (.ok (.ret .none)) { s with heap := h', toks := tk' }) :
    codeAny (model prog w) A (.call (.builtin "object.__setattr__") ⟨[.ref x, .str name t0, v], []⟩) R s := by
  refine osa_open X I hp ht fun b => ?_
  obtain ⟨cd, hc, hd'⟩ := any_some hh
  obtain ⟨hx, hcl, hn, hD⟩ := I
  have D : s.heap.get? dx = some (dictOf es n) := hD
  refine wpAny_bind (wpAny_pure (wpAny_bind (wpAny_bind (wpAny_loadPart hx (wpAny_bind ((looks_clsIn X hc).here ?_))))))
  rw [hd']
  refine wpAny_pure (a := some dx) (wpAny_bind (wpAny_pure (wpAny_bind ?_)))
  unfold nsSet
  refine wpAny_bind (wpAny_bind (wpAny_askSetting (wpAny_pure (wpAny_bind (wpAny_mkText (wpAny_bind (wpAny_loadPart D ?_)))))))
  have c : (!(List.toArray es).any (·.key.isStr name) && (List.toArray es).any (·.refKey)) = false := by
    rw [← Array.any_toList, ← Array.any_toList]; show (_ && es.any _) = false; rw [hr, Bool.and_false]
  rw [show (dictOf es n).data = .dict es.toArray n from rfl]
  dsimp only
  rw [aRefKeyMayBeTheName_at, c]
  refine wpAny_updatePart D ?_
  have hnew : (s.heap.update dx (Obj.putName name (PyData.keyHash w.params name) (.str name s.toks) v)).get? dx = some (dictOf (putL name (PyData.keyHash w.params name) (.str name s.toks) v es) (putN name es n)) := by
    rw [Heap.get?_update_self _ D (by rw [putName_dict]; rfl), putName_dict]
  have hlen : (putL name (PyData.keyHash w.params name) (.str name s.toks) v es).length ≤ es.length + 1 := by
    have : ∀ (l : List DictEntry), (putL name (PyData.keyHash w.params name) (.str name s.toks) v l).length ≤ l.length + 1 := by
      intro l
      induction l with
      | nil => exact Nat.le_refl _
      | cons e r ih =>
        unfold putL
        split
        · exact Nat.le_succ _
        · simp only [List.length_cons]; (first | lia | omega)
    exact this es
  refine wpAny_bind (wpAny_lookBehind hnew (pastItsLine_dict (by rw [List.size_toArray, sizeLine_eq]; (first | lia | omega))) ?_)
  exact wpAny_pure (h _ _ _ hnew fun b o hb e => (Heap.get?_update_other _ _ (Ne.symm hb)).trans e)
theorem set_raw {Q : Unit → Shared → Prop} (X : K.In s.heap) (I : InstAt s.heap x (instObj C dx) C (some (dictOf es n))) (hs : findIn K (.ref C) "__setattr__" = some (some (.builtin "object.__setattr__")))
    (hp : plainOver K C = true) (ht : takerIn K C name = some none) (hh : hasDictIn K C = true) (hl : (getL name es).isSome = true) (hr : (es.any (·.refKey)) = false) (hz : es.length ≤ 900)
    (h : ∀ tk tk' h', h'.get? dx = some (dictOf (putL name (PyData.keyHash w.params name) (.str name tk) v es) (putN name es n)) → (∀ b o, b ≠ dx → s.heap.get? b = some o → h'.get? b = some o) → Q () { s with heap := h', toks := tk' }) :
    wpAny (model prog w) A (setAttr (.ref x) name v) Q E s :=
  set_plain X I hs (osa_raw (s := { s with toks := s.toks + 1 }) X I hp ht hh hl hr hz fun tk tk' h' k1 k2 => h tk tk' h' k1 k2)
end

noncomputable def SetOK (C : Addr) (name : Str) : Prop := ∀ P : Params, findIn (hd.heap_39 P) (.ref C) "__setattr__" = some (some (.builtin "object.__setattr__")) ∧ plainOver (hd.heap_39 P) C = true ∧ takerIn (hd.heap_39 P) C name = some none ∧ hasDictIn (hd.heap_39 P) C = true
noncomputable def MethOK (C : Addr) (name : Str) (f : Addr) : Prop := ∀ P : Params, plainGet (hd.heap_39 P) C name = true ∧ findIn (hd.heap_39 P) (.ref C) name = some (some (.ref f)) ∧ isFn (hd.heap_39 P) (.ref f) = true

section
variable {X : Cx} {k : Nat} {env : Env}

noncomputable abbrev fSetA (C : Addr) (name : Str) (v ov : V) : W FV := fun QV _ σ => ∃ a d fs pre post, ov = .raw (.ref a) ∧ σ.objs = pre ++ (a, .inst C d fs) :: post ∧ fs.length ≤ 100 ∧ QV .next { σ with objs := pre ++ (a, .inst C d (putF name v fs)) :: post }
theorem ts_setattr (C : Addr) {o e : Expr} {name : Str} {pos pos' : Pos} {de do_ : W V} (he : TE X k env e de) (ho : TE X k env o do_) (hS : SetOK C name) (hs : swapsWith e (some (.Attribute o name pos')) pos.line env = pure false := by rfl) :
    TS1 X k env (.Assign [.Attribute o name pos'] e pos) (wBin de do_ (fSetA C name)) :=
  fun c A D σ s QV EV Q E hc P h O OE => by
    refine g_Assign_Attribute (he c A D σ s _ EV _ E hc P h (fun v vv D1 σ1 s1 R1 l1 hv q => ?_) OE) hs
    refine ho c A D1 σ1 s1 _ EV _ E hc (P.to R1) q (fun ov ovv D2 σ2 s2 R2 l2 hov q2 => ?_) OE
    obtain ⟨a, d, fs, pre, post, rfl, hobj, hlen, hq⟩ := q2
    cases hov
    obtain ⟨e1, es, n, e2, e3⟩ := R2.obj (a, .inst C d fs) (by rw [hobj]; simp)
    obtain ⟨g1, g2, g3⟩ := entOf_some (name := name) e3
    obtain ⟨p1, p2, p3, p4⟩ := hS X.w.params
    refine set_raw (kIn (P.to R2)) (⟨e1, rfl, rfl, e2⟩ : InstAt s2.heap a (instObj C d) C (some (dictOf es n))) p1 p2 p3 p4 g1 g3 (by (first | lia | omega)) fun tk tk' h' k1 k2 => ?_
    have had : a ≠ d := fun q => by
      have nd := (Rel.cpre (P.to R2) (O := [(a, .inst C d fs)]) hobj).nd
      simp [feet, footO, q] at nd
    have R3 := Rel.turn (P.to R2) (mo' := .inst C d (putF name v fs)) (t' := tk') hobj rfl (h' := h') ⟨k2 a _ had e1, _, _, k1, entOf_put (hv.mono l2) e3⟩ fun b o hb e => k2 b o (fun q => hb (by simp [footO, q])) e
    exact O .next .next D2 _ _ R3 (DM.le_trans l1 l2) rfl hq

/-- a method of an object of the text's own class -/

noncomputable def wCt (X : Cx) (k : Nat) (f : Value) (vs : List V) : W V := fun QV EV σ => ∃ pre O post, σ.objs = pre ++ (O ++ post) ∧ CT X k f vs O (fun v O' => QV v { σ with objs := pre ++ (O' ++ post) }) EV
noncomputable abbrev isI (C : Addr) (name : Str) (ov : V) (σ : St) : Prop := ∃ a d fs, ov = .raw (.ref a) ∧ (a, .inst C d fs) ∈ σ.objs ∧ fs.lookup name = none
theorem te_methi (C f : Addr) {o : Expr} {name : Str} {apos pos : Pos} {args : List Expr} {do_ : W V} {da : W (List V)} {pl : Sem Bool} (ho : TE X k env o do_) (hm : MethOK C name f) (hf : CWok X (.ref f)) (ha : TA X k env args da)
    (he : eval (.Call (.Attribute o name apos) args [] pos) env = (do
      let ov ← eval o env
      standAt apos.atName
      let (f, first) ← holding [ov] (getMethod ov name pl)
      callWith pos f first (backTo pos (starEach args env)) (backToKw pos (keywordEach [] env))) := by rfl) :
    TE X k env (.Call (.Attribute o name apos) args [] pos) (wMeth do_ (isI C name) da (wCt X k (.ref f))) :=
  fun c A D σ s QV EV Q E hc P h O OE => by
    refine g_method (name := name) (pl := pl) (ho c A D σ s _ EV _ E hc P h (fun ov vv D1 σ1 s1 R1 l1 hv q => ?_) OE) he
    obtain ⟨⟨a, d, fs, rfl, hm1, hl⟩, q2⟩ := q
    cases hv
    obtain ⟨e1, es, n, e2, e3⟩ := R1.obj _ hm1
    have hgl : getL name es = some none := by
      have : ∀ {fs : List (Str × V)} {es : List DictEntry}, entOf fs es D1 → fs.lookup name = none → getL name es = some none := by
        intro fs
        induction fs with
        | nil => intro es h _; cases es with
          | nil => rfl
          | cons _ _ => exact h.elim
        | cons p r ih =>
          intro es h hl
          cases es with
          | nil => exact h.elim
          | cons e es =>
            obtain ⟨y, u⟩ := p
            obtain ⟨⟨t, h1⟩, h2, h3⟩ := h
            rw [List.lookup_cons] at hl
            have hk : e.key.isStr name = (name == y) := by rw [h1]; exact beq_sw y name
            cases q : name == y with
            | true => rw [q] at hl; cases hl
            | false =>
              rw [q] at hl
              have := ih h3 hl
              unfold getL at this ⊢
              rw [List.find?_cons, hk, q]
              have hr : e.refKey = false := by unfold DictEntry.refKey; rw [h1]
              simp only [List.any_cons, hr, Bool.false_or]
              exact this
      exact this e3 hl
    obtain ⟨p1, p2, p3⟩ := hm X.w.params
    have X1 := kIn (P.to R1)
    refine method_fn X1 (⟨e1, rfl, rfl, e2⟩ : InstAt s1.heap a (instObj C d) C (some (dictOf es n))) (plainGet_of p1).1 (plainGet_of p1).2 p2 (beq_iff_eq.mp p3) (by show (lookIn name (dictOf es n)).map _ = _; rw [lookIn_dict, hgl]; rfl) ?_
    refine hf (ha.1 pos) (g_evalArgs (ha.2 pos c A D1 σ1 s1 _ EV _ E hc (P.to R1) q2 (fun vs vvs D2 σ2 s2 R2 l2 hvs q3 => ⟨kIn (P.to R2), ?_⟩) OE) (ha.1 pos))
    obtain ⟨pre, Ob, post, hoo, hct⟩ := q3
    exact callV (P.to R2) (.cons (.raw _) hvs) hoo hct (O.le (DM.le_trans l1 l2)) OE

/-! ### while -/
noncomputable def wWhile (dt : W Bool) (db : W FV) : Nat → W FV
  | 0 => fun _ _ _ => False
  | n + 1 => fun QV EV σ => dt (kIf (wSeq db (wWhile dt db n)) wNil QV EV) EV σ

noncomputable abbrev wWh (dt : W Bool) (db : W FV) : W FV := fun QV EV σ => ∃ n, wWhile dt db n QV EV σ
theorem ts_while {test : Expr} {body : List Stmt} {pos : Pos} {dt : W Bool} {db : W FV} (ht : TT X k env test dt) (hb : TS X k env body db) :
    TS1 X k env (.While test body [] pos) (wWh dt db) :=
  fun c A D σ s QV EV Q E hc P h O OE => by
    obtain ⟨n, h⟩ := h
    subst hc
    refine g_While ?_
    have pass : OutE c EV (notedBy (model P0 X.w) A c.env (cameBackBy (model P0 X.w) A c.env E)) := fun ev e s' F => fi_passes P.fr P.top F fun e s' F => OE ev e s' F
    refine cg_while (fun n s' => ∃ D' σ', Rel X.g0 c D' σ' s' ∧ D.le D' ∧ wWhile dt db n QV EV σ') ?_ n ⟨D, σ, P.rel, DM.le_refl D, h⟩
    rintro n s' ⟨D', σ', R', l', h'⟩
    cases n with
    | zero => exact h'.elim
    | succ n =>
      refine ht c A D' σ' s' _ EV _ _ rfl (P.to R') h' (fun b D1 σ1 s1 R1 l1 q => ?_) pass
      cases b with
      | false => exact (O .next .next D1 σ1 s1 R1 (DM.le_trans l' l1) rfl q)
      | true =>
        rw [if_pos rfl]
        refine hb c A D1 σ1 s1 _ EV _ _ rfl (P.to R1) q (fun f ff D2 σ2 s2 R2 l2 fr q2 => ?_) pass
        cases f with
        | next => cases fr; exact ⟨n, Nat.lt_succ_self _, D2, σ2, R2, DM.le_trans l' (DM.le_trans l1 l2), q2⟩
        | ret v => obtain ⟨vv, rfl, hv⟩ := fr; exact O (.ret v) (.ret vv) D2 σ2 s2 R2 (DM.le_trans l' (DM.le_trans l1 l2)) ⟨vv, rfl, hv⟩ q2

/-! ### displays -/
noncomputable abbrev gList (vs : List V) : W V := fun QV _ σ => vs.length ≤ 1000 ∧ QV (.list vs) σ
noncomputable abbrev gTup (vs : List V) : W V := fun QV _ σ => vs.length ≤ 1000 ∧ QV (.tup vs) σ
noncomputable abbrev gListM (vs : List V) : W V := fun QV _ σ => vs.length ≤ 1000 ∧ ∀ a, QV (.raw (.ref a)) { σ with objs := (a, .list vs) :: σ.objs }
theorem te_list {elts : List Expr} {pos : Pos} {da : W (List V)} (ha : TA X k env elts da) :
    TE X k env (.List elts pos) (wArg da gList) :=
  fun c A D σ s QV EV Q E hc P h O OE => by
    refine g_List (ha.2 pos c A D σ s _ EV _ E hc P h (fun vs vals D1 σ1 s1 R1 l1 hv q => ⟨?_, ?_⟩) OE)
    · rw [hv.length]; exact Nat.le_trans q.1 (by decide)
    · obtain ⟨R2, l2⟩ := Rel.newD (P.to R1) (t' := s1.toks) (pushed s1.heap { cls := .type "list", data := .seq vals.toArray } rfl) (none_at (Nat.le_refl _)) fun b o e => Heap.get?_push_of_some _ e
      exact O (.list vs) _ _ σ1 _ R2 (DM.le_trans l1 l2) (.list (DM.put_same _ _ _) (hv.mono l2)) q.2
theorem te_tuple {elts : List Expr} {kk : Nat} {pos : Pos} {da : W (List V)} (ha : TA X k env elts da) :
    TE X k env (.Tuple elts kk pos) (wArg da gTup) :=
  fun c A D σ s QV EV Q E hc P h O OE => by
    refine g_Tuple (ha.2 pos c A D σ s _ EV _ E hc P h (fun vs vals D1 σ1 s1 R1 l1 hv q => ⟨?_, ?_⟩) OE)
    · rw [hv.length]; exact Nat.le_trans q.1 (by decide)
    · obtain ⟨R2, l2⟩ := Rel.newD (P.to R1) (t' := s1.toks) (pushed s1.heap { cls := .type "tuple", data := .seq vals.toArray } rfl) (none_at (Nat.le_refl _)) fun b o e => Heap.get?_push_of_some _ e
      exact O (.tup vs) _ _ σ1 _ R2 (DM.le_trans l1 l2) (.tup (DM.put_same _ _ _) (hv.mono l2)) q.2
/-- a list that may change -/
theorem te_listm {elts : List Expr} {pos : Pos} {da : W (List V)} (ha : TA X k env elts da) :
    TE X k env (.List elts pos) (wArg da gListM) :=
  fun c A D σ s QV EV Q E hc P h O OE => by
    refine g_List (ha.2 pos c A D σ s _ EV _ E hc P h (fun vs vals D1 σ1 s1 R1 l1 hv q => ⟨?_, ?_⟩) OE)
    · rw [hv.length]; exact Nat.le_trans q.1 (by decide)
    · have hh := pushed s1.heap { cls := .type "list", data := .seq vals.toArray } rfl
      have R2 := Rel.new (P.to R1) (t' := s1.toks) (a := s1.heap.objs.size) (mo := .list vs) (h' := s1.heap.push { cls := .type "list", data := .seq vals.toArray }) ⟨vals, _, hh, hv⟩ (fun b hb => by rw [List.mem_singleton.mp hb]; exact none_at (Nat.le_refl _)) (List.nodup_cons.mpr ⟨List.not_mem_nil, List.nodup_nil⟩) fun b o e => Heap.get?_push_of_some _ e
      exact O _ _ D1 _ _ R2 l1 (.raw _) (q.2 _)

end
end Mine
end

section
open PySem PySem.W PyProof.Rows PySem.Calls
namespace Mine

section
variable {X : Cx} {k : Nat}
theorem Gd.at {X : Cx} (G : Gd X) (b : Bool) : Gd { X with b := b } := ⟨G.K, G.mg, G.mb, G.nolimit, G.nodigits⟩
theorem Flight.sub {H H' : Heap} {Y Y' : List Addr} {l : List Env} {b b' : Shared} {e : Value} {s' : Shared} (F : Flight H' Y' l b' e s') (hk : ∀ a o, H.get? a = some o → H'.get? a = some o) (hY : ∀ a, (H.get? a).isSome = true → a ∈ Y' → a ∈ Y)
    (hb : ∀ h t, ({ b' with heap := h, toks := t } : Shared) = { b with heap := h, toks := t }) : Flight H Y l b e s' := by
  obtain ⟨ea, a0, bb, h, t, rfl, rfl, f1, f2, f3, f4, f5, f6⟩ := F
  exact ⟨ea, a0, bb, h, t, rfl, hb _ _, fun a o e n1 n2 => f1 a o (hk a o e) n1 fun q => n2 (hY a (by rw [e]; rfl) q), fun a o e n => f2 a o (hk a o e) fun q => n (hY a (by rw [e]; rfl) q), f3, f4, f5, f6⟩

/-- an object is made -/
theorem ct_make {C fI : Addr} {args : List V} {O : List (Addr × MO)} {QV : V → List (Addr × MO) → Prop} {EV : Prop} (hm : ∀ P : Params, makesIn (hd.heap_39 P) C = true) (hi : ∀ P : Params, findIn (hd.heap_39 P) (.ref C) "__init__" = some (some (.ref fI)))
    (hf : ∀ P : Params, typeIn (hd.heap_39 P) (.ref fI) = some (.type "function")) (h : ∀ x dx, CT { X with b := false } k (.ref fI) (.raw (.ref x) :: args) ((x, .inst C dx []) :: O) (fun v O' => v = .none ∧ (x ∉ feet O → QV (.raw (.ref x)) O')) EV) : CT X (k + 1) (.ref C) args O QV EV := by
  intro A l D s vals Q E P hv O1 O2
  have X1 := kIn' P
  obtain ⟨hh, g, d, t, os⟩ := s
  refine cg_of <| make_core (makes_of X1 (hm _)) (looks_findIn X1 (hi _)) (fun self => bind_fn X1 self (hf _)) (.inl rfl) ?_
  have X1' : ∀ a o, hh.get? a = some o → ((hh.push emptyDict).push (instObj C hh.objs.size)).get? a = some o := fun a o e => Heap.get?_push_of_some _ (Heap.get?_push_of_some _ e)
  have hx : ((hh.push emptyDict).push (instObj C hh.objs.size)).get? (hh.objs.size + 1) = some (instObj C hh.objs.size) := by
    have := pushed (hh.push emptyDict) (instObj C hh.objs.size) rfl
    rwa [Heap.size_push] at this
  have hdx : ((hh.push emptyDict).push (instObj C hh.objs.size)).get? hh.objs.size = some emptyDict := Heap.get?_push_of_some _ (pushed hh emptyDict rfl)
  have nx : hh.get? (hh.objs.size + 1) = none := none_at (Nat.le_succ _)
  have ndx : hh.get? hh.objs.size = none := none_at (Nat.le_refl _)
  have exO : ∀ a ∈ feet O, ∃ o, hh.get? a = some o := fun a ha => by
    obtain ⟨p, hp, hq⟩ := List.mem_flatMap.mp ha
    exact (P.obj p hp).ex a hq
  have xO : hh.objs.size + 1 ∉ feet O := fun hm => by obtain ⟨o, e⟩ := exO _ hm; rw [nx] at e; cases e
  have dxO : hh.objs.size ∉ feet O := fun hm => by obtain ⟨o, e⟩ := exO _ hm; rw [ndx] at e; cases e
  have ffe : feet ((hh.objs.size + 1, MO.inst C hh.objs.size []) :: O) = (hh.objs.size + 1) :: hh.objs.size :: feet O := by simp [feet, footO]
  have old : ∀ a, (hh.get? a).isSome = true → a ∈ feet ((hh.objs.size + 1, MO.inst C hh.objs.size []) :: O) → a ∈ feet O := fun a e hm => by
    rw [ffe] at hm
    rcases List.mem_cons.mp hm with rfl | hm
    · rw [nx] at e; cases e
    rcases List.mem_cons.mp hm with rfl | hm
    · rw [ndx] at e; cases e
    · exact hm
  have Dn : ∀ a, hh.get? a = none → D a = none := fun a e => by
    cases q : D a with
    | none => rfl
    | some o => have := P.kD a o q; dsimp only at this; rw [e] at this; cases this
  have Fn : ∀ a, hh.get? a = none → a ∉ frames l := fun a e hm => by
    obtain ⟨o, q⟩ := P.stk.mem a hm
    dsimp only at q; rw [e] at q; cases q
  have P' : CPre { X with b := false } k (A.under (.builtin "type.__call__" ⟨.ref C :: vals, []⟩)) l D ((hh.objs.size + 1, .inst C hh.objs.size []) :: O) ⟨(hh.push emptyDict).push (instObj C hh.objs.size), g, d, t, os⟩ := by
    refine ⟨P.G.at false, ⟨?_, ?_⟩, P.hh, ?_, P.stk.keeps fun a o e => ⟨o, X1' a o e, rfl⟩, fun a o e => X1' a o (P.kD a o e), P.gD, fun p hp => ?_, ?_, fun a ha => ?_, fun a ha => ?_, P.disS⟩
    · have := P.room.depth; show A.depth + 1 + 2 * k + 2 < 1000; (first | lia | omega)
    · have h1 := P.room.units
      have h2 : (Code.builtin "type.__call__" ⟨.ref C :: vals, []⟩).cUnits ≤ 20 := by
        exact Nat.le_trans (Nat.le_of_eq (show _ = (Code.builtin "type.__call__" ⟨[], []⟩).cUnits from rfl)) (by decide +kernel)
      show A.units + (Code.builtin "type.__call__" ⟨.ref C :: vals, []⟩).cUnits + 40 * k + 40 < 9900
      (first | lia | omega)
    · have : (A.under (.builtin "type.__call__" ⟨.ref C :: vals, []⟩)).frames = pushEnvs [] A.frames := rfl
      rw [this, P.fr]; rfl
    · rcases List.mem_cons.mp hp with rfl | hp
      · exact ⟨hx, [], 0, hdx, trivial⟩
      · exact (P.obj p hp).keeps (DM.le_refl D) fun b _ o e => X1' b o e
    · rw [ffe]
      refine List.nodup_cons.mpr ⟨fun hm => ?_, List.nodup_cons.mpr ⟨dxO, P.nd⟩⟩
      rcases List.mem_cons.mp hm with q | q
      · exact absurd q (Nat.succ_ne_self _)
      · exact xO q
    · rw [ffe] at ha
      rcases List.mem_cons.mp ha with rfl | ha
      · exact Dn _ nx
      rcases List.mem_cons.mp ha with rfl | ha
      · exact Dn _ ndx
      · exact P.disD a ha
    · rw [ffe] at ha
      rcases List.mem_cons.mp ha with rfl | ha
      · exact Fn _ nx
      rcases List.mem_cons.mp ha with rfl | ha
      · exact Fn _ ndx
      · exact P.disF a ha
  refine cg_no <| cg_mono (h (hh.objs.size + 1) hh.objs.size _ l D _ (.ref (hh.objs.size + 1) :: vals) (fun v s' => v = .none ∧ Q (.ref (hh.objs.size + 1)) s') E P' (.cons (.raw _) hv) (fun v vv D' O' h' t' C' q => ?_) fun ev e s' F => ?_) fun r s' z => ?_
  · obtain ⟨rfl, q⟩ := q
    have hvn := C'.val
    cases hvn
    refine ⟨rfl, O1 (.raw (.ref (hh.objs.size + 1))) _ D' O' h' t' ⟨C'.le, fun a o e => ?_, C'.kD, fun a o e n => C'.keep a o (X1' a o e) fun q => n (old a (by rw [show hh.get? a = some o from e]; rfl) q), fun a ha => C'.ex a (by rw [ffe]; exact List.mem_cons_of_mem _ (List.mem_cons_of_mem _ ha)), C'.obj, C'.nd, C'.disD, fun a ha => ?_, .raw _⟩ (q xO)⟩
    · rcases C'.fresh a o e with h | h
      · exact .inl h
      · right
        cases q' : hh.get? a with
        | none => rfl
        | some o' => have := X1' a o' q'; rw [show (_ : Heap).get? a = none from h] at this; cases this
    · rcases C'.from_ a ha with h | h
      · rw [ffe] at h
        rcases List.mem_cons.mp h with rfl | h
        · exact .inr nx
        rcases List.mem_cons.mp h with rfl | h
        · exact .inr ndx
        · exact .inl h
      · right
        cases q' : hh.get? a with
        | none => rfl
        | some o' => have := X1' a o' q'; rw [show (_ : Heap).get? a = none from h] at this; cases this
  · exact O2 ev e s' (F.sub X1' old fun _ _ => rfl)
  · rcases r with e | (v | _ | _ | _)
    · exact z
    all_goals exact z

/-- an atom, fresh, is frozen -/
theorem CPost.atom {X : Cx} {l : List Env} {D : DM} {O : List (Addr × MO)} {s : Shared} {x dx : Addr} {tx : List Nat} {vv : Value} {D' : DM} {O' : List (Addr × MO)} {h' : Heap} (C : CPost X l D O s (.raw (.ref x)) vv D' ((x, .inst 124 dx [(Str.ofString "text", .str tx)]) :: O') h')
    (hx : x ∉ feet O) (hdx : dx ∉ feet O) : ∃ D'', CPost X l D O s (.atom tx) vv D'' O' h' := by
  have hv := C.val
  cases hv
  obtain ⟨e1, es, n, e2, e3⟩ := C.obj (x, .inst 124 dx [(Str.ofString "text", .str tx)]) List.mem_cons_self
  cases es with
  | nil => exact e3.elim
  | cons en es =>
  cases es with
  | cons _ _ => exact e3.2.2.elim
  | nil =>
  obtain ⟨hash, key, val⟩ := en
  obtain ⟨⟨tk, h1⟩, h2, -⟩ := e3
  dsimp only at h1 h2
  subst h1
  cases h2
  rename_i tv
  have ffe : feet ((x, MO.inst 124 dx [(Str.ofString "text", .str tx)]) :: O') = x :: dx :: feet O' := by simp [feet, footO]
  have nd := C.nd
  rw [ffe] at nd
  obtain ⟨n1, n2⟩ := List.nodup_cons.mp nd
  obtain ⟨n3, n4⟩ := List.nodup_cons.mp n2
  have hxd : x ≠ dx := fun q => n1 (q ▸ List.mem_cons_self)
  have Dx : D' x = none := C.disD x (by rw [ffe]; exact List.mem_cons_self)
  have Ddx : D' dx = none := C.disD dx (by rw [ffe]; exact List.mem_cons_of_mem _ List.mem_cons_self)
  have fx : s.heap.get? x = none := (C.from_ x (by rw [ffe]; exact List.mem_cons_self)).resolve_left hx
  have fdx : s.heap.get? dx = none := (C.from_ dx (by rw [ffe]; exact List.mem_cons_of_mem _ List.mem_cons_self)).resolve_left hdx
  have le1 : D'.le (D'.put x (instObj 124 dx)) := DM.put_le (.inl Dx)
  have Ddx' : D'.put x (instObj 124 dx) dx = none := by unfold DM.put; rw [if_neg (show ¬ dx = x from Ne.symm hxd)]; exact Ddx
  have le2 := DM.put_le (o := dictOf [⟨hash, .str (Str.ofString "text") tk, .str (strD tx) tv⟩] n) (.inl Ddx')
  have le := DM.le_trans le1 le2
  have cases' : ∀ a o, (D'.put x (instObj 124 dx)).put dx (dictOf [⟨hash, .str (Str.ofString "text") tk, .str (strD tx) tv⟩] n) a = some o → (a = dx ∧ o = dictOf [⟨hash, .str (Str.ofString "text") tk, .str (strD tx) tv⟩] n) ∨ (a = x ∧ o = instObj 124 dx) ∨ D' a = some o := fun a o e => by
    unfold DM.put at e
    split at e
    · rename_i q; cases e; exact .inl ⟨q, rfl⟩
    · split at e
      · rename_i q; cases e; exact .inr (.inl ⟨q, rfl⟩)
      · exact .inr (.inr e)
  refine ⟨_, DM.le_trans C.le le, fun a o e => ?_, fun a o e => ?_, C.keep, C.ex, fun p hp => ?_, n4, fun a ha => ?_, fun a ha => C.from_ a (by rw [ffe]; exact List.mem_cons_of_mem _ (List.mem_cons_of_mem _ ha)), .atom (le2 _ _ (DM.put_same _ _ _)) (DM.put_same _ _ _)⟩
  · rcases cases' a o e with ⟨rfl, rfl⟩ | ⟨rfl, rfl⟩ | h
    · exact .inr fdx
    · exact .inr fx
    · exact C.fresh a o h
  · rcases cases' a o e with ⟨rfl, rfl⟩ | ⟨rfl, rfl⟩ | h
    · exact e2
    · exact e1
    · exact C.kD a o h
  · exact (C.obj p (List.mem_cons_of_mem _ hp)).keeps le fun b _ o e => e
  · have h1 : a ≠ x := fun q => n1 (q ▸ List.mem_cons_of_mem _ ha)
    have h2 : a ≠ dx := fun q => n3 (q ▸ ha)
    unfold DM.put
    rw [if_neg h2, if_neg h1]
    exact C.disD a (by rw [ffe]; exact List.mem_cons_of_mem _ (List.mem_cons_of_mem _ ha))
end
end Mine
end

section
open PySem PySem.W PyProof.Rows PySem.Calls
namespace Mine

theorem strD_app (x y : List Nat) : strD x ++ strD y = strD (x ++ y) := by
  show Str.append _ _ = _
  unfold Str.append
  simp
theorem strD_beq (x y : List Nat) : (strD x == strD y) = (x == y) := by
  by_cases h : x = y
  · subst h; rw [beq_self_eq_true, beq_self_eq_true]
  · rw [beq_eq_false_iff_ne.mpr h]
    refine beq_eq_false_iff_ne.mpr fun q => h ?_
    have := congrArg (fun z : Str => z.cps.toList) q
    simpa using this
theorem strD_len (x : List Nat) : (strD x).length = x.length := by show (List.toArray x).size = _; simp

/-! ### what stands behind a value -/
section
variable {D : DM} {x : Value} {xs : List Value}
theorem VR.int_inv {i : Int} (h : VR D (.int i) x) : ∃ t, x = .int i t := by cases h; exact ⟨_, rfl⟩
theorem VR.str_inv {l : List Nat} (h : VR D (.str l) x) : ∃ t, x = .str (strD l) t := by cases h; exact ⟨_, rfl⟩
theorem VR.bytes_inv {l : List UInt8} (h : VR D (.bytes l) x) : ∃ t, x = .bytes l.toArray t := by cases h; exact ⟨_, rfl⟩
theorem VR.list_inv {vs : List V} (h : VR D (.list vs) x) : ∃ vals a n, x = .ref a ∧ D a = some { cls := .type "list", data := .seq vals.toArray n } ∧ VRs D vs vals := by
  cases h with | list h1 h2 => exact ⟨_, _, _, rfl, h1, h2⟩
theorem VR.tup_inv {vs : List V} (h : VR D (.tup vs) x) : ∃ vals a n, x = .ref a ∧ D a = some { cls := .type "tuple", data := .seq vals.toArray n } ∧ VRs D vs vals := by
  cases h with | tup h1 h2 => exact ⟨_, _, _, rfl, h1, h2⟩
theorem VR.raw_inv {v : Value} (h : VR D (.raw v) x) : x = v := by cases h; rfl
theorem VRs.one {v : V} (h : VRs D [v] xs) : ∃ y, xs = [y] ∧ VR D v y := by
  obtain ⟨y, ys, rfl, h1, h2⟩ := h.cons_inv
  exact ⟨y, by rw [h2.nil_inv], h1⟩
theorem VRs.two {v w : V} (h : VRs D [v, w] xs) : ∃ y z, xs = [y, z] ∧ VR D v y ∧ VR D w z := by
  obtain ⟨y, ys, rfl, h1, h2⟩ := h.cons_inv
  obtain ⟨z, rfl, h3⟩ := h2.one
  exact ⟨y, z, rfl, h1, h3⟩
theorem VRs.three {v w u : V} (h : VRs D [v, w, u] xs) : ∃ y z q, xs = [y, z, q] ∧ VR D v y ∧ VR D w z ∧ VR D u q := by
  obtain ⟨y, ys, rfl, h1, h2⟩ := h.cons_inv
  obtain ⟨z, q, rfl, h3, h4⟩ := h2.two
  exact ⟨y, z, q, rfl, h1, h3, h4⟩
end

noncomputable def fAdd : V → V → W V
  | .int a, .int b => wVal (.int (a + b))
  | .bytes x, .bytes y => fun Q _ σ => x.length + y.length ≤ 16777216 ∧ Q (.bytes (x ++ y)) σ
  | .str x, .str y => fun Q _ σ => x.length + y.length ≤ 16777216 ∧ Q (.str (x ++ y)) σ
  | .list x, .list y => fun Q _ σ => x.length + y.length ≤ 16777216 ∧ Q (.list (x ++ y)) σ
  | _, _ => wNo

section
variable {X : Cx} {k : Nat} {env : Env}

theorem fAdd_inv {a b : V} {Q : V → St → Prop} {E : Prop} {σ : St} (h : fAdd a b Q E σ) : (∃ x y, a = .int x ∧ b = .int y) ∨ (∃ x y, a = .str x ∧ b = .str y) ∨ (∃ x y, a = .bytes x ∧ b = .bytes y) ∨ (∃ x y, a = .list x ∧ b = .list y) := by
  cases a <;> first | exact h.elim | (cases b <;> first | exact h.elim | exact .inl ⟨_, _, rfl, rfl⟩ | exact .inr (.inl ⟨_, _, rfl, rfl⟩) | exact .inr (.inr (.inl ⟨_, _, rfl, rfl⟩)) | exact .inr (.inr (.inr (⟨_, _, rfl, rfl⟩))))
theorem tb_add : TB X k (binaryOp .Add) fAdd :=
  fun c A D σ s a b va vb QV EV Q E P h1 h2 h3 O OE => by
    rcases fAdd_inv h3 with ⟨i, j, rfl, rfl⟩ | ⟨i, j, rfl, rfl⟩ | ⟨i, j, rfl, rfl⟩ | ⟨vs, ws, rfl, rfl⟩
    case inl => obtain ⟨t, rfl⟩ := h1.int_inv; obtain ⟨u, rfl⟩ := h2.int_inv; exact add_int (O _ _ D σ _ (P.rel.toks _) (DM.le_refl D) (.int _ _) h3)
    · obtain ⟨t, rfl⟩ := h1.str_inv
      obtain ⟨u, rfl⟩ := h2.str_inv
      refine SB.add (fun t' kk => ?_) (by rw [strD_len, strD_len]; exact Nat.le_trans h3.1 (by decide))
      rw [strD_app]
      exact O _ _ D σ _ (P.rel.toks _) (DM.le_refl D) (.str _ _) h3.2
    · obtain ⟨t, rfl⟩ := h1.bytes_inv
      obtain ⟨u, rfl⟩ := h2.bytes_inv
      refine KBy.add_bytes (by simpa using h3.1) fun t' kk => ?_
      have e : ∀ x y : List UInt8, x.toArray ++ y.toArray = (x ++ y).toArray := by simp
      rw [e]
      exact O _ _ D σ _ (P.rel.toks _) (DM.le_refl D) (.bytes _ _) h3.2
    · obtain ⟨vals, l, n, rfl, hl, hvs⟩ := h1.list_inv
      obtain ⟨wals, l2, n2, rfl, hl2, hws⟩ := h2.list_inv
      have ho := P.rel.kD _ _ hl
      have ho2 := P.rel.kD _ _ hl2
      have hz : vals.toArray.size + wals.toArray.size ≤ sizeLine := by
        have := hvs.length; have := hws.length; have h4 : vs.length + ws.length ≤ 16777216 := h3.1
        simp only [List.size_toArray]
        exact Nat.le_trans (by (first | lia | omega)) (show 16777216 ≤ sizeLine by decide)
      refine concat_meets ⟨_, ho, rfl⟩ ⟨_, ho2, rfl⟩ noFill_list_add seq_list_add PySem.F.slot_list_add PySem.F.entry_list_add (PySem.F.args_list_add_2 _ _) (list_addW l l2 vals.toArray wals.toArray n n2 none none #[] #[] hz) ⟨ho, ho2, ?_⟩
      have e : vals.toArray ++ wals.toArray = (vals ++ wals).toArray := by simp
      rw [e]
      obtain ⟨R2, l2⟩ := Rel.newD P (t' := s.toks) (pushed s.heap { cls := .type "list", data := .seq (vals ++ wals).toArray } rfl) (none_at (Nat.le_refl _)) fun b o e => Heap.get?_push_of_some _ e
      exact O (.list _) _ _ σ _ R2 l2 (.list (DM.put_same _ _ _) ((hvs.append hws).mono l2)) h3.2

noncomputable def fMul : V → V → W V
  | .int a, .int b => fun Q _ σ => IntMulOk a b ∧ Q (.int (a * b)) σ
  | _, _ => wNo
theorem fMul_inv {a b : V} {Q : V → St → Prop} {E : Prop} {σ : St} (h : fMul a b Q E σ) : (∃ x y, a = .int x ∧ b = .int y) := by
  cases a <;> first | exact h.elim | (cases b <;> first | exact h.elim | exact ⟨_, _, rfl, rfl⟩)
theorem tb_mul : TB X k (binaryOp .Mult) fMul :=
  fun c A D σ s a b va vb QV EV Q E P h1 h2 h3 O OE => by
    obtain ⟨i, j, rfl, rfl⟩ := fMul_inv h3
    obtain ⟨t, rfl⟩ := h1.int_inv
    obtain ⟨u, rfl⟩ := h2.int_inv
    exact PySem.P.mul_int (hm := h3.1) (O _ _ D σ _ (P.rel.toks _) (DM.le_refl D) (.int _ _) h3.2)

noncomputable def fSMul : V → V → W V
  | .str l, .int n => fun Q _ σ => 0 ≤ n ∧ n ≤ 1000 ∧ l.length ≤ 1000 ∧ Q (.str (List.replicate n.toNat l).flatten) σ
  | _, _ => wNo
noncomputable def fMod : V → V → W V
  | .int a, .int b => fun Q _ σ => b ≠ 0 ∧ Q (.int (a.fmod b)) σ
  | _, _ => wNo
theorem fMod_inv {a b : V} {Q : V → St → Prop} {E : Prop} {σ : St} (h : fMod a b Q E σ) : (∃ x y, a = .int x ∧ b = .int y) := by
  cases a <;> first | exact h.elim | (cases b <;> first | exact h.elim | exact ⟨_, _, rfl, rfl⟩)
theorem tb_mod : TB X k (binaryOp .Mod) fMod :=
  fun c A D σ s a b va vb QV EV Q E P h1 h2 h3 O OE => by
    obtain ⟨i, j, rfl, rfl⟩ := fMod_inv h3
    obtain ⟨t, rfl⟩ := h1.int_inv
    obtain ⟨u, rfl⟩ := h2.int_inv
    exact PyProof.Rows.mod_int h3.1 (O _ _ D σ _ (P.rel.toks _) (DM.le_refl D) (.int _ _) h3.2)
noncomputable def fDiv : V → V → W V
  | .int a, .int b => fun Q _ σ => b ≠ 0 ∧ Builtin.divisionGoesByPylong a b = false ∧ Q (.int (a.fdiv b)) σ
  | _, _ => wNo
theorem fDiv_inv {a b : V} {Q : V → St → Prop} {E : Prop} {σ : St} (h : fDiv a b Q E σ) : (∃ x y, a = .int x ∧ b = .int y) := by
  cases a <;> first | exact h.elim | (cases b <;> first | exact h.elim | exact ⟨_, _, rfl, rfl⟩)
theorem tb_div : TB X k (binaryOp .FloorDiv) fDiv :=
  fun c A D σ s a b va vb QV EV Q E P h1 h2 h3 O OE => by
    obtain ⟨i, j, rfl, rfl⟩ := fDiv_inv h3
    obtain ⟨t, rfl⟩ := h1.int_inv
    obtain ⟨u, rfl⟩ := h2.int_inv
    exact AutoIntOps.floordiv_1 (by simpa using h3.1) (by rw [h3.2.1]; decide) (O _ _ D σ _ (P.rel.toks _) (DM.le_refl D) (.int _ _) h3.2.2)
noncomputable def fPow : V → V → W V
  | .int a, .int b => fun Q _ σ => 0 < b ∧ 1 < a ∧ Builtin.Int.intTooBig (((Builtin.Int.intBits a : Nat) : Int) * b) = false ∧ Q (.int (a ^ b.toNat)) σ
  | _, _ => wNo
theorem fPow_inv {a b : V} {Q : V → St → Prop} {E : Prop} {σ : St} (h : fPow a b Q E σ) : (∃ x y, a = .int x ∧ b = .int y) := by
  cases a <;> first | exact h.elim | (cases b <;> first | exact h.elim | exact ⟨_, _, rfl, rfl⟩)
theorem tb_pow : TB X k (binaryOp .Pow) fPow :=
  fun c A D σ s a b va vb QV EV Q E P h1 h2 h3 O OE => by
    obtain ⟨i, j, rfl, rfl⟩ := fPow_inv h3
    obtain ⟨t, rfl⟩ := h1.int_inv
    obtain ⟨u, rfl⟩ := h2.int_inv
    obtain ⟨h4, h5, h6, h7⟩ := h3
    exact AutoIntOps.pow_4 (by (first | lia | omega)) (by simp; (first | lia | omega)) (by simp; (first | lia | omega)) (by simp; (first | lia | omega)) (by rw [h6]; decide) (O _ _ D σ _ (P.rel.toks _) (DM.le_refl D) (.int _ _) h7)

/-! ### equality -/
noncomputable def fEq : V → V → W V
  | .int a, .int b => wVal (.bool (a == b))
  | .str x, .str y => wVal (.bool (x == y))
  | .bytes x, .bytes y => wVal (.bool (x == y))
  | .list x, .list [] => wVal (.bool x.isEmpty)
  | _, _ => wNo
theorem fEq_inv {a b : V} {Q : V → St → Prop} {E : Prop} {σ : St} (h : fEq a b Q E σ) : (∃ x y, a = .int x ∧ b = .int y) ∨ (∃ x y, a = .str x ∧ b = .str y) ∨ (∃ x y, a = .bytes x ∧ b = .bytes y) ∨ (∃ x, a = .list x ∧ b = .list []) := by
  cases a <;> first | exact h.elim | (cases b <;> first | exact h.elim | exact .inl ⟨_, _, rfl, rfl⟩ | exact .inr (.inl ⟨_, _, rfl, rfl⟩) | exact .inr (.inr (.inl ⟨_, _, rfl, rfl⟩)) | skip)
  rename_i ws
  cases ws with
  | nil => exact .inr (.inr (.inr ⟨_, rfl, rfl⟩))
  | cons _ _ => exact h.elim
theorem tb_eq : TB X k (compareOp .Eq) fEq :=
  fun c A D σ s a b va vb QV EV Q E P h1 h2 h3 O OE => by
    rcases fEq_inv h3 with ⟨i, j, rfl, rfl⟩ | ⟨i, j, rfl, rfl⟩ | ⟨i, j, rfl, rfl⟩ | ⟨vs, rfl, rfl⟩
    case inl => obtain ⟨t, rfl⟩ := h1.int_inv; obtain ⟨u, rfl⟩ := h2.int_inv; exact eq_int (O _ _ D σ _ P.rel (DM.le_refl D) (.bool _) h3)
    · obtain ⟨t, rfl⟩ := h1.str_inv
      obtain ⟨u, rfl⟩ := h2.str_inv
      refine PyProof.Rows.eq_str ?_
      rw [strD_beq]
      exact O _ _ D σ _ P.rel (DM.le_refl D) (.bool _) h3
    · obtain ⟨t, rfl⟩ := h1.bytes_inv
      obtain ⟨u, rfl⟩ := h2.bytes_inv
      refine PySem.W.eq_bytes ?_
      exact O _ _ D σ _ P.rel (DM.le_refl D) (.bool _) h3
    · obtain ⟨vals, l, n, rfl, hl, hvs⟩ := h1.list_inv
      obtain ⟨wals, l2, n2, rfl, hl2, hws⟩ := h2.list_inv
      obtain rfl := hws.nil_inv
      have ho := P.rel.kD _ _ hl
      have ho2 := P.rel.kD _ _ hl2
      have il : s.heap.IsList l vals.toArray := ⟨_, ho, rfl, _, rfl⟩
      have il2 : s.heap.IsList l2 ([] : List Value).toArray := ⟨_, ho2, rfl, _, rfl⟩
      cases hvs with
      | nil => exact SeqAt.eq_listAt (e := fun _ => true) il il2 rfl P.room.u (fun j h1 _ => absurd h1 (Nat.not_lt_zero _)) (O _ _ D σ _ P.rel (DM.le_refl D) (.bool true) h3)
      | cons _ _ => exact SeqAt.eq_list_lengthsAt il il2 (by simp) P.room.u (O _ _ D σ _ P.rel (DM.le_refl D) (.bool false) h3)
noncomputable def fNe : V → V → W V
  | .int a, .int b => wVal (.bool (a != b))
  | .str x, .str y => wVal (.bool (x != y))
  | .bytes x, .bytes y => wVal (.bool (x != y))
  | _, _ => wNo
theorem strD_bne (x y : List Nat) : (strD x != strD y) = (x != y) := by unfold bne; rw [strD_beq]
theorem fNe_inv {a b : V} {Q : V → St → Prop} {E : Prop} {σ : St} (h : fNe a b Q E σ) : (∃ x y, a = .int x ∧ b = .int y) ∨ (∃ x y, a = .str x ∧ b = .str y) ∨ (∃ x y, a = .bytes x ∧ b = .bytes y) := by
  cases a <;> first | exact h.elim | (cases b <;> first | exact h.elim | exact .inl ⟨_, _, rfl, rfl⟩ | exact .inr (.inl ⟨_, _, rfl, rfl⟩) | exact .inr (.inr (⟨_, _, rfl, rfl⟩)))
theorem tb_ne : TB X k (compareOp .NotEq) fNe :=
  fun c A D σ s a b va vb QV EV Q E P h1 h2 h3 O OE => by
    rcases fNe_inv h3 with ⟨i, j, rfl, rfl⟩ | ⟨i, j, rfl, rfl⟩ | ⟨i, j, rfl, rfl⟩
    case inl => obtain ⟨t, rfl⟩ := h1.int_inv; obtain ⟨u, rfl⟩ := h2.int_inv; exact ne_int (O _ _ D σ _ P.rel (DM.le_refl D) (.bool _) h3)
    · obtain ⟨t, rfl⟩ := h1.str_inv
      obtain ⟨u, rfl⟩ := h2.str_inv
      refine PyProof.Rows.ne_str ?_
      rw [strD_bne]
      exact O _ _ D σ _ P.rel (DM.le_refl D) (.bool _) h3
    · obtain ⟨t, rfl⟩ := h1.bytes_inv
      obtain ⟨u, rfl⟩ := h2.bytes_inv
      refine PySem.W.ne_bytes ?_
      exact O _ _ D σ _ P.rel (DM.le_refl D) (.bool _) h3

noncomputable def isNone : V → Option Bool
  | .none => some true
  | .raw _ => none
  | _ => some false
noncomputable def fIs : V → V → W V
  | a, .none => fun Q _ σ => match isNone a with | some b => Q (.bool b) σ | _ => False
  | _, _ => wNo
theorem tb_isnone : TB X k (compareOp .Is) fIs :=
  fun c A D σ s a b va vb QV EV Q E P h1 h2 h3 O OE => by
    cases h2 <;> first | exact h3.elim | skip
    refine is_none ?_
    cases h1 <;> first | exact h3.elim | exact O _ _ D σ _ P.rel (DM.le_refl D) (.bool _) h3

/-! ### in -/
noncomputable def fIn : V → V → W V
  | .int i, .bytes l => fun Q _ σ => 0 ≤ i ∧ i < 256 ∧ Q (.bool (l.contains i.toNat.toUInt8)) σ
  | .int i, .tup vs => fun Q _ σ => ∃ ns : List Int, vs = ns.map V.int ∧ Q (.bool (ns.any (· == i))) σ
  | .str x, .str y => wVal (.bool (Txt.contains (strD y) (strD x)))
  | _, _ => wNo
noncomputable def fNotIn : V → V → W V := fun a b Q E σ => fIn a b (fun v σ1 => match v with | .bool q => Q (.bool (!q)) σ1 | _ => False) E σ

theorem gives_contains {b : List UInt8} {t u : Tok} {i : Int} (h0 : 0 ≤ i) (h1 : i < 256) : Gives (Builtin.«bytes.__contains__» ⟨[.bytes b.toArray t, .int i u], []⟩) (.val (.bool (b.contains i.toNat.toUInt8))) := by
  refine .of_eq ?_
  show (do let r ← Builtin.Bytes.containsIn "bytes.__contains__" (.bytes b.toArray t) (.int i u); ret (.bool r)) = _
  have : Builtin.Bytes.containsIn "bytes.__contains__" (.bytes b.toArray t) (.int i u) = pure (b.contains i.toNat.toUInt8) := by
    unfold Builtin.Bytes.containsIn
    refine (show _ = _ from ?_)
    rw [KBy.buffer_eq]
    have hc : (decide (i < 0) || decide (i ≥ 256)) = false := by simp; (first | lia | omega)
    show (if (decide (i < 0) || decide (i ≥ 256)) = true then _ else _) = _
    rw [hc]
    simp
  rw [this]; rfl

theorem VRs.ints {D : DM} : ∀ {ns : List Int} {vals : List Value}, VRs D (ns.map V.int) vals → IntsAre vals ns
  | [], _, .nil => .nil
  | _ :: _, _, .cons h hs => by cases h; exact .cons _ _ hs.ints

noncomputable def isStrP : V → V → Bool
  | .str _, .str _ => true
  | _, _ => false
theorem fIn_inv {a b : V} {Q : V → St → Prop} {E : Prop} {σ : St} (h : fIn a b Q E σ) : (∃ x y, a = .int x ∧ b = .bytes y) ∨ (∃ x y, a = .int x ∧ b = .tup y) ∨ (∃ x y, a = .str x ∧ b = .str y) := by
  cases a <;> first | exact h.elim | (cases b <;> first | exact h.elim | exact .inl ⟨_, _, rfl, rfl⟩ | exact .inr (.inl ⟨_, _, rfl, rfl⟩) | exact .inr (.inr (⟨_, _, rfl, rfl⟩)))
theorem isStrP_inv {a b : V} (h : isStrP a b = true) : ∃ x y, a = .str x ∧ b = .str y := by
  cases a <;> first | exact Bool.noConfusion h | (cases b <;> first | exact Bool.noConfusion h | exact ⟨_, _, rfl, rfl⟩)
theorem contains_ok {c : FC} {A : Around} {D : DM} {σ : St} {s : Shared} {a b : V} {va vb : Value} {QV : V → St → Prop} {EV : Prop} {Q : Bool → Shared → Prop} {E : Value → Shared → Prop} (P : Pre X k c A D σ s) (h1 : VR D a va) (h2 : VR D b vb) (h3 : fIn a b QV EV σ) (hn : isStrP a b = false)
    (hQ : ∀ q, QV (.bool q) σ → Q q s) : wpAny (model P0 X.w) A (contains vb va) Q E s := by
  rcases fIn_inv h3 with ⟨i, l, rfl, rfl⟩ | ⟨i, vs, rfl, rfl⟩ | ⟨i, l, rfl, rfl⟩
  · obtain ⟨t, rfl⟩ := h1.int_inv
    obtain ⟨u, rfl⟩ := h2.bytes_inv
    obtain ⟨g0, g1, g2⟩ := h3
    unfold contains
    refine wpAny_holding ?_
    refine wpAny_bind (wpAny_specialOf (typeIs_bytes _ _ _) FB.slot_bytes_contains.lookup ?_)
    rw [if_neg (by decide)]
    refine wpAny_bind (wpAny_callSpecialUnlessNone?_slot (name := Str.ofString "__contains__") (typeIs_bytes _ _ _) FB.slot_bytes_contains ?_)
    exact call_gives FB.slot_bytes_contains (typeIs_bytes _ _ _) FB.entry_bytes_contains (FB.args_bytes_contains_2 _ _) (gives_contains g0 g1) (wpAny_truthy_bool (hQ _ g2))
  · obtain ⟨t, rfl⟩ := h1.int_inv
    obtain ⟨vals, l, n, rfl, hl, hvs⟩ := h2.tup_inv
    obtain ⟨ns, rfl, hq⟩ := h3
    exact contains_tuple_ints ⟨_, P.rel.kD _ _ hl, rfl, _, rfl⟩ (by simpa using hvs.ints) (hQ _ hq)
  · cases hn

theorem tb_in : TB X k (compareOp .In) fIn :=
  fun c A D σ s a b va vb QV EV Q E P h1 h2 h3 O OE => by
    cases hn : isStrP a b with
    | false =>
      show wpAny _ _ (do return .bool (← contains vb va)) Q E s
      exact wpAny_bind (contains_ok P h1 h2 h3 hn fun q hq => wpAny_pure (O _ _ D σ _ P.rel (DM.le_refl D) (.bool q) hq))
    | true =>
      obtain ⟨x, y, rfl, rfl⟩ := isStrP_inv hn
      obtain ⟨t, rfl⟩ := h1.str_inv
      obtain ⟨u, rfl⟩ := h2.str_inv
      exact SB.contains (O _ _ D σ _ P.rel (DM.le_refl D) (.bool _) h3)
theorem tb_notin : TB X k (compareOp .NotIn) fNotIn :=
  fun c A D σ s a b va vb QV EV Q E P h1 h2 h3 O OE => by
    cases hn : isStrP a b with
    | false =>
      show wpAny _ _ (do return .bool (!(← contains vb va))) Q E s
      exact wpAny_bind (contains_ok P h1 h2 h3 hn fun q hq => wpAny_pure (O _ _ D σ _ P.rel (DM.le_refl D) (.bool (!q)) hq))
    | true =>
      obtain ⟨x, y, rfl, rfl⟩ := isStrP_inv hn
      obtain ⟨t, rfl⟩ := h1.str_inv
      obtain ⟨u, rfl⟩ := h2.str_inv
      exact SB.notContains (O _ _ D σ _ P.rel (DM.le_refl D) (.bool _) h3)
end
end Mine
end

section
open PySem PySem.W PyProof.Rows PySem.Calls
namespace Mine

noncomputable def fItem : V → V → W V
  | .bytes l, .int i => fun Q _ σ => ∃ c, 0 ≤ i ∧ l[i.toNat]? = some c ∧ l.length ≤ 16777216 ∧ Q (.int (c.toNat : Int)) σ
  | .list vs, .int i => fun Q _ σ => ∃ v, 0 ≤ i ∧ i < 16777216 ∧ vs[i.toNat]? = some v ∧ Q v σ
  | .tup vs, .int i => fun Q _ σ => ∃ v, 0 ≤ i ∧ i < 16777216 ∧ vs[i.toNat]? = some v ∧ Q v σ
  | .raw (.ref a), .int i => fun Q _ σ => ∃ vs v, (a, .list vs) ∈ σ.objs ∧ 0 ≤ i ∧ i < 16777216 ∧ vs[i.toNat]? = some v ∧ Q v σ
  | _, _ => wNo

section
variable {X : Cx} {k : Nat} {env : Env}

theorem tail_ok {A : Around} {s : Shared} {value slice : Expr} {o i : Value} {ops : List Value} {T id : String} {Q : Value → Shared → Prop} {E : Value → Shared → Prop} (hT : s.TypeIs o T)
    (hl : typeLookup (.type T) "__getitem__" = pure (some (.builtin id))) (hs : subscripted slice false o i = operate ops (getItem o i)) (h : wpAny (model P0 X.w) A (getItem o i) Q E s) : wpAny (model P0 X.w) A (subscriptTail value slice o i) Q E s := by
  unfold subscriptTail
  refine wpAny_bind ?_
  rw [getitemInPython_of_ne hT.not_modules]
  refine wpAny_bind (wpAny_specialOf hT hl ?_)
  have fin : wpAny (model P0 X.w) A (subscripted slice false o i) (fun r s₃ => wpAny (model P0 X.w) A (letTemporaryGo value o r >>= fun _ => pure r) Q E s₃) E s := by
    rw [hs]
    exact wpAny_operating (wpAny_mono h (fun r s₃ h₃ => wpAny_bind (wpAny_letTemporaryGo (wpAny_pure h₃))) fun _ _ x => x)
  first
    | exact wpAny_pure (wpAny_bind fin)
    | exact wpAny_bind (wpAny_pure (wpAny_bind fin))
    | exact wpAny_bind fin

theorem seqIdx {i : Int} {n : Nat} (h0 : 0 ≤ i) (h1 : i.toNat < n) : seqIndex? i n = some i.toNat := by
  have hn : ¬ i < 0 := by (first | lia | omega)
  have h2 : i < n := by (first | lia | omega)
  simp [seqIndex?, hn, h0, h2]

theorem te_sub {value slice : Expr} {pos : Pos} {dv di : W V} (hv : TE X k env value dv) (hi : TE X k env slice di) (hs : ∀ o i, subscripted slice false o i = operate [o, i] (getItem o i) := by intro _ _; rfl) :
    TE X k env (.Subscript value slice pos) (wBin dv di fItem) :=
  fun c A D σ s QV EV Q E hc P h O OE => by
    refine g_Subscript (hv c A D σ s _ EV _ E hc P h (fun a va D1 σ1 s1 R1 l1 v1 h1 => hi c A D1 σ1 s1 _ EV _ E hc (P.to R1) h1 (fun b vb D2 σ2 s2 R2 l2 v2 h2 => ?_) OE) OE)
    have v1' := v1.mono l2
    have OO := O.le (DM.le_trans l1 l2)
    cases v1' <;> first | exact h2.elim | skip
    · cases v2 <;> first | exact h2.elim | skip
      obtain ⟨c', g0, g1, g2, g3⟩ := h2
      rename_i l t i u
      have hlt := (List.getElem?_eq_some_iff.mp g1).1
      refine tail_ok (typeIs_bytes _ _ _) FB.slot_bytes_getitem.lookup (hs _ _) (PySem.W.getItem_bytes (Nat.le_trans g2 (by decide)) g0 (by (first | lia | omega)) ?_)
      have e : (l.getD i.toNat 0) = c' := by simp [List.getD, g1]
      rw [e]
      exact OO _ _ D2 σ2 _ (R2.toks _) (DM.le_refl _) (.int _ _) g3
    · cases v2 <;> first | exact h2.elim | skip
      obtain ⟨v, g0, g1, g2, g3⟩ := h2
      rename_i vs vals l n hl hvs i u
      have il : s2.heap.IsTuple l vals.toArray := ⟨_, R2.kD _ _ hl, rfl, _, rfl⟩
      obtain ⟨x, e1, e2⟩ := hvs.get g2
      have hlt := (List.getElem?_eq_some_iff.mp e1).1
      refine tail_ok il.typeIs PySem.F.slot_tuple_getitem.lookup (hs _ _) (PyProof.Rows.getItem_tuple (j := i.toNat) (x := x) il (by (first | lia | omega)) (by (first | lia | omega)) ?_ (by simpa using e1) ?_)
      · exact seqIdx g0 (by simpa using hlt)
      · exact OO _ _ D2 σ2 _ R2 (DM.le_refl _) e2 g3
    · cases v2 <;> first | exact h2.elim | skip
      obtain ⟨v, g0, g1, g2, g3⟩ := h2
      rename_i vs vals l n hl hvs i u
      have il : s2.heap.IsList l vals.toArray := ⟨_, R2.kD _ _ hl, rfl, _, rfl⟩
      obtain ⟨x, e1, e2⟩ := hvs.get g2
      refine tail_ok il.typeIs slot_list_getitem.lookup (hs _ _) (wpAny_getItem_list il g0 (by (first | lia | omega)) (by simpa using e1) ?_)
      exact OO _ _ D2 σ2 _ R2 (DM.le_refl _) e2 g3
    · cases va <;> first | exact h2.elim | skip
      cases v2 <;> first | exact h2.elim | skip
      obtain ⟨vs, v, gm, g0, g1, g2, g3⟩ := h2
      obtain ⟨vals, n, hl, hvs⟩ := R2.obj _ gm
      have il : s2.heap.IsList _ vals.toArray := ⟨_, hl, rfl, _, rfl⟩
      obtain ⟨x, e1, e2⟩ := hvs.get g2
      refine tail_ok il.typeIs slot_list_getitem.lookup (hs _ _) (wpAny_getItem_list il g0 (by (first | lia | omega)) (by simpa using e1) ?_)
      exact OO _ _ D2 σ2 _ R2 (DM.le_refl _) e2 g3

noncomputable def sliceB (l : List UInt8) (i j : Int) : List UInt8 := (l.drop i.toNat).take (j.toNat - i.toNat)

theorem picked_nat (l : List UInt8) (i j : Int) (h0 : 0 ≤ i) (h1 : 0 ≤ j) : KBy.picked l.toArray (some i) (some j) = (sliceB l i j).toArray := by
  rw [KBc.picked_eq]
  congr 1
  have cl : ∀ x : Int, 0 ≤ x → clipAt l.toArray.size x = min x.toNat l.length := fun x hx => by
    unfold clipAt
    simp only [List.size_toArray]
    rw [if_neg (by (first | lia | omega))]
    (first | lia | omega)
  show List.take _ (List.drop _ _) = _
  simp only [Option.elim_some, cl i h0, cl j h1]
  unfold sliceB
  by_cases hi : i.toNat ≤ l.length
  · rw [Nat.min_eq_left hi]
    by_cases hj : j.toNat ≤ l.length
    · rw [Nat.min_eq_left hj]
    · rw [Nat.min_eq_right (by (first | lia | omega))]
      rw [List.take_of_length_le (by simp), List.take_of_length_le (by simp; (first | lia | omega))]
  · rw [Nat.min_eq_right (show l.length ≤ i.toNat by (first | lia | omega)), List.drop_of_length_le (show l.length ≤ l.length from Nat.le_refl _), List.drop_of_length_le (show l.length ≤ i.toNat by (first | lia | omega))]
    simp

noncomputable abbrev kS3 (a b : V) (QV : V → St → Prop) : V → St → Prop := fun c σ => ∃ l i j, a = .bytes l ∧ b = .int i ∧ c = .int j ∧ 0 ≤ i ∧ 0 ≤ j ∧ l.length ≤ 16777216 ∧ QV (.bytes (sliceB l i j)) σ
noncomputable abbrev kS2 (dh : W V) (a : V) (QV : V → St → Prop) (EV : Prop) : V → St → Prop := fun b σ => dh (kS3 a b QV) EV σ
noncomputable abbrev kS1 (dl dh : W V) (QV : V → St → Prop) (EV : Prop) : V → St → Prop := fun a σ => dl (kS2 dh a QV EV) EV σ
noncomputable abbrev wSl (dv dl dh : W V) : W V := fun QV EV σ => dv (kS1 dl dh QV EV) EV σ
theorem te_bslice {value lo hi : Expr} {p pos : Pos} {dv dl dh : W V} (hv : TE X k env value dv) (hl : TE X k env lo dl) (hh : TE X k env hi dh) :
    TE X k env (.Subscript value (.Slice (some lo) (some hi) none p) pos) (wSl dv dl dh) :=
  fun c A D σ s QV EV Q E hc P h O OE => by
    refine g_Subscript (hv c A D σ s _ EV _ E hc P h (fun a va D1 σ1 s1 R1 l1 v1 h1 => g_Slice ?_) OE)
    show wpG _ _ A (eval lo env) _ E s1
    refine hl c A D1 σ1 s1 _ EV _ E hc (P.to R1) h1 (fun b vb D2 σ2 s2 R2 l2 v2 h2 => ?_) OE
    show wpG _ _ A (eval hi env) _ E s2
    refine hh c A D2 σ2 s2 _ EV _ E hc (P.to R2) h2 (fun c' vc D3 σ3 s3 R3 l3 v3 h3 => ?_) OE
    obtain ⟨l, i, j, rfl, rfl, rfl, g0, g1, g2, g3⟩ := h3
    cases v1; cases v2; cases v3
    rename_i t1 t2 t3
    refine g_pure ?_
    refine tail_ok (ops := [.ref s3.heap.objs.size, .bytes l.toArray t1]) (typeIs_bytes _ _ _) FB.slot_bytes_getitem.lookup rfl ?_
    refine getItem_meets (typeIs_bytes _ _ _) (by decide) FB.slot_bytes_getitem FB.entry_bytes_getitem (FB.args_bytes_getitem_2 _ _) (KBc.meets_slice2 l.toArray t1 _ (.int i t2) (.int j t3))
      ⟨Heap.IsSliceOf.new _ _ _ _, Nat.le_trans (KBc.size_picked_le _ _ _) (by simpa using Nat.le_trans g2 (by decide)), fun t' kk => ?_⟩
    rw [picked_nat l i j g0 g1]
    refine O _ _ D3 σ3 _ ((R3.keep (t' := kk) (h' := s3.heap.push _) fun a o e => Heap.get?_push_of_some _ e)) (DM.le_trans l1 (DM.le_trans l2 l3)) (.bytes _ _) g3
end
end Mine
end

section
open PySem PySem.W PyProof.Rows PySem.Calls
namespace Mine

noncomputable def ck : Value → Nat
  | .ref a => if a = 124 then 4 else 0
  | .type s => if s = "bytes" then 2 else if s = "list" then 3 else 0
  | _ => 0
noncomputable def tk : V → Nat
  | .int _ => 1
  | .bytes _ => 2
  | .list _ => 3
  | .atom _ => 4
  | _ => 0
noncomputable def isiOne (v : V) (c : Value) : Option Bool := if tk v = 0 ∨ ck c = 0 then none else some (tk v == ck c)
theorem ck_inv {c : Value} (h : ck c ≠ 0) : c = .ref 124 ∨ c = .type "bytes" ∨ c = .type "list" := by
  cases c <;> first | exact absurd rfl h | skip
  · rename_i s
    by_cases e : s = "bytes"
    · exact .inr (.inl (e ▸ rfl))
    · by_cases e' : s = "list"
      · exact .inr (.inr (e' ▸ rfl))
      · exact absurd ((if_neg e).trans (if_neg e')) h
  · rename_i a
    by_cases e : a = 124
    · exact .inl (e ▸ rfl)
    · exact absurd (if_neg e) h
noncomputable def tyV : V → Option Value
  | .int _ => some (.type "int")
  | .bytes _ => some (.type "bytes")
  | .list _ => some (.type "list")
  | .atom _ => some (.ref 124)
  | _ => none

theorem kit_int_124 (P : Params) : kitOne (hd.heap_39 P) (.type "int") (.ref 124) = some false := by kernel_rfl
theorem kit_bytes_124 (P : Params) : kitOne (hd.heap_39 P) (.type "bytes") (.ref 124) = some false := by kernel_rfl
theorem kit_list_124 (P : Params) : kitOne (hd.heap_39 P) (.type "list") (.ref 124) = some false := by kernel_rfl
theorem kit_atom_124 (P : Params) : kitOne (hd.heap_39 P) (.ref 124) (.ref 124) = some true := by kernel_rfl
theorem kit_int_bytes (P : Params) : kitOne (hd.heap_39 P) (.type "int") (.type "bytes") = some false := by kernel_rfl
theorem kit_bytes_bytes (P : Params) : kitOne (hd.heap_39 P) (.type "bytes") (.type "bytes") = some true := by kernel_rfl
theorem kit_list_bytes (P : Params) : kitOne (hd.heap_39 P) (.type "list") (.type "bytes") = some false := by kernel_rfl
theorem kit_atom_bytes (P : Params) : kitOne (hd.heap_39 P) (.ref 124) (.type "bytes") = some false := by kernel_rfl
theorem kit_int_list (P : Params) : kitOne (hd.heap_39 P) (.type "int") (.type "list") = some false := by kernel_rfl
theorem kit_bytes_list (P : Params) : kitOne (hd.heap_39 P) (.type "bytes") (.type "list") = some false := by kernel_rfl
theorem kit_list_list (P : Params) : kitOne (hd.heap_39 P) (.type "list") (.type "list") = some true := by kernel_rfl
theorem kit_atom_list (P : Params) : kitOne (hd.heap_39 P) (.ref 124) (.type "list") = some false := by kernel_rfl
theorem kit_int_lt (P : Params) : kitAny (hd.heap_39 P) (.type "int") [.type "list", .type "tuple"] = some false := by kernel_rfl
theorem kit_list_lt (P : Params) : kitAny (hd.heap_39 P) (.type "list") [.type "list", .type "tuple"] = some true := by kernel_rfl
theorem kitx_atom (P : Params) {x d : Addr} {od : Obj} : KitX (hd.heap_39 P) (.ref x) (.ref 124) (fun h => InstAt h x (instObj 124 d) 124 (some od)) := kitx_own (by kernel_rfl) (by kernel_rfl) (by kernel_rfl) (by kernel_rfl) (by kernel_rfl) (by kernel_rfl)

theorem isiOne_ok {v : V} {c : Value} {b : Bool} (h : isiOne v c = some b) (P : Params) : ∃ t, tyV v = some t ∧ kitOne (hd.heap_39 P) t c = some b := by
  unfold isiOne at h
  by_cases h0 : tk v = 0 ∨ ck c = 0
  · rw [if_pos h0] at h; cases h
  rw [if_neg h0] at h
  obtain ⟨h1, h2⟩ := not_or.mp h0
  obtain rfl := Option.some.inj h
  clear h h0
  rcases ck_inv h2 with rfl | rfl | rfl <;> clear h2 <;> cases v <;> first | exact absurd rfl h1 | clear h1
  · exact ⟨_, rfl, kit_int_124 P⟩
  · exact ⟨_, rfl, kit_bytes_124 P⟩
  · exact ⟨_, rfl, kit_list_124 P⟩
  · exact ⟨_, rfl, kit_atom_124 P⟩
  · exact ⟨_, rfl, kit_int_bytes P⟩
  · exact ⟨_, rfl, kit_bytes_bytes P⟩
  · exact ⟨_, rfl, kit_list_bytes P⟩
  · exact ⟨_, rfl, kit_atom_bytes P⟩
  · exact ⟨_, rfl, kit_int_list P⟩
  · exact ⟨_, rfl, kit_bytes_list P⟩
  · exact ⟨_, rfl, kit_list_list P⟩
  · exact ⟨_, rfl, kit_atom_list P⟩

section
variable {X : Cx} {k : Nat} {env : Env}

theorem kitV {D : DM} {v : V} {vv t : Value} (P : Params) (h : VR D v vv) (ht : tyV v = some t) : ∃ H, KitX (hd.heap_39 P) vv t H ∧ (∀ h, (∀ a o, D a = some o → h.get? a = some o) → H h) ∧ vv ≠ .builtin "__main__.__loader__#opaque" := by
  cases h <;> first | cases ht | skip
  · exact ⟨_, kitx_int, fun _ _ => trivial, by simp⟩
  · exact ⟨_, kitx_bytes, fun _ _ => trivial, by simp⟩
  · rename_i hl _; exact ⟨_, kitx_list, fun h k => ⟨_, k _ _ hl, rfl⟩, by simp⟩
  · rename_i h1 h2
    exact ⟨_, kitx_atom P, fun h k => ⟨k _ _ h1, rfl, rfl, k _ _ h2⟩, by simp⟩

noncomputable def wIsi : List V → W V
  | [v, .raw c] => fun Q _ σ => match isiOne v c with | some b => Q (.bool b) σ | none => False
  | [v, .tup cs] => fun Q _ σ => cs = [.raw (.type "list"), .raw (.type "tuple")] ∧ match v with | .int _ => Q (.bool false) σ | .list _ => Q (.bool true) σ | _ => False
  | _ => wNo

theorem wIsi_inv {vs : List V} {Q : V → St → Prop} {E : Prop} {σ : St} (h : wIsi vs Q E σ) : (∃ v c, vs = [v, .raw c]) ∨ ∃ v cs, vs = [v, .tup cs] := by
  rcases vs with _ | ⟨v, vs⟩
  · exact h.elim
  rcases vs with _ | ⟨w, vs⟩
  · exact h.elim
  cases w <;> first | exact h.elim | skip
  all_goals
    rcases vs with _ | ⟨w, vs⟩
    · first | exact .inl ⟨_, _, rfl⟩ | exact .inr ⟨_, _, rfl⟩
    · exact h.elim
theorem tf_isi : TF X k (.builtin "isinstance") wIsi := ⟨cw_bltn, fun c A D σ s vs vals QV EV Q E P hv h O OE => g_of <| by
  have XX := kIn P
  rcases wIsi_inv h with ⟨v, c', rfl⟩ | ⟨v, cs, rfl⟩ <;> obtain ⟨x, y, rfl, h1, hy⟩ := hv.two
  · obtain rfl := hy.raw_inv
    have h : (match isiOne v y with | some b => QV (.bool b) σ | none => False) := h
    cases hb : isiOne v y with
    | none => rw [hb] at h; exact h.elim
    | some b =>
      rw [hb] at h
      obtain ⟨t, ht, hk⟩ := isiOne_ok hb X.w.params
      obtain ⟨H, Z, hH, hx⟩ := kitV X.w.params h1 ht
      exact kia_one Z XX (hH _ P.rel.kD) hk hx fun tk => O _ _ D σ _ (P.rel.toks _) (DM.le_refl D) (.bool b) h
  · obtain ⟨vals', l, n, rfl, hl, hcs⟩ := hy.tup_inv
    obtain ⟨rfl, h⟩ := h
    cases hcs with
    | cons q1 hcs =>
    cases hcs with
    | cons q2 hcs =>
    cases hcs
    cases q1; cases q2
    cases v <;> first | exact h.elim | skip
    · obtain ⟨H, Z, hH, hx⟩ := kitV (t := .type "int") X.w.params h1 rfl
      exact kia_tup Z XX (hH _ P.rel.kD) (P.rel.kD _ _ hl) (kit_int_lt _) hx fun tk => O _ _ D σ _ (P.rel.toks _) (DM.le_refl D) (.bool false) h
    · obtain ⟨H, Z, hH, hx⟩ := kitV (t := .type "list") X.w.params h1 rfl
      exact kia_tup Z XX (hH _ P.rel.kD) (P.rel.kD _ _ hl) (kit_list_lt _) hx fun tk => O _ _ D σ _ (P.rel.toks _) (DM.le_refl D) (.bool true) h⟩

/-! ### len, range, chr, ord -/
noncomputable def wLen : List V → W V
  | [.bytes l] => fun Q _ σ => l.length ≤ 16777216 ∧ Q (.int l.length) σ
  | [.str l] => fun Q _ σ => l.length ≤ 16777216 ∧ Q (.int l.length) σ
  | [.list vs] => fun Q _ σ => vs.length ≤ 16777216 ∧ Q (.int vs.length) σ
  | [.raw (.ref a)] => fun Q _ σ => ∃ vs, (a, MO.list vs) ∈ σ.objs ∧ vs.length ≤ 16777216 ∧ Q (.int vs.length) σ
  | _ => wNo
theorem wLen_inv {vs : List V} {Q : V → St → Prop} {E : Prop} {σ : St} (h : wLen vs Q E σ) : (∃ l, vs = [.bytes l]) ∨ (∃ l, vs = [.str l]) ∨ (∃ l, vs = [.list l]) ∨ ∃ a, vs = [.raw (.ref a)] := by
  rcases vs with _ | ⟨v, vs⟩
  · exact h.elim
  cases v <;> first | exact h.elim | skip
  case raw v =>
    cases v <;> first | exact h.elim | skip
    rcases vs with _ | ⟨w, vs⟩
    · exact .inr (.inr (.inr ⟨_, rfl⟩))
    · exact h.elim
  all_goals
    rcases vs with _ | ⟨w, vs⟩
    · first | exact .inl ⟨_, rfl⟩ | exact .inr (.inl ⟨_, rfl⟩) | exact .inr (.inr (.inl ⟨_, rfl⟩))
    · exact h.elim
theorem tf_len : TF X k (.builtin "len") wLen := ⟨cw_bltn, fun c A D σ s vs vals QV EV Q E P hv h O OE => g_of <| by
  rcases wLen_inv h with ⟨l, rfl⟩ | ⟨l, rfl⟩ | ⟨us, rfl⟩ | ⟨a, rfl⟩ <;> obtain ⟨x, rfl, hx⟩ := hv.one
  · obtain ⟨t, rfl⟩ := hx.bytes_inv
    refine PySem.W.len_bytes (by simp; exact Nat.le_trans h.1 (by decide)) ?_
    have := O _ _ D σ _ (P.rel.toks (s.toks + 1 + 1)) (DM.le_refl D) (.int l.length (s.toks + 1)) h.2
    simpa using this
  · obtain ⟨t, rfl⟩ := hx.str_inv
    refine PySem.P.len_str (by rw [strD_len]; have : l.length ≤ 16777216 := h.1; (first | lia | omega)) ?_
    rw [strD_len]
    exact O _ _ D σ _ (P.rel.toks (s.toks + 1 + 1)) (DM.le_refl D) (.int l.length (s.toks + 1)) h.2
  · obtain ⟨vals', a, n, rfl, hl, hus⟩ := hx.list_inv
    have hsz : vals'.toArray.size = us.length := by simpa using hus.length
    refine call_len_list (items := vals'.toArray) ⟨_, P.rel.kD _ _ hl, rfl, _, rfl⟩ (by rw [hsz]; have : us.length ≤ 16777216 := h.1; (first | lia | omega)) ?_
    rw [hsz]
    exact O _ _ D σ _ (P.rel.toks (s.toks + 1 + 1)) (DM.le_refl D) (.int us.length (s.toks + 1)) h.2
  · obtain rfl := hx.raw_inv
    obtain ⟨us, hm, hlen, hq⟩ := h
    obtain ⟨vals', n, hl, hus⟩ := P.rel.obj _ hm
    have hsz : vals'.toArray.size = us.length := by simpa using hus.length
    refine call_len_list (items := vals'.toArray) ⟨_, hl, rfl, _, rfl⟩ (by rw [hsz]; (first | lia | omega)) ?_
    rw [hsz]
    exact O _ _ D σ _ (P.rel.toks (s.toks + 1 + 1)) (DM.le_refl D) (.int us.length (s.toks + 1)) hq⟩

noncomputable def wRange : List V → W V
  | [.int n] => wVal (.range 0 n)
  | [.int a, .int b] => wVal (.range a b)
  | _ => wNo
theorem wRange_inv {vs : List V} {Q : V → St → Prop} {E : Prop} {σ : St} (h : wRange vs Q E σ) : (∃ n, vs = [.int n]) ∨ ∃ a b, vs = [.int a, .int b] := by
  rcases vs with _ | ⟨v, vs⟩
  · exact h.elim
  cases v <;> first | exact h.elim | skip
  rcases vs with _ | ⟨v, vs⟩
  · exact .inl ⟨_, rfl⟩
  cases v <;> first | exact h.elim | skip
  rcases vs with _ | ⟨v, vs⟩
  · exact .inr ⟨_, _, rfl⟩
  · exact h.elim
theorem tf_range : TF X k (.type "range") wRange := ⟨cw_type, fun c A D σ s vs vals QV EV Q E P hv h O OE => g_of <| by
  rcases wRange_inv h with ⟨n, rfl⟩ | ⟨a, b, rfl⟩
  · obtain ⟨x, rfl, hx⟩ := hv.one
    obtain ⟨t, rfl⟩ := hx.int_inv
    refine call_range_1 ?_
    obtain ⟨R2, l2⟩ := Rel.newD P (t' := s.toks + 1 + 1) (pushed s.heap { cls := .type "range", data := .fields #[.int 0 s.toks, .int n t, .int 1 (s.toks + 1)] } rfl) (none_at (Nat.le_refl _)) fun b o e => Heap.get?_push_of_some _ e
    exact O (.range 0 n) _ _ σ _ R2 l2 (.range (DM.put_same _ _ _)) h
  · obtain ⟨x, y, rfl, hx, hy⟩ := hv.two
    obtain ⟨t, rfl⟩ := hx.int_inv
    obtain ⟨u, rfl⟩ := hy.int_inv
    refine call_range_2 ?_
    obtain ⟨R2, l2⟩ := Rel.newD P (t' := s.toks + 1) (pushed s.heap { cls := .type "range", data := .fields #[.int a t, .int b u, .int 1 s.toks] } rfl) (none_at (Nat.le_refl _)) fun b o e => Heap.get?_push_of_some _ e
    exact O (.range a b) _ _ σ _ R2 l2 (.range (DM.put_same _ _ _)) h⟩

noncomputable def wChr : List V → W V
  | [.int i] => fun Q _ σ => 0 ≤ i ∧ i ≤ 1114111 ∧ Q (.str [i.toNat]) σ
  | _ => wNo
theorem wChr_inv {vs : List V} {Q : V → St → Prop} {E : Prop} {σ : St} (h : wChr vs Q E σ) : ∃ i, vs = [.int i] := by
  rcases vs with _ | ⟨v, vs⟩
  · exact h.elim
  cases v <;> first | exact h.elim | skip
  rcases vs with _ | ⟨v, vs⟩
  case cons => exact h.elim
  exact ⟨_, rfl⟩
theorem tf_chr : TF X k (.builtin "chr") wChr := ⟨cw_bltn, fun c A D σ s vs vals QV EV Q E P hv h O OE => g_of <| by
    obtain ⟨i, rfl⟩ := wChr_inv h
    obtain ⟨x, rfl, hx⟩ := hv.one
    obtain ⟨t, rfl⟩ := hx.int_inv
    exact chr_of_range h.1 h.2.1 (O (.str [i.toNat]) _ D σ _ (P.rel.toks (s.toks + 1)) (DM.le_refl D) (.str _ _) h.2.2)⟩
noncomputable def wOrd : List V → W V
  | [.str [c]] => wVal (.int (c : Int))
  | _ => wNo
theorem wOrd_inv {vs : List V} {Q : V → St → Prop} {E : Prop} {σ : St} (h : wOrd vs Q E σ) : ∃ c, vs = [.str [c]] := by
  rcases vs with _ | ⟨v, vs⟩
  · exact h.elim
  cases v <;> first | exact h.elim | skip
  rename_i l; rcases l with _ | ⟨c, l⟩
  · exact h.elim
  rcases l with _ | ⟨c2, l⟩
  case cons => exact h.elim
  rcases vs with _ | ⟨v, vs⟩
  case cons => exact h.elim
  exact ⟨_, rfl⟩
theorem tf_ord : TF X k (.builtin "ord") wOrd := ⟨cw_bltn, fun c A D σ s vs vals QV EV Q E P hv h O OE => g_of <| by
    obtain ⟨c', rfl⟩ := wOrd_inv h
    obtain ⟨x, rfl, hx⟩ := hv.one
    obtain ⟨t, rfl⟩ := hx.str_inv
    exact PySem.P.ord_of_char (O (.int (c' : Int)) _ D σ _ (P.rel.toks (s.toks + 1)) (DM.le_refl D) (.int _ _) h)⟩

/-! ### bytes of a list of ints -/
noncomputable def bytesN (ns : List Int) : List UInt8 := ns.map fun n => n.toNat.toUInt8
noncomputable def wBytesL : List V → W V
  | [.list vs] => fun Q _ σ => ∃ ns : List Int, vs = ns.map V.int ∧ (∀ n ∈ ns, 0 ≤ n ∧ n < 256) ∧ ns.length ≤ 16777216 ∧ Q (.bytes (bytesN ns)) σ
  | _ => wNo
theorem wBytesL_inv {vs : List V} {Q : V → St → Prop} {E : Prop} {σ : St} (h : wBytesL vs Q E σ) : ∃ l, vs = [.list l] := by
  rcases vs with _ | ⟨v, vs⟩
  · exact h.elim
  cases v <;> first | exact h.elim | skip
  rcases vs with _ | ⟨v, vs⟩
  case cons => exact h.elim
  exact ⟨_, rfl⟩
theorem bytesL_ok {c : FC} {A : Around} {D : DM} {σ : St} {s : Shared} {vs : List V} {vals : List Value} {QV : V → St → Prop} {EV : Prop} {Q : Value → Shared → Prop} {E : Value → Shared → Prop} (P : Pre X k c A D σ s) (hv : VRs D vs vals) (h : wBytesL vs QV EV σ) (O : Out X c D QV Q) :
    wpAny (model P0 X.w) A (call (.type "bytes") vals) Q E s := by
  obtain ⟨us, rfl⟩ := wBytesL_inv h
  obtain ⟨x, rfl, hx⟩ := hv.one
  obtain ⟨vals', a, n, rfl, hl, hus⟩ := hx.list_inv
  · obtain ⟨ns, rfl, hr, hz, hq⟩ := h
    have hi := hus.ints
    refine call_bytes_ints ⟨_, P.rel.kD _ _ hl, rfl, _, rfl⟩ hi hr (by rw [hi.length]; exact hz) P.hh fun h' t kk hk => ?_
    exact O (.bytes (bytesN ns)) _ D σ _ (P.rel.keep hk) (DM.le_refl D) (.bytes _ _) hq

/-! ### all, max, min, tuple -/
noncomputable def wAll : List V → W V
  | [.list vs] => fun Q _ σ => ∃ bs : List Bool, vs = bs.map V.bool ∧ Q (.bool (bs.all id)) σ
  | _ => wNo
theorem wAll_inv {vs : List V} {Q : V → St → Prop} {E : Prop} {σ : St} (h : wAll vs Q E σ) : ∃ l, vs = [.list l] := by
  rcases vs with _ | ⟨v, vs⟩
  · exact h.elim
  cases v <;> first | exact h.elim | skip
  rcases vs with _ | ⟨v, vs⟩
  case cons => exact h.elim
  exact ⟨_, rfl⟩
theorem tf_all : TF X k (.builtin "all") wAll := ⟨cw_bltn, fun c A D σ s vs vals QV EV Q E P hv h O OE => g_of <| by
    obtain ⟨us, rfl⟩ := wAll_inv h
    obtain ⟨x, rfl, hx⟩ := hv.one
    obtain ⟨vals', a, n, rfl, hl, hus⟩ := hx.list_inv
    obtain ⟨bs, rfl, hq⟩ := h
    refine call_all_walk (itOf_ok (X := X) (.list hl hus) rfl A.in1 s _ E P.rel.kD P.hh fun I o fp Pi St hI W hfp hfree hst0 hIo hP => ?_)
    refine ⟨I, fp, [I], (bs.map V.bool).length, Pi, St, fun i => bs.getD i false, rfl, W, hst0, fun i v s' Q' E' hv hq' => ?_, fun h' tk hk => ?_⟩
    · obtain ⟨x, hx, hvx⟩ := hP i v hv
      rw [List.getElem?_map] at hx
      cases e : bs[i]? with
      | none => rw [e] at hx; cases hx
      | some b =>
        rw [e] at hx; cases hx
        cases hvx
        refine wpAny_truthy_bool ?_
        simpa [List.getD, e] using hq'
    · have e : (List.range (bs.map V.bool).length).all (fun i => bs.getD i false) = bs.all id := by
        rw [List.length_map, Bool.eq_iff_iff, List.all_eq_true, List.all_eq_true]
        constructor
        · intro h b hb
          obtain ⟨i, hi, rfl⟩ := List.mem_iff_getElem.mp hb
          have := h i (List.mem_range.mpr hi)
          simpa [List.getD, List.getElem?_eq_getElem hi] using this
        · intro h i hi
          have hi' := List.mem_range.mp hi
          simpa [List.getD, List.getElem?_eq_getElem hi'] using h _ (List.getElem_mem hi')
      rw [e]
      have R2 := P.rel.keep (h' := h') (t' := tk) fun a o' e' => hk a o' (fun hm => by
        have := List.mem_singleton.mp hm
        rw [this, hI, none_at (Nat.le_refl _)] at e'; cases e') (Heap.get?_push_of_some _ e')
      exact O (.bool (bs.all id)) _ D σ _ R2 (DM.le_refl D) (.bool _) hq⟩

noncomputable def wMax : List V → W V
  | [.list vs] => fun Q _ σ => ∃ ns : List Int, vs = ns.map V.int ∧ ns ≠ [] ∧ ∀ m ∈ ns, (∀ n ∈ ns, n ≤ m) → Q (.int m) σ
  | _ => wNo
noncomputable def wMin : List V → W V
  | [.int a, .int b] => wVal (.int (if b < a then b else a))
  | _ => wNo
theorem wMin_inv {vs : List V} {Q : V → St → Prop} {E : Prop} {σ : St} (h : wMin vs Q E σ) : ∃ i j, vs = [.int i, .int j] := by
  rcases vs with _ | ⟨v, vs⟩
  · exact h.elim
  cases v <;> first | exact h.elim | skip
  rcases vs with _ | ⟨v, vs⟩
  · exact h.elim
  cases v <;> first | exact h.elim | skip
  rcases vs with _ | ⟨v, vs⟩
  case cons => exact h.elim
  exact ⟨_, _, rfl⟩
theorem tf_min : TF X k (.builtin "min") wMin := ⟨cw_bltn, fun c A D σ s vs vals QV EV Q E P hv h O OE => g_of <| by
    obtain ⟨a, b, rfl⟩ := wMin_inv h
    obtain ⟨x, y, rfl, hx, hy⟩ := hv.two
    obtain ⟨t, rfl⟩ := hx.int_inv
    obtain ⟨u, rfl⟩ := hy.int_inv
    refine min_two_ints P.hh fun h' tk hk => ?_
    have R2 := P.rel.keep (t' := tk) hk
    have h : QV (.int (if b < a then b else a)) σ := h
    split at h
    · rename_i q; rw [if_pos q]; exact O (.int b) _ D σ _ R2 (DM.le_refl D) (.int _ _) h
    · rename_i q; rw [if_neg q]; exact O (.int a) _ D σ _ R2 (DM.le_refl D) (.int _ _) h⟩
noncomputable def wTup : List V → W V
  | [.list vs] => fun Q _ σ => vs.length ≤ 16777216 ∧ Q (.tup vs) σ
  | _ => wNo
theorem wTup_inv {vs : List V} {Q : V → St → Prop} {E : Prop} {σ : St} (h : wTup vs Q E σ) : ∃ l, vs = [.list l] := by
  rcases vs with _ | ⟨v, vs⟩
  · exact h.elim
  cases v <;> first | exact h.elim | skip
  rcases vs with _ | ⟨v, vs⟩
  case cons => exact h.elim
  exact ⟨_, rfl⟩
theorem tf_tuple : TF X k (.type "tuple") wTup := ⟨cw_type, fun c A D σ s vs vals QV EV Q E P hv h O OE => g_of <| by
    obtain ⟨us, rfl⟩ := wTup_inv h
    obtain ⟨x, rfl, hx⟩ := hv.one
    obtain ⟨vals', a, n, rfl, hl, hus⟩ := hx.list_inv
    refine call_tuple_list (items := vals'.toArray) ⟨_, P.rel.kD _ _ hl, rfl, _, rfl⟩ (fun h' hk => ?_) (by simp; rw [hus.length]; exact Nat.le_trans h.1 (by decide))
    have R1 := P.rel.keep (h' := h') (t' := s.toks) hk
    obtain ⟨R2, l2⟩ := Rel.newD (P.to R1) (t' := s.toks) (pushed h' { cls := .type "tuple", data := .seq vals'.toArray } rfl) (none_at (Nat.le_refl _)) fun b o e => Heap.get?_push_of_some _ e
    exact O (.tup us) _ _ σ _ R2 l2 (.tup (DM.put_same _ _ _) (hus.mono l2)) h.2⟩
end
end Mine
end

section
open PySem PySem.W PyProof.Rows PySem.Calls
namespace Mine

/-- figures of a number -/
noncomputable def figs (n : Nat) : List Nat := (Nat.toDigits 10 n).map Char.toNat
theorem ofString_num (m : Nat) : Str.ofString (toString ((m : Nat) : Int)) = strD (figs m) := by
  have := KIN.signs_num m
  cases h : (Str.ofString (toString ((m : Nat) : Int))) with
  | mk cps =>
    rw [h] at this
    show Str.mk cps = Str.mk _
    congr 1
    have e : cps = cps.toList.toArray := by simp
    rw [e]; congr 1

section
variable {X : Cx} {k : Nat} {env : Env}

noncomputable def wStr : List V → W V
  | [.int i] => fun Q _ σ => 0 ≤ i ∧ i.natAbs.log2 < 1920 ∧ Q (.str (figs i.toNat)) σ
  | _ => wNo
theorem wStr_inv {vs : List V} {Q : V → St → Prop} {E : Prop} {σ : St} (h : wStr vs Q E σ) : ∃ i, vs = [.int i] := by
  rcases vs with _ | ⟨v, vs⟩
  · exact h.elim
  cases v <;> first | exact h.elim | skip
  rcases vs with _ | ⟨v, vs⟩
  case cons => exact h.elim
  exact ⟨_, rfl⟩
theorem tf_str : TF X k (.type "str") wStr := ⟨cw_type, fun c A D σ s vs vals QV EV Q E P hv h O OE => g_of <| by
    obtain ⟨i, rfl⟩ := wStr_inv h
    obtain ⟨x, rfl, hx⟩ := hv.one
    obtain ⟨t, rfl⟩ := hx.int_inv
    obtain ⟨h0, h1, h2⟩ := h
    refine PySem.P.str_of_int h1 ?_
    obtain ⟨n, rfl⟩ := Int.eq_ofNat_of_zero_le h0
    rw [show Str.ofString (toString ((n : Nat) : Int)) = strD (figs n) from ofString_num n]
    exact O (.str (figs n)) _ D σ _ (P.rel.toks (s.toks + 1)) (DM.le_refl D) (.str _ _) h2⟩

noncomputable def wInt : List V → W V
  | [.str l] => fun Q _ σ => ∃ n : Int, PySem.intText? (strD l) = some n ∧ l.length ≤ 640 ∧ Q (.int n) σ
  | _ => wNo
theorem wInt_inv {vs : List V} {Q : V → St → Prop} {E : Prop} {σ : St} (h : wInt vs Q E σ) : ∃ l, vs = [.str l] := by
  rcases vs with _ | ⟨v, vs⟩
  · exact h.elim
  cases v <;> first | exact h.elim | skip
  rcases vs with _ | ⟨v, vs⟩
  case cons => exact h.elim
  exact ⟨_, rfl⟩
theorem tf_int : TF X k (.type "int") wInt := ⟨cw_type, fun c A D σ s vs vals QV EV Q E P hv h O OE => g_of <| by
    obtain ⟨l, rfl⟩ := wInt_inv h
    obtain ⟨x, rfl, hx⟩ := hv.one
    obtain ⟨t, rfl⟩ := hx.str_inv
    obtain ⟨n, h0, h1, h2⟩ := h
    exact KIN.call_text h0 (by rw [strD_len]; exact h1) (O (.int n) _ D σ _ (P.rel.toks (s.toks + 1)) (DM.le_refl D) (.int _ _) h2)⟩

theorem VRs.strs {D : DM} : ∀ {ys : List (List Nat)} {vals : List Value}, VRs D (ys.map V.str) vals → StrsAre vals (ys.map strD)
  | [], _, .nil => .nil
  | _ :: _, _, .cons h hs => by cases h; exact .cons _ _ hs.strs

/-- ''.join -/
noncomputable def wJoin0 : List V → W V
  | [.str [], .list vs] => fun Q _ σ => ∃ ys : List (List Nat), vs = ys.map V.str ∧ ys.flatten.length ≤ 16777216 ∧ Q (.str ys.flatten) σ
  | _ => wNo
theorem glued0 (ys : List (List Nat)) : Txt.join (strD []) (ys.map strD) = strD ys.flatten := by
  unfold Txt.join
  have go : ∀ (l : List (List Nat)) (acc : Array Nat), (l.map strD).foldl (fun acc p => acc ++ (strD []).cps ++ p.cps) acc = (acc.toList ++ l.flatten).toArray := by
    intro l
    induction l with
    | nil => intro acc; simp
    | cons y r ih => intro acc; rw [List.map_cons, List.foldl_cons, ih]; simp
  cases ys with
  | nil => rfl
  | cons y r =>
    rw [List.map_cons]
    show (⟨(r.map strD).foldl (fun acc p => acc ++ (strD []).cps ++ p.cps) (strD y).cps⟩ : Str) = _
    rw [go]
    simp
theorem wJoin0_inv {vs : List V} {Q : V → St → Prop} {E : Prop} {σ : St} (h : wJoin0 vs Q E σ) : ∃ l, vs = [.str [], .list l] := by
  rcases vs with _ | ⟨v, vs⟩
  · exact h.elim
  cases v <;> first | exact h.elim | skip
  rename_i l; rcases l with _ | ⟨c, l⟩
  case cons => exact h.elim
  rcases vs with _ | ⟨v, vs⟩
  · exact h.elim
  cases v <;> first | exact h.elim | skip
  rcases vs with _ | ⟨v, vs⟩
  case cons => exact h.elim
  exact ⟨_, rfl⟩
theorem tf_join0 : TF X k (.builtin "str.join") wJoin0 := ⟨cw_bltn, fun c A D σ s vs vals QV EV Q E P hv h O OE => g_of <| by
    obtain ⟨us, rfl⟩ := wJoin0_inv h
    obtain ⟨x, y, rfl, hx, hy⟩ := hv.two
    obtain ⟨t, rfl⟩ := hx.str_inv
    obtain ⟨vals', a, n, rfl, hl, hus⟩ := hy.list_inv
    obtain ⟨ys, rfl, h1, h2⟩ := h
    refine PyProof.Rows.join_list (x := strD []) (items := vals'.toArray) ⟨_, P.rel.kD _ _ hl, rfl, _, rfl⟩ (by simpa using hus.strs) ?_ fun t' kk => ?_
    · rw [strD_len, List.length_nil, Nat.mul_zero, Nat.add_zero, List.map_map]
      have : (ys.map ((fun x : Str => x.length) ∘ strD)).sum = ys.flatten.length := by
        rw [List.length_flatten]; congr 1
      rw [this]; exact h1
    · rw [glued0]
      exact O (.str ys.flatten) _ D σ _ (P.rel.toks _) (DM.le_refl D) (.str _ _) h2⟩

noncomputable def isStrV : V → St → Prop
  | .str _, _ => True
  | _, _ => False
theorem tm_str {name : Str} {id : String} (slot : Slot "str" name id) (ty : typeOf (.builtin id) = pure (.type "method_descriptor")) : TM X k name id isStrV :=
  fun c A D σ s v vv Q E pl P hv h hq => by
    cases hv <;> first | exact h.elim | skip
    exact getMethod_builtin (typeIs_str _ _ _) F.plainAttrs_str slot ty (fun _ e => nomatch e) hq
noncomputable def wIsdigit : List V → W V
  | [.str l] => wVal (.bool (Txt.isdigit (strD l)))
  | _ => wNo
theorem wIsdigit_inv {vs : List V} {Q : V → St → Prop} {E : Prop} {σ : St} (h : wIsdigit vs Q E σ) : ∃ l, vs = [.str l] := by
  rcases vs with _ | ⟨v, vs⟩
  · exact h.elim
  cases v <;> first | exact h.elim | skip
  rcases vs with _ | ⟨v, vs⟩
  case cons => exact h.elim
  exact ⟨_, rfl⟩
theorem tf_isdigit : TF X k (.builtin "str.isdigit") wIsdigit := ⟨cw_bltn, fun c A D σ s vs vals QV EV Q E P hv h O OE => g_of <| by
    obtain ⟨l, rfl⟩ := wIsdigit_inv h
    obtain ⟨x, rfl, hx⟩ := hv.one
    obtain ⟨t, rfl⟩ := hx.str_inv
    exact SC.isdigit (O (.bool _) _ D σ _ P.rel (DM.le_refl D) (.bool _) h)⟩
noncomputable def wLower : List V → W V
  | [.str l] => fun Q _ σ => Builtin.Str.tooLong (Txt.lower (strD l)).length = false ∧ Q (.str (Txt.lower (strD l)).cps.toList) σ
  | _ => wNo
theorem wLower_inv {vs : List V} {Q : V → St → Prop} {E : Prop} {σ : St} (h : wLower vs Q E σ) : ∃ l, vs = [.str l] := by
  rcases vs with _ | ⟨v, vs⟩
  · exact h.elim
  cases v <;> first | exact h.elim | skip
  rcases vs with _ | ⟨v, vs⟩
  case cons => exact h.elim
  exact ⟨_, rfl⟩
theorem tf_lower : TF X k (.builtin "str.lower") wLower := ⟨cw_bltn, fun c A D σ s vs vals QV EV Q E P hv h O OE => g_of <| by
    obtain ⟨l, rfl⟩ := wLower_inv h
    obtain ⟨x, rfl, hx⟩ := hv.one
    obtain ⟨t, rfl⟩ := hx.str_inv
    refine SC.lower h.1 ?_
    have e : Txt.lower (strD l) = strD (Txt.lower (strD l)).cps.toList := by
      generalize Txt.lower (strD l) = z
      cases z; simp
    have := O (.str (Txt.lower (strD l)).cps.toList) (.str (strD (Txt.lower (strD l)).cps.toList) s.toks) D σ _ (P.rel.toks (s.toks + 1)) (DM.le_refl D) (.str _ _) h.2
    rwa [← e] at this⟩

/-! ### list.append -/
noncomputable def isRaw : V → St → Prop
  | .raw (.ref a), σ => (∃ vs, (a, MO.list vs) ∈ σ.objs)
  | _, _ => False
theorem tm_append : TM X k (Str.ofString "append") "list.append" isRaw :=
  fun c A D σ s v vv Q E pl P hv h hq => by
    cases hv <;> first | exact h.elim | skip
    cases vv <;> first | exact h.elim | skip
    obtain ⟨vs, hm⟩ := h
    obtain ⟨vals, n, hl, hvs⟩ := P.rel.obj _ hm
    exact getMethod_builtin ⟨_, hl, rfl⟩ F.plainAttrs_list F.slot_list_append F.type_list_append (fun a e => by cases e; exact ⟨_, hl, rfl⟩) hq
noncomputable def wAppend : List V → W V
  | [.raw (.ref a), x] => fun Q _ σ => ∃ pre post vs, σ.objs = pre ++ (a, MO.list vs) :: post ∧ vs.length ≤ 16000000 ∧ Q .none { σ with objs := pre ++ (a, .list (vs ++ [x])) :: post }
  | _ => wNo
theorem wAppend_inv {vs : List V} {Q : V → St → Prop} {E : Prop} {σ : St} (h : wAppend vs Q E σ) : ∃ a x, vs = [.raw (.ref a), x] := by
  rcases vs with _ | ⟨v, vs⟩
  · exact h.elim
  cases v <;> first | exact h.elim | skip
  rename_i v; cases v <;> first | exact h.elim | skip
  rcases vs with _ | ⟨v, vs⟩
  · exact h.elim
  rcases vs with _ | ⟨v, vs⟩
  case cons => exact h.elim
  exact ⟨_, _, rfl⟩
theorem tf_append : TF X k (.builtin "list.append") wAppend := ⟨cw_bltn, fun c A D σ s vs vals QV EV Q E P hv h O OE => g_of <| by
    obtain ⟨a, x, rfl⟩ := wAppend_inv h
    obtain ⟨y, xv, rfl, hy, hx⟩ := hv.two
    obtain rfl := hy.raw_inv
    obtain ⟨pre, post, us, ho, hlen, hq⟩ := h
    obtain ⟨vals', n, hl, hus⟩ := P.rel.obj (a, MO.list us) (by rw [ho]; simp)
    refine wpAny_list_append_plain (items := vals'.toArray) ⟨n, hl⟩ (fun h' hpl hsb => ?_) (by simp; rw [hus.length]; exact Nat.le_trans hlen (by decide))
    obtain ⟨n', hl'⟩ := hpl
    have e : vals'.toArray.push xv = (vals' ++ [xv]).toArray := by simp
    have R2 := Rel.turn P (mo' := .list (us ++ [x])) (t' := s.toks) ho rfl (h' := h') ⟨vals' ++ [xv], n', by rw [← e]; exact hl', hus.append (.cons hx .nil)⟩ fun b o hb e => (hsb.2 b (fun q => hb (by simp [footO, q]))).trans e
    exact O .none _ D _ _ R2 (DM.le_refl D) .none hq⟩
end
end Mine
end

section
open PySem PySem.W PyProof.Rows PySem.Calls
namespace Mine
namespace FBA
theorem mro : mroOf (.type "bytearray") = pure [.type "bytearray", .type "object"] := by rw [mroOf_type]; kernel_rfl
theorem lookup_new : typeLookup (.type "bytearray") "__new__" = pure (some (.builtin "bytearray.__new__")) := by rw [typeLookup_type, builtinLookup_eq_fast]; kernel_rfl
theorem slot_init : Slot "bytearray" "__init__" "bytearray.__init__" :=
  .of (owner := "bytearray") (n := "__init__") (by rw [typeLookup_type, builtinLookup_eq_fast]; kernel_rfl) (by decide +kernel) (by decide +kernel) (by decide +kernel)
    (by first | exact .inl (by decide +kernel) | exact .inr (by decide +kernel)) (by rw [isSubtype_type]; kernel_rfl)
theorem called : TypeCalled "bytearray" "bytearray.__new__" "bytearray.__init__" :=
  ⟨by decide +kernel, by decide +kernel, ⟨_, _, mro⟩, madeBy_type mro lookup_new (by decide +kernel), by decide +kernel, by rw [isSubtype_type]; kernel_rfl, slot_init⟩
theorem typeCall0 : checkTypeCall "bytearray" ⟨[], []⟩ = pure () := by kernel_rfl
theorem typeCall1 (a : Value) : checkTypeCall "bytearray" ⟨[a], []⟩ = pure () := by kernel_rfl
theorem newCall0 : checkBuiltinCall "bytearray.__new__" ⟨[.type "bytearray"], []⟩ = pure () := by kernel_rfl
theorem newCall1 (a : Value) : checkBuiltinCall "bytearray.__new__" ⟨[.type "bytearray", a], []⟩ = pure () := by kernel_rfl
theorem entry_init : entryFor table "bytearray.__init__" = some Builtin.«bytearray.__init__» := by first | exact entryFor_of_fast (by kernel_rfl) | exact entryFor_of_tree (by kernel_rfl)
theorem entry_new : entryFor table "bytearray.__new__" = some Builtin.«list.__new__» := entryFor_alias (id' := "list.__new__") (by kernel_rfl) (by decide +kernel) (by decide +kernel) (by kernel_rfl)
theorem slot_append : Slot "bytearray" "append" "bytearray.append" :=
  .of (owner := "bytearray") (n := "append") (by rw [typeLookup_type, builtinLookup_eq_fast]; kernel_rfl) (by decide +kernel) (by decide +kernel) (by decide +kernel)
    (by first | exact .inl (by decide +kernel) | exact .inr (by decide +kernel)) (by rw [isSubtype_type]; kernel_rfl)
theorem type_append : typeOf (.builtin "bytearray.append") = pure (.type "method_descriptor") := by show builtinType _ = _; rw [builtinType_eq_fast]; kernel_rfl
theorem entry_append : entryFor table "bytearray.append" = some Builtin.«bytearray.append» := by first | exact entryFor_of_fast (by kernel_rfl) | exact entryFor_of_tree (by kernel_rfl)
theorem plainAttrs : PlainAttrs "bytearray" :=
  ⟨⟨"bytearray.__getattribute__", by rw [typeLookup_type, builtinLookup_eq_fast]; kernel_rfl, by decide +kernel⟩, by rw [typeLookup_type, builtinLookup_eq_fast]; kernel_rfl⟩
theorem args_append (a b : Value) : argsOk "bytearray.append" ⟨[a, b], []⟩ := by unfold argsOk; kernel_rfl
theorem args_init1 (a : Value) : argsOk "bytearray.__init__" ⟨[a], []⟩ := by unfold argsOk; kernel_rfl
theorem args_init2 (a b : Value) : argsOk "bytearray.__init__" ⟨[a, b], []⟩ := by unfold argsOk; kernel_rfl
theorem plain_new : plainId "bytearray.__new__" = true := by decide +kernel
set_option maxRecDepth 1000000 in
set_option maxHeartbeats 4000000 in
theorem owner_new : ("bytearray.__new__".splitOn ".__new__").headD "" = "bytearray" := by simp +decide [String.splitOn, String.splitOnAux]
theorem sub_self : isSubtype (.type "bytearray") (.type "bytearray") = pure true := by rw [isSubtype_type]; kernel_rfl
theorem look_release : typeLookup (.type "bytearray") "__release_buffer__" = pure (some (.builtin "bytearray.__release_buffer__")) := by rw [typeLookup_type, builtinLookup_eq_fast]; kernel_rfl
theorem look_buffer : typeLookup (.type "bytearray") "__buffer__" = pure (some (.builtin "bytearray.__buffer__")) := by rw [typeLookup_type, builtinLookup_eq_fast]; kernel_rfl
theorem noIndex_bytes : typeLookup (.type "bytes") "__index__" = pure none := by rw [typeLookup_type, builtinLookup_eq_fast]; kernel_rfl
end FBA

section
variable {prog : Program} {w : World} {A : Around} {E : Value → Shared → Prop} {s : Shared} {b : Bool}

theorem ba_new (rest : List Value) (hc : checkBuiltinCall "bytearray.__new__" ⟨.type "bytearray" :: rest, []⟩ = pure ()) {Q₁ : Value → Shared → Prop}
    (h : Q₁ (.ref s.heap.objs.size) { s with heap := s.heap.push { cls := .type "bytearray", data := .bytearray #[] } }) :
    codeAny (model prog w) A (.call (.builtin "bytearray.__new__") ⟨.type "bytearray" :: rest, []⟩) (wants Q₁ E) s := by
  refine codeAny_of_tree ?_
  show wpAny _ A.in1 (do checkBuiltinCall "bytearray.__new__" ⟨.type "bytearray" :: rest, []⟩; again (.builtin "bytearray.__new__" ⟨.type "bytearray" :: rest, []⟩)) _ _ s
  refine wpAny_bind (wpAny_of_eq hc (wpAny_pure ⟨plainId_quiet FBA.plain_new _, codeAny_builtin_stack FBA.entry_new rfl fun p st => ?_⟩))
  rw [Around.under_plainId FBA.plain_new _]
  have hsub := FBA.sub_self
  have hown := FBA.owner_new
  obtain ⟨hp, g, d, tk, os⟩ := s
  simp only [hown]
  wp_walk
  exact h

theorem any_off {l : List (Code × Pos)} {f : Code × Pos → Bool} (h : ∀ x ∈ l, benign x.1 = true) (hf : ∀ c p, benign c = true → f (c, p) = false) : l.any f = false := by
  rw [List.any_eq_false]
  intro x hx
  obtain ⟨c, q⟩ := x
  rw [Bool.not_eq_true]
  exact hf c q (h _ hx)

theorem g_exported {M : Model} {self : Value} {Q : Bool → Shared → Prop} (hQ : Q false s) : wpG true M A (Builtin.Bytes.exported self) Q E s := .mk fun Γ p hΓ hg => by
  obtain ⟨h1, h2⟩ := hg rfl
  show Q (((Γ.code, p) :: Γ.below).any _) s
  have hl : ∀ x ∈ ((Γ.code, p) :: Γ.below), benign x.1 = true := fun x hx => by
    rcases List.mem_cons.mp hx with e | hx
    · cases e; exact h1
    · exact h2 _ hx
  refine Eq.mp (congrArg (fun z => Q z s) (any_off hl fun c p h => ?_).symm) hQ
  cases c with
  | builtin id args =>
    have h' : (!Builtin.Bytes.decodersThatHold.contains id && !guardIds.contains id) = true := h
    rw [Bool.and_eq_true, Bool.not_eq_true', Bool.not_eq_true'] at h'
    obtain ⟨g1, g2⟩ := h'
    have n : ∀ x, guardIds.contains x = true → ¬ id = x := fun x e q => by rw [← q, g2] at e; cases e
    delta Builtin.Bytes.exported.match_1
    show dite (id = "bytearray.__contains__") _ _ = false
    rw [dif_neg (n _ (by decide +kernel)), dif_neg (n _ (by decide +kernel)), dif_neg (n _ (by decide +kernel)), dif_neg (n _ (by decide +kernel)), dif_neg (n _ (by decide +kernel))]
    obtain ⟨pos, kw⟩ := args
    cases pos with
    | nil => rfl
    | cons v tail =>
      show (Builtin.Bytes.sameRef v self && Builtin.Bytes.decodersThatHold.contains id) = false
      rw [g1, Bool.and_false]
  | _ => rfl

noncomputable def baObj (l : List UInt8) : Obj := { cls := .type "bytearray", data := .bytearray l.toArray 0 }

theorem ba_own {a : Addr} {l : List UInt8} {Q : Bool → Shared → Prop} (ho : s.heap.get? a = some (baObj l)) (hQ : Q false s) : wpAny (model prog w) A (Builtin.Bytes.ownRelease (.ref a)) Q E s := by
  have hT : s.TypeIs (.ref a) "bytearray" := ⟨_, ho, rfl⟩
  unfold Builtin.Bytes.ownRelease Builtin.Bytes.slotIsOwn
  refine wpAny_bind (wpAny_bind (wpAny_specialOf hT FBA.look_release ?_))
  dsimp only
  rw [if_neg (by decide +kernel)]
  have e : ("bytearray.__release_buffer__".dropRight ("__release_buffer__".length + 1)) = "bytearray" := by decide +kernel
  rw [e]
  exact wpAny_isInstance hT FBA.sub_self (wpAny_pure hQ)

/-- the look whether it is exported: it is not -/
theorem g_resize {a : Addr} {l : List UInt8} {α : Type} {x y : Sem α} {Q : α → Shared → Prop} (ho : s.heap.get? a = some (baObj l)) (h : wpG true (model prog w) A y Q E s) :
    wpG true (model prog w) A ((Builtin.Bytes.exported (.ref a) <||> (do return (← Builtin.Bytes.exportsOf (.ref a)) > 0)) >>= fun q => if q = true then x else y) Q E s := by
  refine g_bind ?_
  unfold orM
  refine g_bind (g_exported (g_of ?_))
  show wpAny _ _ (Builtin.Bytes.exportsOf (.ref a) >>= fun n => pure (decide (n > 0))) _ _ _
  unfold Builtin.Bytes.exportsOf
  refine wpAny_bind (wpAny_bind (wpAny_load ho ?_))
  refine wpAny_pure (wpAny_pure ?_)
  rw [if_neg (by decide)]
  exact h

theorem ba_write {a : Addr} {l l' : List UInt8} {f : Array UInt8 → Array UInt8} {Q : Unit → Shared → Prop} (ho : s.heap.get? a = some (baObj l)) (hf : f l.toArray = l'.toArray) (hz : l'.length ≤ 16777216)
    (hQ : ∀ h', h'.get? a = some (baObj l') → (∀ x o, x ≠ a → s.heap.get? x = some o → h'.get? x = some o) → Q () { s with heap := h' }) : wpAny (model prog w) A (Builtin.Bytes.write (.ref a) f) Q E s := by
  show wpAny _ _ (updateBytearray a f) _ _ _
  unfold updateBytearray
  refine wpAny_bind (wpAny_load ho ?_)
  show wpAny _ _ (update a (Obj.mapBytearray f) >>= fun _ => lookBehind a) _ _ _
  refine wpAny_bind (wpAny_update ho ?_)
  have hS : (s.heap.update a (Obj.mapBytearray f)).get? a = some (baObj l') := by
    rw [Heap.get?_update_self (Obj.mapBytearray f) ho rfl]
    show some ({ cls := _, dict := _, data := .bytearray (f l.toArray) 0, slots := _ } : Obj) = _
    rw [hf]; rfl
  refine wpAny_lookBehind hS ?_ (hQ _ hS fun x o hx e => (Heap.get?_update_other _ _ (Ne.symm hx)).trans e)
  show (if l'.toArray.size > sizeLine then some "bytearray:memory" else none) = none
  rw [if_neg]
  rw [List.size_toArray, sizeLine_eq]; (first | lia | omega)
end
end Mine
end

section
open PySem PySem.W PyProof.Rows PySem.Calls
namespace Mine
section
variable {prog : Program} {w : World} {A : Around} {E : Value → Shared → Prop} {s : Shared} {b : Bool}

theorem cg_builtin {id : String} {args : Args} {B : Builtin} {R : Result → Shared → Prop} (hp : plainId id = true) (hben : benign (.builtin id args) = true) (hb : entryFor table id = some B)
    (h : wpG b (model prog w) A.in1 (B args) (fun fin s' => match fin with | .done f => R (.ok f) s' | .again c' => c'.quiet = true ∧ codeG b (model prog w) A c' R s') (fun e s' => R (.error e) s') s) : codeG b (model prog w) A (.builtin id args) R s := by
  refine cg_of_tree hben ?_
  rw [Around.under_plainId hp args]
  show wpG _ _ _ (match entryFor table id with | some b => b args | none => unsupported ((withoutEnding? id "#data").getD id)) _ _ s
  rw [hb]; exact h

theorem cg_builtin_at {id : String} {args : Args} {B : Builtin} {R : Result → Shared → Prop} (hben : benign (.builtin id args) = true) (hb : entryFor table id = some B)
    (h : wpG b (model prog w) (A.under (.builtin id args)) (B args) (fun fin s' => match fin with | .done f => R (.ok f) s' | .again c' => c'.quiet = true ∧ codeG b (model prog w) A c' R s') (fun e s' => R (.error e) s') s) : codeG b (model prog w) A (.builtin id args) R s := by
  refine cg_of_tree hben ?_
  show wpG _ _ _ (match entryFor table id with | some b => b args | none => unsupported ((withoutEnding? id "#data").getD id)) _ _ s
  rw [hb]; exact h

theorem cg_call_builtin {T : String} {name : Str} {id : String} {B : Builtin} {self : Value} {rest : List Value} {R : Result → Shared → Prop} (slot : Slot T name id) (hT : s.TypeIs self T)
    (entry : entryFor table id = some B) (args : argsOk id ⟨self :: rest, []⟩) (hben : benign (.builtin id ⟨self :: rest, []⟩) = true)
    (h : wpG b (model prog w) A.in1 (B ⟨self :: rest, []⟩) (fun fin s' => match fin with | .done f => R (.ok f) s' | .again c' => c'.quiet = true ∧ codeG b (model prog w) A c' R s') (fun e s' => R (.error e) s') s) :
    codeG b (model prog w) A (.call (.builtin id) ⟨self :: rest, []⟩) R s := by
  refine cg_of_tree rfl ?_
  show wpG _ _ A.in1 (checkBuiltinCall id ⟨self :: rest, []⟩ >>= fun _ => again (.builtin id ⟨self :: rest, []⟩)) _ _ s
  refine g_then (slot.check _ _ _ _ _ _ _ _ hT args ?_)
  exact g_pure ⟨plainId_quiet slot.plain _, cg_builtin slot.plain hben entry h⟩

theorem g_ifF {α : Type} {M : Model} {c : Bool} {x y : Sem α} {Q : α → Shared → Prop} (hc : c = false) (h : wpG b M A y Q E s) : wpG b M A (if c = true then x else y) Q E s := by
  subst hc; exact h
theorem benign_append {args : Args} : benign (.builtin "bytearray.append" args) = true := by simp only [benign]; decide +kernel
theorem benign_init {args : Args} : benign (.builtin "bytearray.__init__" args) = true := by simp only [benign]; decide +kernel
theorem benign_tcall {args : Args} : benign (.builtin "type.__call__" args) = true := by simp only [benign]; decide +kernel

theorem ba_append {a : Addr} {l : List UInt8} {c : Int} {t : Tok} {Q : Value → Shared → Prop} (ho : s.heap.get? a = some (baObj l)) (h0 : 0 ≤ c) (h1 : c < 256) (hz : l.length < 16777216)
    (hQ : ∀ h', h'.get? a = some (baObj (l ++ [c.toNat.toUInt8])) → (∀ x o, x ≠ a → s.heap.get? x = some o → h'.get? x = some o) → Q .none { s with heap := h' }) :
    wpG true (model prog w) A (call (.builtin "bytearray.append") [.ref a, .int c t]) Q E s := by
  have hT : s.TypeIs (.ref a) "bytearray" := ⟨_, ho, rfl⟩
  refine g_call (cg_call_builtin FBA.slot_append hT FBA.entry_append (FBA.args_append _ _) benign_append ?_)
  unfold Builtin.«bytearray.append»
  refine g_then (wpAny_of_eq (a := (Value.ref a, Value.int c t)) rfl ?_)
  have hbv : Builtin.Bytes.byteValue (.int c t) = pure c.toNat.toUInt8 := by
    unfold Builtin.Bytes.byteValue
    have hc : (decide (c < 0) || decide (c ≥ 256)) = false := by simp; (first | lia | omega)
    show (if (decide (c < 0) || decide (c ≥ 256)) = true then _ else _) = _
    rw [hc]; rfl
  refine g_then (wpAny_of_eq hbv ?_)
  refine g_bind ?_
  unfold Builtin.Bytes.checkResize
  refine g_resize ho (g_pure ?_)
  refine g_then (ba_write ho (l' := l ++ [c.toNat.toUInt8]) (by simp) (by simp; (first | lia | omega)) fun h' k1 k2 => g_pure ?_)
  exact hQ h' k1 k2

theorem g_callType {T newId initId : String} {Bi : Builtin} {args : List Value} {Q Q₁ : Value → Shared → Prop} (ft : TypeCalled T newId initId)
    (hct : checkTypeCall T ⟨args, []⟩ = pure ()) (entryI : entryFor table initId = some Bi) (hben : ∀ args, benign (.builtin initId args) = true)
    (hnew : codeAny (model prog w) A.in1 (.call (.builtin newId) ⟨.type T :: args, []⟩) (wants Q₁ E) s)
    (hnext : ∀ obj s₁, Q₁ obj s₁ → s₁.TypeIs obj T ∧ argsOk initId ⟨obj :: args, []⟩ ∧
      wpG b (model prog w) A.in1.in1 (Bi ⟨obj :: args, []⟩) (fun fin s' => match fin with | .done (.ret r) => r = .none ∧ Q obj s' | _ => False) E s₁) :
    wpG b (model prog w) A (call (.type T) args) Q E s := by
  obtain ⟨c, tl, hmro⟩ := ft.mro
  refine g_call (cg_of_tree rfl ?_)
  show wpG _ _ _ (callAny (.type T) _) _ _ _
  refine g_pure ⟨Code.quiet_builtin _ (by decide +kernel), cg_builtin_at benign_tcall F.entry_type_call ?_⟩
  rw [Around.under_plain (weight_type_call_type T args []) rfl]
  unfold Builtin.«type.__call__»
  refine g_ifF ft.notType ?_
  refine g_ifF ft.canCreate ?_
  refine g_then (wpAny_of_eq hct ?_)
  refine g_then (wpAny_of_eq hmro ?_)
  refine g_ifF rfl ?_
  refine g_then (wpAny_of_eq ft.made ?_)
  refine g_bind (g_pure ?_)
  refine g_then (wpAny_holding (wpAny_call (codeAny_mono hnew fun r s₁ hr => ?_)))
  cases r with
  | error e => exact hr
  | ok fl =>
  cases fl with
  | ret obj =>
    obtain ⟨hT, hok, hsi⟩ := hnext _ _ hr
    refine g_then (wpAny_isInstance hT ft.sub ?_)
    refine g_ifF rfl ?_
    refine g_bind (g_holding ?_)
    unfold callSpecial?
    refine g_then (wpAny_specialOf hT ft.init.lookup (g_holding ?_))
    rw [ft.init.bind obj]
    refine g_bind (g_pure ?_)
    refine g_bind (g_call (cg_mono (R := fun r s' => match r with | .ok (.ret v) => v = .none ∧ Q obj s' | .ok _ => False | .error e => E e s') (cg_call_builtin ft.init hT entryI hok (hben _) (g_mono hsi (fun fin s₂ h2 => ?_) fun _ _ z => z)) fun r₂ s₂ hr₂ => ?_))
    · cases fin with
      | again c' => exact h2.elim
      | done f => cases f <;> first | exact h2 | exact h2.elim
    · cases r₂ with
      | error e => exact hr₂
      | ok f => cases f with
        | ret r =>
          obtain ⟨rfl, hq⟩ := hr₂
          exact g_pure (g_ifF rfl (g_pure hq))
        | _ => exact hr₂.elim
  | _ => exact hr.elim
end
end Mine
end

section
open PySem PySem.W PyProof.Rows PySem.Calls
namespace Mine
namespace FBA
theorem bind0 : Builtin.Bytes.bindOptional "bytearray.__init__" "bytearray" ["source", "encoding", "errors"] [] [] = pure [none, none, none] := by kernel_rfl
theorem bind1 (v : Value) : Builtin.Bytes.bindOptional "bytearray.__init__" "bytearray" ["source", "encoding", "errors"] [v] [] = pure [some v, none, none] := by kernel_rfl
theorem full_eq {id : String} {b : Array UInt8} {t : Tok} : Builtin.Bytes.buffer? id (.bytes b t) true = pure (some b) := by
  unfold Builtin.Bytes.buffer?
  rw [KBy.special_eq KBy.look_buffer, KBy.own_buffer, KBy.own_release]
  kernel_rfl
end FBA
section
variable {prog : Program} {w : World} {A : Around} {E : Value → Shared → Prop} {s : Shared} {b : Bool}

theorem ba_init0 {a : Addr} {Q : Shared → Prop} (ho : s.heap.get? a = some (baObj [])) (hQ : ∀ h', h'.get? a = some (baObj []) → (∀ x o, x ≠ a → s.heap.get? x = some o → h'.get? x = some o) → Q { s with heap := h' }) :
    wpG true (model prog w) A (Builtin.«bytearray.__init__» ⟨[.ref a], []⟩) (fun fin s' => match fin with | .done (.ret r) => r = .none ∧ Q s' | _ => False) E s := by
  unfold Builtin.«bytearray.__init__»
  refine g_then (ba_own ho ?_)
  refine g_ifF rfl ?_
  refine g_then (wpAny_of_eq FBA.bind0 ?_)
  refine g_then (wpAny_of_eq (a := ()) rfl ?_)
  refine g_then (wpAny_of_eq (a := ()) rfl ?_)
  refine g_resize ho ?_
  refine g_then (ba_write ho (l' := []) rfl (by simp) fun h' k1 k2 => ?_)
  exact g_bind (g_pure (g_bind (g_pure (g_pure ⟨rfl, hQ h' k1 k2⟩))))

theorem ba_init1 {a : Addr} {l : List UInt8} {t : Tok} {Q : Shared → Prop} (ho : s.heap.get? a = some (baObj [])) (hz : l.length ≤ 16777216) (hQ : ∀ h', h'.get? a = some (baObj l) → (∀ x o, x ≠ a → s.heap.get? x = some o → h'.get? x = some o) → Q { s with heap := h' }) :
    wpG true (model prog w) A (Builtin.«bytearray.__init__» ⟨[.ref a, .bytes l.toArray t], []⟩) (fun fin s' => match fin with | .done (.ret r) => r = .none ∧ Q s' | _ => False) E s := by
  unfold Builtin.«bytearray.__init__»
  refine g_then (ba_own ho ?_)
  refine g_ifF rfl ?_
  refine g_then (wpAny_of_eq (FBA.bind1 _) ?_)
  refine g_then (wpAny_of_eq (a := ()) rfl ?_)
  refine g_then (wpAny_of_eq (a := ()) rfl ?_)
  refine g_resize ho ?_
  refine g_then (ba_write ho (l' := []) rfl (by simp) fun h' k1 k2 => ?_)
  refine g_then (wpAny_of_eq (a := (none : Option Str)) rfl ?_)
  refine g_ifF rfl ?_
  refine g_bind (g_bind (g_pure (g_pure ?_)))
  refine g_then (wpAny_specialOf (typeIs_bytes _ _ _) FBA.noIndex_bytes ?_)
  refine g_ifF rfl ?_
  refine g_then (wpAny_of_eq FBA.full_eq ?_)
  refine g_then (wpAny_rule ?_)
  refine g_then (ba_write k1 (l' := l) rfl hz fun h2 q1 q2 => ?_)
  exact g_pure ⟨rfl, hQ h2 q1 fun x o hx e => q2 x o hx (k2 x o hx e)⟩
end
end Mine
end

section
open PySem PySem.W PyProof.Rows PySem.Calls
namespace Mine
namespace FBA
theorem bytes_bytes : typeLookup (.type "bytes") "__bytes__" = pure (some (.builtin "bytes.__bytes__")) := by rw [typeLookup_type, builtinLookup_eq_fast]; kernel_rfl
theorem ba_no_bytes : typeLookup (.type "bytearray") "__bytes__" = pure none := by rw [typeLookup_type, builtinLookup_eq_fast]; kernel_rfl
theorem ba_no_index : typeLookup (.type "bytearray") "__index__" = pure none := by rw [typeLookup_type, builtinLookup_eq_fast]; kernel_rfl
end FBA
section
variable {prog : Program} {w : World} {A : Around} {E : Value → Shared → Prop} {s : Shared} {b : Bool}

theorem ba_slot {a : Addr} {l : List UInt8} {Q : Bool → Shared → Prop} (ho : s.heap.get? a = some (baObj l)) (hQ : Q true s) : wpAny (model prog w) A (Builtin.Bytes.slotIsOwn (.ref a) "__buffer__") Q E s := by
  have hT : s.TypeIs (.ref a) "bytearray" := ⟨_, ho, rfl⟩
  unfold Builtin.Bytes.slotIsOwn
  refine wpAny_bind (wpAny_specialOf hT FBA.look_buffer ?_)
  dsimp only
  rw [if_neg (by decide +kernel)]
  have e : ("bytearray.__buffer__".dropRight ("__buffer__".length + 1)) = "bytearray" := by decide +kernel
  rw [e]
  exact wpAny_isInstance hT FBA.sub_self hQ

theorem ba_buffer {a : Addr} {l : List UInt8} {id : String} {full : Bool} {Q : Option (Array UInt8) → Shared → Prop} (ho : s.heap.get? a = some (baObj l)) (hQ : Q (some l.toArray) s) : wpAny (model prog w) A (Builtin.Bytes.buffer? id (.ref a) full) Q E s := by
  have hT : s.TypeIs (.ref a) "bytearray" := ⟨_, ho, rfl⟩
  unfold Builtin.Bytes.buffer?
  refine wpAny_bind (wpAny_specialOf hT FBA.look_buffer ?_)
  dsimp only
  refine wpAny_bind (ba_slot ho ?_)
  rw [if_neg (by decide)]
  refine wpAny_bind (wpAny_specialOf hT FBA.look_buffer ?_)
  refine wpAny_bind (ba_own ho ?_)
  rw [if_neg (by decide)]
  refine wpAny_bind ?_
  unfold Builtin.Bytes.payload Builtin.Bytes.payload?
  refine wpAny_bind (wpAny_bind (wpAny_load ho ?_))
  exact wpAny_pure (wpAny_pure (wpAny_pure hQ))

theorem bb_new_ba {a : Addr} {l : List UInt8} {Q : Value → Shared → Prop} (ho : s.heap.get? a = some (baObj l)) (hz : l.length ≤ 16777216) (hQ : ∀ t k, Q (.bytes l.toArray t) { s with toks := k }) :
    codeAny (model prog w) A (.call (.builtin "bytes.__new__") ⟨[.type "bytes", .ref a], []⟩) (wants Q E) s := by
  refine codeAny_of_tree ?_
  show wpAny _ A.in1 (do checkBuiltinCall "bytes.__new__" ⟨[.type "bytes", .ref a], []⟩; again (.builtin "bytes.__new__" ⟨[.type "bytes", .ref a], []⟩)) _ _ s
  refine wpAny_bind (wpAny_of_eq (F.bm_newCall _) (wpAny_pure ⟨plainId_quiet F.bm_plain _, codeAny_builtin F.bm_entry ?_⟩))
  rw [Around.under_plainId F.bm_plain _]
  have hT : s.TypeIs (.ref a) "bytearray" := ⟨_, ho, rfl⟩
  unfold Builtin.«bytes.__new__»
  refine wpAny_bind (wpAny_of_eq (a := true) rfl ?_)
  refine bm_if_false rfl ?_
  refine wpAny_bind (wpAny_of_eq F.bm_sub ?_)
  refine bm_if_false rfl ?_
  refine wpAny_bind (wpAny_of_eq (F.bm_bind _) ?_)
  refine wpAny_bind (wpAny_of_eq (a := ()) rfl ?_)
  refine wpAny_bind (wpAny_of_eq (a := ()) rfl ?_)
  refine bm_if_false rfl ?_
  refine wpAny_bind (wpAny_specialOf hT FBA.ba_no_bytes ?_)
  refine wpAny_bind (wpAny_bind ?_)
  show wpAny _ _ (load a >>= _) _ _ _
  refine wpAny_bind (wpAny_load ho ?_)
  show wpAny _ _ (pure none) _ _ _
  refine wpAny_pure (wpAny_pure ?_)
  refine bm_if_false rfl ?_
  refine wpAny_bind (wpAny_specialOf hT FBA.ba_no_index ?_)
  refine bm_if_true rfl ?_
  first
    | show wpAny _ _ (Builtin.Bytes.buffer? "bytes.__new__" (.ref a) true >>= _) _ _ _
    | (refine wpAny_bind ?_; show wpAny _ _ (Builtin.Bytes.buffer? "bytes.__new__" (.ref a) true >>= _) _ _ _)
  refine wpAny_bind (ba_buffer ho ?_)
  refine wpAny_bind (wpAny_rule ?_)
  refine wpAny_bind (wpAny_mkBytes ?_ (by rw [List.size_toArray]; exact hz))
  show wpAny _ _ (if (Value.type "bytes" == Value.type "bytes") = true then _ else _) _ _ _
  refine bm_if_true (by decide) ?_
  first
    | exact wpAny_pure (hQ _ _)
    | exact wpAny_bind (wpAny_pure (wpAny_pure (hQ _ _)))
    | exact wpAny_bind (wpAny_pure (hQ _ _))

theorem bb_new_bytes {x : Array UInt8} {u : Tok} {Q : Value → Shared → Prop} (hQ : Q (.bytes x u) s) :
    codeAny (model prog w) A (.call (.builtin "bytes.__new__") ⟨[.type "bytes", .bytes x u], []⟩) (wants Q E) s := by
  refine codeAny_of_tree ?_
  show wpAny _ A.in1 (do checkBuiltinCall "bytes.__new__" ⟨[.type "bytes", .bytes x u], []⟩; again (.builtin "bytes.__new__" ⟨[.type "bytes", .bytes x u], []⟩)) _ _ s
  refine wpAny_bind (wpAny_of_eq (F.bm_newCall _) (wpAny_pure ⟨plainId_quiet F.bm_plain _, codeAny_builtin F.bm_entry ?_⟩))
  rw [Around.under_plainId F.bm_plain _]
  unfold Builtin.«bytes.__new__»
  refine wpAny_bind (wpAny_of_eq (a := true) rfl ?_)
  refine bm_if_false rfl ?_
  refine wpAny_bind (wpAny_of_eq F.bm_sub ?_)
  refine bm_if_false rfl ?_
  refine wpAny_bind (wpAny_of_eq (F.bm_bind _) ?_)
  refine wpAny_bind (wpAny_of_eq (a := ()) rfl ?_)
  refine wpAny_bind (wpAny_of_eq (a := ()) rfl ?_)
  refine bm_if_false rfl ?_
  refine wpAny_bind (wpAny_specialOf (PySem.W.typeIs_bytes _ _ _) FBA.bytes_bytes ?_)
  refine wpAny_bind (wpAny_rule ?_)
  refine wpAny_bind (wpAny_typeOf (PySem.W.typeIs_bytes _ _ _) ?_)
  refine bm_if_true (by decide) ?_
  show wpAny _ _ (if (Value.type "bytes" == Value.type "bytes") = true then _ else _) _ _ _
  refine bm_if_true (by decide) ?_
  first
    | exact wpAny_pure hQ
    | exact wpAny_bind (wpAny_pure (wpAny_pure hQ))

theorem call_bytes_of {x : Value} {Q : Value → Shared → Prop} (hnew : codeAny (model prog w) A.in1 (.call (.builtin "bytes.__new__") ⟨[.type "bytes", x], []⟩) (wants (fun obj s₁ => s₁.TypeIs obj "bytes" ∧ Q obj s₁) E) s) :
    wpAny (model prog w) A (call (.type "bytes") [x]) Q E s := by
  refine callType_codes (Q₁ := fun obj s₁ => s₁.TypeIs obj "bytes" ∧ Q obj s₁) F.bm_called (F.bm_typeCall _) F.entry_object_init hnew fun obj s₁ h₁ => ?_
  exact ⟨h₁.1, F.args_object_init_2 obj _, object_init_meets F.bm_called.init.lookup F.bm_called.made (by decide) prog w A.in1 _ s₁ ⟨h₁.1, rfl, h₁.2⟩⟩
end

section
variable {X : Cx} {k : Nat} {env : Env}

noncomputable def wBytes : List V → W V
  | [.list vs] => wBytesL [.list vs]
  | [.bytes l] => wVal (.bytes l)
  | [.raw (.ref a)] => fun Q _ σ => ∃ l, (a, MO.ba l) ∈ σ.objs ∧ l.length ≤ 16777216 ∧ Q (.bytes l) σ
  | _ => wNo
theorem wBytes_inv {vs : List V} {Q : V → St → Prop} {E : Prop} {σ : St} (h : wBytes vs Q E σ) : (∃ l, vs = [.list l]) ∨ (∃ l, vs = [.bytes l]) ∨ ∃ a, vs = [.raw (.ref a)] := by
  rcases vs with _ | ⟨v, vs⟩
  · exact h.elim
  cases v <;> first | exact h.elim | skip
  case raw v =>
    cases v <;> first | exact h.elim | skip
    rcases vs with _ | ⟨w, vs⟩
    · exact .inr (.inr ⟨_, rfl⟩)
    · exact h.elim
  all_goals
    rcases vs with _ | ⟨w, vs⟩
    · first | exact .inl ⟨_, rfl⟩ | exact .inr (.inl ⟨_, rfl⟩)
    · exact h.elim
theorem tf_bytes : TF X k (.type "bytes") wBytes := ⟨cw_type, fun c A D σ s vs vals QV EV Q E P hv h O OE => g_of <| by
  rcases wBytes_inv h with ⟨us, rfl⟩ | ⟨l, rfl⟩ | ⟨a, rfl⟩
  · exact bytesL_ok (EV := EV) P hv h O
  · obtain ⟨x, rfl, hx⟩ := hv.one
    obtain ⟨t, rfl⟩ := hx.bytes_inv
    exact call_bytes_of (bb_new_bytes ⟨PySem.W.typeIs_bytes _ _ _, O (.bytes l) _ D σ _ P.rel (DM.le_refl D) (.bytes _ _) h⟩)
  · obtain ⟨x, rfl, hx⟩ := hv.one
    obtain rfl := hx.raw_inv
    obtain ⟨l, hm, hz, hq⟩ := h
    exact call_bytes_of (bb_new_ba (P.rel.obj _ hm) hz fun t kk => ⟨PySem.W.typeIs_bytes _ _ _, O (.bytes l) _ D σ _ (P.rel.toks kk) (DM.le_refl D) (.bytes _ _) hq⟩)⟩

noncomputable def wBA : List V → W V
  | [] => fun Q _ σ => ∀ a, Q (.raw (.ref a)) { σ with objs := (a, .ba []) :: σ.objs }
  | [.bytes l] => fun Q _ σ => l.length ≤ 16777216 ∧ ∀ a, Q (.raw (.ref a)) { σ with objs := (a, .ba l) :: σ.objs }
  | _ => wNo
theorem wBA_inv {vs : List V} {Q : V → St → Prop} {E : Prop} {σ : St} (h : wBA vs Q E σ) : vs = [] ∨ ∃ l, vs = [.bytes l] := by
  rcases vs with _ | ⟨v, vs⟩
  · exact .inl rfl
  cases v <;> first | exact h.elim | skip
  rcases vs with _ | ⟨v, vs⟩
  · exact .inr ⟨_, rfl⟩
  · exact h.elim
theorem tf_ba (hb : X.b = true) : TF X k (.type "bytearray") wBA := ⟨cw_type, fun c A D σ s vs vals QV EV Q E P hv h O OE => g_up (b := true) (.inl hb) <| by
  have fresh : ∀ b ∈ footO (s.heap.objs.size, MO.ba []), s.heap.get? b = none := fun b hb => by rw [List.mem_singleton.mp hb]; exact none_at (Nat.le_refl _)
  have nd1 : ∀ l, (footO (s.heap.objs.size, MO.ba l)).Nodup := fun l => List.nodup_cons.mpr ⟨List.not_mem_nil, List.nodup_nil⟩
  have keep : ∀ {h' : Heap}, (∀ x o, x ≠ s.heap.objs.size → (s.heap.push (baObj [])).get? x = some o → h'.get? x = some o) → ∀ b o, s.heap.get? b = some o → h'.get? b = some o := fun hk b o e =>
    hk b o (Nat.ne_of_lt (Heap.lt_size e)) (Heap.get?_push_of_some _ e)
  rcases wBA_inv h with rfl | ⟨l, rfl⟩
  · obtain rfl := hv.nil_inv
    refine g_callType (Q₁ := fun obj s₁ => obj = .ref s.heap.objs.size ∧ s₁ = { s with heap := s.heap.push (baObj []) }) FBA.called FBA.typeCall0 FBA.entry_init (fun _ => benign_init) (ba_new [] FBA.newCall0 ⟨rfl, rfl⟩) ?_
    rintro obj s₁ ⟨rfl, rfl⟩
    have h0 := pushed s.heap (baObj []) rfl
    refine ⟨⟨_, h0, rfl⟩, FBA.args_init1 _, ba_init0 h0 fun h' k1 k2 => ?_⟩
    exact O _ _ D _ _ (Rel.new P (mo := .ba []) (a := s.heap.objs.size) (t' := s.toks) k1 fresh (nd1 _) (keep k2)) (DM.le_refl D) (.raw _) (h _)
  · obtain ⟨x, rfl, hx⟩ := hv.one
    obtain ⟨t, rfl⟩ := hx.bytes_inv
    refine g_callType (Q₁ := fun obj s₁ => obj = .ref s.heap.objs.size ∧ s₁ = { s with heap := s.heap.push (baObj []) }) FBA.called (FBA.typeCall1 _) FBA.entry_init (fun _ => benign_init) (ba_new _ (FBA.newCall1 _) ⟨rfl, rfl⟩) ?_
    rintro obj s₁ ⟨rfl, rfl⟩
    have h0 := pushed s.heap (baObj []) rfl
    refine ⟨⟨_, h0, rfl⟩, FBA.args_init2 _ _, ba_init1 h0 h.1 fun h' k1 k2 => ?_⟩
    exact O _ _ D _ _ (Rel.new P (mo := .ba l) (a := s.heap.objs.size) (t' := s.toks) k1 fresh (nd1 _) (keep k2)) (DM.le_refl D) (.raw _) (h.2 _)⟩

noncomputable def isBA : V → St → Prop
  | .raw (.ref a), σ => (∃ l, (a, MO.ba l) ∈ σ.objs)
  | _, _ => False
theorem tm_ba_append : TM X k (Str.ofString "append") "bytearray.append" isBA :=
  fun c A D σ s v vv Q E pl P hv h hq => by
    cases hv <;> first | exact h.elim | skip
    cases vv <;> first | exact h.elim | skip
    obtain ⟨l, hm⟩ := h
    have hl := P.rel.obj _ hm
    exact getMethod_builtin ⟨_, hl, rfl⟩ FBA.plainAttrs FBA.slot_append FBA.type_append (fun a e => by cases e; exact ⟨_, hl, rfl⟩) hq
noncomputable def wBaAppend : List V → W V
  | [.raw (.ref a), .int c] => fun Q _ σ => ∃ pre post l, σ.objs = pre ++ (a, MO.ba l) :: post ∧ 0 ≤ c ∧ c < 256 ∧ l.length < 16777216 ∧ Q .none { σ with objs := pre ++ (a, .ba (l ++ [c.toNat.toUInt8])) :: post }
  | _ => wNo
theorem wBaAppend_inv {vs : List V} {Q : V → St → Prop} {E : Prop} {σ : St} (h : wBaAppend vs Q E σ) : ∃ a i, vs = [.raw (.ref a), .int i] := by
  rcases vs with _ | ⟨v, vs⟩
  · exact h.elim
  cases v <;> first | exact h.elim | skip
  rename_i v; cases v <;> first | exact h.elim | skip
  rcases vs with _ | ⟨v, vs⟩
  · exact h.elim
  cases v <;> first | exact h.elim | skip
  rcases vs with _ | ⟨v, vs⟩
  case cons => exact h.elim
  exact ⟨_, _, rfl⟩
theorem tf_ba_append (hb : X.b = true) : TF X k (.builtin "bytearray.append") wBaAppend := ⟨cw_bltn, fun c A D σ s vs vals QV EV Q E P hv h O OE => g_up (b := true) (.inl hb) <| by
    obtain ⟨a, c', rfl⟩ := wBaAppend_inv h
    obtain ⟨x, y, rfl, hx, hy⟩ := hv.two
    obtain rfl := hx.raw_inv
    obtain ⟨t, rfl⟩ := hy.int_inv
    obtain ⟨pre, post, l, ho, h0, h1, hz, hq⟩ := h
    refine ba_append (P.rel.obj (a, MO.ba l) (by rw [ho]; simp)) h0 h1 hz fun h' k1 k2 => ?_
    have R2 := Rel.turn P (mo' := .ba (l ++ [c'.toNat.toUInt8])) (t' := s.toks) ho rfl (h' := h') k1 fun b o hb e => k2 b o (fun q => hb (by simp [footO, q])) e
    exact O .none _ D _ _ R2 (DM.le_refl D) .none hq⟩
end
end Mine
end

section
open PySem PySem.W PyProof.Rows PySem.Calls
namespace Mine

noncomputable def asciiOf (l : List Nat) : List UInt8 := l.map fun c => c.toUInt8
noncomputable def textOf (l : List UInt8) : List Nat := l.map (·.toNat)

section
variable {M : Model} {A : Around} {E : Value → Shared → Prop} {s : Shared}
open Builtin._codecs

theorem fold_app (f : Nat → List UInt8) (l : List Nat) (acc : Array UInt8) : l.foldl (fun acc y => acc ++ (f y).toArray) acc = (acc.toList ++ l.flatMap f).toArray := by
  induction l generalizing acc with
  | nil => simp
  | cons x r ih => rw [List.foldl_cons, ih]; simp

theorem enc_ok {id : String} {self : Value} {l : List Nat} {Q : Array UInt8 → Shared → Prop} (hl : ∀ c ∈ l, c < 128) (hz : l.length ≤ 16777216) (hQ : Q (asciiOf l).toArray s) : wpAny M A (encodeNarrow id asciiCodec none self (strD l)) Q E s := by
  unfold encodeNarrow
  simp only [Std.Legacy.Range.forIn_eq_forIn_range']
  have hbad : ∀ c ∈ l, asciiCodec.bad c = false := fun c hc => by
    have := hl c hc
    show decide (c ≥ 128) = false
    simp; (first | lia | omega)
  refine wpAny_bind (wpAny_forIn_list _ (fun rest st s' => s' = s ∧ ((st = (0, #[], {}) ∧ rest.length = l.length) ∨ (st = (l.length, (asciiOf l).toArray, {})))) _ ?_ ?_ _ _ ⟨rfl, .inl ⟨rfl, by simp [Std.Legacy.Range.size]; rfl⟩⟩)
  · rintro x rest ⟨i, out, st⟩ s' ⟨rfl, h⟩
    rcases h with ⟨h, hlen⟩ | h
    · cases h
      rw [if_neg (by simp)]
      cases l with
      | nil => simp at hlen
      | cons c r =>
        show wpAny M A (if (!asciiCodec.bad c) = true then _ else _) _ _ _
        rw [hbad c List.mem_cons_self]
        refine wpAny_pure ⟨rfl, .inr ?_⟩
        have e1 : (List.toArray (c :: r)).extract 0 = (c :: r).toArray := by simp
        have e2 : ((c :: r).toArray.findIdx? asciiCodec.bad) = none := by
          rw [Array.findIdx?_eq_none_iff]
          intro x hx
          exact hbad x (by simpa using hx)
        show (0 + (((c :: r).toArray.extract 0).findIdx? asciiCodec.bad).getD ((c :: r).toArray.extract 0).size,
          (((c :: r).toArray.extract 0).extract 0 ((((c :: r).toArray.extract 0).findIdx? asciiCodec.bad).getD ((c :: r).toArray.extract 0).size)).foldl (fun acc y => acc ++ (asciiCodec.bytesOf y).toArray) #[], ({} : Faults)) = _
        rw [e1, e2]
        have e3 : (c :: r).toArray.extract 0 ((none : Option Nat).getD (c :: r).toArray.size) = (c :: r).toArray := by simp
        rw [e3]
        have e4 : ((c :: r).toArray).foldl (fun acc y => acc ++ (asciiCodec.bytesOf y).toArray) #[] = (asciiOf (c :: r)).toArray := by
          rw [List.foldl_toArray, fold_app]
          show ([] ++ (c :: r).flatMap fun (c : Nat) => [c.toUInt8]).toArray = _
          rw [List.nil_append]
          congr 1
          generalize (c :: r) = z
          induction z with
          | nil => rfl
          | cons y q ih => rw [List.flatMap_cons, ih]; rfl
        rw [e4]
        simp
    · cases h
      have hsz : (asciiOf l).toArray.size = l.length := by simp [asciiOf]
      have e1 : (strD l).cps[l.length]? = none := by simp
      have hg : ¬ ((asciiOf l).toArray.size > sizeLine) := by rw [hsz, sizeLine_eq]; (first | lia | omega)
      dsimp only
      rw [if_neg hg]
      have e2 : l.toArray[l.length]? = none := by simp
      rw [e2]
      exact wpAny_pure (wpAny_pure hQ)
  · rintro ⟨i, out, st⟩ s' ⟨rfl, h⟩
    rcases h with ⟨h, hlen⟩ | h
    · cases h
      cases l with
      | cons c r => simp at hlen
      | nil => exact wpAny_pure hQ
    · cases h
      exact wpAny_pure hQ

theorem dec_ok {id : String} {l : List UInt8} {Q : Array Nat × Nat → Shared → Prop} (hl : ∀ c ∈ l, c.toNat < 128) (hz : l.length ≤ 16777216) (hQ : Q ((textOf l).toArray, l.length) s) : wpAny M A (runDecoder id asciiDecoder none true l.toArray 0 []) Q E s := by
  unfold runDecoder
  simp only [Std.Legacy.Range.forIn_eq_forIn_range']
  refine wpAny_bind (wpAny_forIn_list _ (fun rest st s' => s' = s ∧ ∃ i, st = (i, (textOf (l.take i)).toArray, ({ held := [] } : Faults)) ∧ rest.length = l.length - i ∧ i ≤ l.length) _ ?_ ?_ _ _ ⟨rfl, 0, by simp [textOf], by simp [Std.Legacy.Range.size], Nat.zero_le _⟩)
  · rintro x rest st s' ⟨rfl, i, rfl, hlen, hi⟩
    have hlt : i < l.length := by simp at hlen; (first | lia | omega)
    have hg : ¬ ((textOf (l.take i)).toArray.size > sizeLine) := by simp [textOf, sizeLine_eq]; (first | lia | omega)
    dsimp only
    rw [if_neg hg, if_neg (by simp; (first | lia | omega))]
    have e1 : l.toArray.getD i 0 = l[i] := by simp [Array.getD, hlt]
    have e2 : asciiDecoder.find true l.toArray i = .text [(l[i]).toNat] (i + 1) := by
      show (if (l.toArray.getD i 0).toNat < 128 then Found.char (l.toArray.getD i 0).toNat (i + 1) else _) = _
      rw [e1, if_pos (hl _ (List.getElem_mem hlt))]
      rfl
    rw [e2]
    refine wpAny_pure ⟨rfl, i + 1, ?_, by simp at hlen; (first | lia | omega), hlt⟩
    have e3 : textOf (l.take (i + 1)) = textOf (l.take i) ++ [(l[i]).toNat] := by
      unfold textOf
      rw [List.take_add_one, List.getElem?_eq_getElem hlt, List.map_append]; rfl
    rw [e3]; simp
  · rintro st s' ⟨rfl, i, rfl, hlen, hi⟩
    have hin : i = l.length := by simp at hlen; (first | lia | omega)
    subst hin
    rw [List.take_length]
    exact wpAny_pure hQ
end
namespace FBA
theorem road_enc {id : String} {self : Value} {x : Str} : Builtin._codecs.encodeRoad id self x (Str.ofString "ascii") none = (Builtin._codecs.encodeNarrow id Builtin._codecs.asciiCodec none self x >>= fun r => mkBytes r) := by kernel_rfl
theorem enc_tree {x : Str} {t u : Tok} : Builtin.«str.encode» ⟨[.str x t, .str (Str.ofString "ascii") u], []⟩ = (Builtin._codecs.encodeRoad "str.encode" (.str x t) x (Str.ofString "ascii") none >>= fun r => ret r) := by kernel_rfl
theorem road_dec {id : String} {b : Array UInt8} : Builtin._codecs.decodeRoad id b (Str.ofString "ascii") none [] = (Builtin._codecs.runDecoder id Builtin._codecs.asciiDecoder none true b 0 [] >>= fun r => mkStr ⟨r.1⟩) := by kernel_rfl
theorem dec_tree {c : UInt8} {cs : List UInt8} {t u : Tok} : Builtin.«bytes.decode» ⟨[.bytes (c :: cs).toArray t, .str (Str.ofString "ascii") u], []⟩ = (mkStr (Str.ofString "utf-8") >>= fun _ => mkStr (Str.ofString "ascii") >>= fun e => mkStr (Str.ofString "bytes.decode") >>= fun d =>
    call (.builtin "_codecs.decode.text") [.bytes (c :: cs).toArray t, e, .none, d] >>= fun v => ret v) := by kernel_rfl
theorem args_decode2 (a b : Value) : argsOk "bytes.decode" ⟨[a, b], []⟩ := by unfold argsOk; kernel_rfl
end FBA
section
variable {prog : Program} {w : World} {A : Around} {E : Value → Shared → Prop} {s : Shared}

theorem call_encode {l : List Nat} {t u : Tok} {Q : Value → Shared → Prop} (hl : ∀ c ∈ l, c < 128) (hz : l.length ≤ 16777216) (hQ : ∀ t k, Q (.bytes (asciiOf l).toArray t) { s with toks := k }) :
    wpAny (model prog w) A (call (.builtin "str.encode") [.str (strD l) t, .str (Str.ofString "ascii") u]) Q E s := by
  refine wpAny_call_entry F.slot_str_encode (typeIs_str _ _ _) F.entry_str_encode ?_ (F.args_str_encode_2 _ _)
  rw [FBA.enc_tree, FBA.road_enc]
  refine wpAny_bind (wpAny_bind (enc_ok hl hz (wpAny_mkBytes (wpAny_pure ⟨_, rfl, hQ _ _⟩) ?_)))
  rw [List.size_toArray]
  simp [asciiOf, sizeLine_eq]; omega

theorem call_decode {l : List UInt8} {t u : Tok} {Q : Value → Shared → Prop} (hl : ∀ c ∈ l, c.toNat < 128) (hz : l.length ≤ 16777216) (hne : l ≠ []) (hQ : ∀ t k, Q (.str (strD (textOf l)) t) { s with toks := k }) :
    wpAny (model prog w) A (call (.builtin "bytes.decode") [.bytes l.toArray t, .str (Str.ofString "ascii") u]) Q E s := by
  cases l with
  | nil => exact absurd rfl hne
  | cons c cs =>
    refine wpAny_call_entry FB.slot_bytes_decode (PySem.W.typeIs_bytes _ _ _) FB.entry_bytes_decode ?_ (FBA.args_decode2 _ _)
    rw [FBA.dec_tree]
    refine wpAny_bind (wpAny_mkStr (wpAny_bind (wpAny_mkStr (wpAny_bind (wpAny_mkStr ?_ (by decide))) (by decide))) (by decide))
    refine wpAny_bind (call_function_meets KBd.kind_text KBd.plain_text KBd.entry_text (KBd.args_text _ _ _ _) (S := fun _ R s => (∀ t k, R (.ok (.ret (.str (strD (textOf (c :: cs))) t))) { s with toks := k })) ?_ ?_)
    · refine .of_wp fun prog w A R s hS => ?_
      show wpAny _ _ (Builtin.Bytes.bytesLike _ (.bytes (c :: cs).toArray _) >>= fun r => _) _ _ s
      refine wpAny_bind (wpAny_of_eq KBd.like_eq ?_)
      refine wpAny_bind (wpAny_of_eq KBd.held_eq ?_)
      show wpAny _ _ (Builtin._codecs.decodeRoad _ (c :: cs).toArray (Str.ofString "ascii") none [] >>= fun v => _) _ _ s
      rw [FBA.road_dec]
      refine wpAny_bind (wpAny_bind (dec_ok hl hz (wpAny_mkStr (wpAny_pure ⟨_, rfl, hS _ _⟩) ?_)))
      show (List.toArray (textOf (c :: cs))).size ≤ _
      simp only [List.size_toArray, textOf, List.length_map, sizeLine_eq]; exact hz
    · intro t k
      exact wpAny_pure ⟨_, rfl, hQ _ _⟩
end

section
variable {X : Cx} {k : Nat} {env : Env}
noncomputable def asciiS : List Nat := [97, 115, 99, 105, 105]
theorem asciiS_eq : strD asciiS = Str.ofString "ascii" := by decide +kernel
noncomputable def wEncode : List V → W V
  | [.str l, .str m] => fun Q _ σ => m = asciiS ∧ (∀ c ∈ l, c < 128) ∧ l.length ≤ 16777216 ∧ Q (.bytes (asciiOf l)) σ
  | _ => wNo
theorem wEncode_inv {vs : List V} {Q : V → St → Prop} {E : Prop} {σ : St} (h : wEncode vs Q E σ) : ∃ l m, vs = [.str l, .str m] := by
  rcases vs with _ | ⟨v, vs⟩
  · exact h.elim
  cases v <;> first | exact h.elim | skip
  rcases vs with _ | ⟨v, vs⟩
  · exact h.elim
  cases v <;> first | exact h.elim | skip
  rcases vs with _ | ⟨v, vs⟩
  case cons => exact h.elim
  exact ⟨_, _, rfl⟩
theorem tf_encode : TF X k (.builtin "str.encode") wEncode := ⟨cw_bltn, fun c A D σ s vs vals QV EV Q E P hv h O OE => g_of <| by
    obtain ⟨l, m, rfl⟩ := wEncode_inv h
    obtain ⟨x, y, rfl, hx, hy⟩ := hv.two
    obtain ⟨t, rfl⟩ := hx.str_inv
    obtain ⟨u, rfl⟩ := hy.str_inv
    obtain ⟨rfl, h1, h2, h3⟩ := h
    rw [asciiS_eq]
    exact call_encode h1 h2 fun t kk => O (.bytes (asciiOf l)) _ D σ _ (P.rel.toks kk) (DM.le_refl D) (.bytes _ _) h3⟩
noncomputable def wDecode : List V → W V
  | [.bytes l, .str m] => fun Q _ σ => m = asciiS ∧ (∀ c ∈ l, c.toNat < 128) ∧ l.length ≤ 16777216 ∧ l ≠ [] ∧ Q (.str (textOf l)) σ
  | _ => wNo
theorem wDecode_inv {vs : List V} {Q : V → St → Prop} {E : Prop} {σ : St} (h : wDecode vs Q E σ) : ∃ l m, vs = [.bytes l, .str m] := by
  rcases vs with _ | ⟨v, vs⟩
  · exact h.elim
  cases v <;> first | exact h.elim | skip
  rcases vs with _ | ⟨v, vs⟩
  · exact h.elim
  cases v <;> first | exact h.elim | skip
  rcases vs with _ | ⟨v, vs⟩
  case cons => exact h.elim
  exact ⟨_, _, rfl⟩
theorem tf_decode : TF X k (.builtin "bytes.decode") wDecode := ⟨cw_bltn, fun c A D σ s vs vals QV EV Q E P hv h O OE => g_of <| by
    obtain ⟨l, m, rfl⟩ := wDecode_inv h
    obtain ⟨x, y, rfl, hx, hy⟩ := hv.two
    obtain ⟨t, rfl⟩ := hx.bytes_inv
    obtain ⟨u, rfl⟩ := hy.str_inv
    obtain ⟨rfl, h1, h2, h3, h4⟩ := h
    rw [asciiS_eq]
    exact call_decode h1 h2 h3 fun t kk => O (.str (textOf l)) _ D σ _ (P.rel.toks kk) (DM.le_refl D) (.str _ _) h4⟩
noncomputable def isBytesV : V → St → Prop
  | .bytes _, _ => True
  | _, _ => False
theorem tm_bytes {name : Str} {id : String} (slot : Slot "bytes" name id) (ty : typeOf (.builtin id) = pure (.type "method_descriptor")) : TM X k name id isBytesV :=
  fun c A D σ s v vv Q E pl P hv h hq => by
    cases hv <;> first | exact h.elim | skip
    exact getMethod_builtin (PySem.W.typeIs_bytes _ _ _) FB.plainAttrs_bytes slot ty (fun _ e => nomatch e) hq
end
end Mine
end

section
open PySem PySem.W PyProof.Rows PySem.Calls
namespace Mine
namespace FBA
theorem slot_find : Slot "bytes" "find" "bytes.find" :=
  .of (owner := "bytes") (n := "find") (by rw [typeLookup_type, builtinLookup_eq_fast]; kernel_rfl) (by decide +kernel) (by decide +kernel) (by decide +kernel)
    (by first | exact .inl (by decide +kernel) | exact .inr (by decide +kernel)) (by rw [isSubtype_type]; kernel_rfl)
theorem type_find : typeOf (.builtin "bytes.find") = pure (.type "method_descriptor") := by show builtinType _ = _; rw [builtinType_eq_fast]; kernel_rfl
theorem entry_find : entryFor table "bytes.find" = some Builtin.«bytes.find» := by first | exact entryFor_of_fast (by kernel_rfl) | exact entryFor_of_tree (by kernel_rfl)
theorem args_find (a b c : Value) : argsOk "bytes.find" ⟨[a, b, c], []⟩ := by unfold argsOk; kernel_rfl
theorem slot_join : Slot "bytes" "join" "bytes.join" :=
  .of (owner := "bytes") (n := "join") (by rw [typeLookup_type, builtinLookup_eq_fast]; kernel_rfl) (by decide +kernel) (by decide +kernel) (by decide +kernel)
    (by first | exact .inl (by decide +kernel) | exact .inr (by decide +kernel)) (by rw [isSubtype_type]; kernel_rfl)
theorem type_join : typeOf (.builtin "bytes.join") = pure (.type "method_descriptor") := by show builtinType _ = _; rw [builtinType_eq_fast]; kernel_rfl
theorem entry_join : entryFor table "bytes.join" = some Builtin.«bytes.join» := by first | exact entryFor_of_fast (by kernel_rfl) | exact entryFor_of_tree (by kernel_rfl)
theorem args_join (a b : Value) : argsOk "bytes.join" ⟨[a, b], []⟩ := by unfold argsOk; kernel_rfl
theorem int_index {i : Int} {t : Tok} : specialOf (.int i t) "__index__" = pure (some (.builtin "int.__index__")) := by
  have e : specialOf (.int i t) "__index__" = typeLookup (.type "int") "__index__" := rfl
  rw [e, F.slot_int_index.lookup]
end FBA

theorem find_one {l : List UInt8} {x : UInt8} {lo j : Nat} (h1 : lo ≤ j) (h2 : l[j]? = some x) (h3 : ∀ m, lo ≤ m → m < j → l[m]? ≠ some x) :
    Builtin.Bytes.find? l.toArray [x].toArray lo l.length = some j := by
  have hj := (List.getElem?_eq_some_iff.mp h2).1
  have ext : ∀ m, (l.toArray.extract m (m + [x].toArray.size) == [x].toArray) = (l[m]? == some x) := by
    intro m
    have : l.toArray.extract m (m + [x].toArray.size) = ((l.drop m).take 1).toArray := by simp
    rw [this]
    by_cases hm : m < l.length
    · rw [List.getElem?_eq_getElem hm, List.drop_eq_getElem_cons hm, List.take_succ_cons, List.take_zero]
      by_cases e : l[m] = x
      · subst e; simp
      · rw [beq_eq_false_iff_ne.mpr (by simpa using e), beq_eq_false_iff_ne.mpr (by simpa using e)]
    · rw [List.getElem?_eq_none (by (first | lia | omega)), List.drop_of_length_le (by (first | lia | omega))]
      rfl
  unfold Builtin.Bytes.find?
  rw [List.find?_map]
  have : List.find? ((fun i => l.toArray.extract i (i + [x].toArray.size) == [x].toArray) ∘ fun x => x + lo) (List.range (l.length + 1 - (lo + [x].toArray.size))) = some (j - lo) := by
    rw [List.find?_range_eq_some]
    refine ⟨?_, by rw [List.mem_range]; simp; (first | lia | omega), fun m hm => ?_⟩
    · show (l.toArray.extract (j - lo + lo) _ == _) = true
      rw [ext, show j - lo + lo = j by (first | lia | omega), h2]; simp
    · show (!(l.toArray.extract (m + lo) _ == _)) = true
      rw [ext, Bool.not_eq_true', beq_eq_false_iff_ne]
      exact h3 _ (by (first | lia | omega)) (by (first | lia | omega))
  rw [this]
  show some (j - lo + lo) = _
  rw [show j - lo + lo = j by (first | lia | omega)]

section
variable {prog : Program} {w : World} {A : Around} {E : Value → Shared → Prop} {s : Shared}
theorem call_find {l : List UInt8} {x : UInt8} {i : Int} {t u v : Tok} {j : Nat} {Q : Value → Shared → Prop} (h0 : 0 ≤ i) (h1 : i ≤ j) (h2 : l[j]? = some x) (h3 : ∀ m : Nat, i ≤ m → m < j → l[m]? ≠ some x)
    (hQ : Q (.int j s.toks) { s with toks := s.toks + 1 }) : wpAny (model prog w) A (call (.builtin "bytes.find") [.bytes l.toArray t, .bytes [x].toArray u, .int i v]) Q E s := by
  have hj := (List.getElem?_eq_some_iff.mp h2).1
  refine wpAny_call_entry FBA.slot_find (PySem.W.typeIs_bytes _ _ _) FBA.entry_find ?_ (FBA.args_find _ _ _)
  have hb : Builtin.Bytes.bound? (some (.int i v)) = pure (some i) := by
    show (specialOf (.int i v) (Str.ofString "__index__") >>= fun r => _) = _
    rw [FBA.int_index]; rfl
  show wpAny _ _ (Builtin.Bytes.searchArgs .bytes "find" ⟨[.bytes l.toArray t, .bytes [x].toArray u, .int i v], []⟩ >>= _) _ _ _
  unfold Builtin.Bytes.searchArgs
  refine wpAny_bind (wpAny_bind (wpAny_of_eq (a := (Value.bytes l.toArray t, [Value.bytes [x].toArray u, Value.int i v])) (by kernel_rfl) ?_))
  refine wpAny_bind (wpAny_of_eq hb ?_)
  refine wpAny_bind (wpAny_of_eq (a := (none : Option Int)) rfl ?_)
  refine wpAny_bind (wpAny_of_eq KBy.buffer_eq ?_)
  refine wpAny_bind (wpAny_pure ?_)
  refine wpAny_bind (wpAny_of_eq (a := l.toArray) rfl ?_)
  have hw : Builtin.Bytes.window l.toArray.size (some i) none = (i, (l.length : Int)) := by
    unfold Builtin.Bytes.window
    simp only [Option.getD_some, Option.getD_none, List.size_toArray]
    rw [if_neg (by (first | lia | omega)), if_neg (by (first | lia | omega))]
    simp
  rw [hw]
  have hc : ¬ ((l.length : Int) - i < ([x].toArray.size : Int)) := by simp; (first | lia | omega)
  refine wpAny_pure ?_
  dsimp only
  rw [if_neg hc]
  show wpAny _ _ (match Builtin.Bytes.find? l.toArray [x].toArray i.toNat (l.length : Int).toNat with | some k => _ | none => _) _ _ _
  rw [show (l.length : Int).toNat = l.length by simp, find_one (l := l) (x := x) (lo := i.toNat) (j := j) (by (first | lia | omega)) h2 fun m a b => h3 m (by (first | lia | omega)) b]
  exact wpAny_bind (wpAny_mkInt (wpAny_pure ⟨_, rfl, hQ⟩))
end
end Mine
end

section
open PySem PySem.W PyProof.Rows PySem.Calls
namespace Mine

noncomputable def joinB (sep : List UInt8) : List (List UInt8) → List UInt8
  | [] => []
  | y :: r => y ++ r.flatMap fun z => sep ++ z

theorem joined_eq (sep : List UInt8) (ys : List (List UInt8)) : Builtin.Bytes.joined sep.toArray (ys.map List.toArray) = (joinB sep ys).toArray := by
  unfold Builtin.Bytes.joined
  have go : ∀ (l : List (List UInt8)) (n : Nat) (acc : Array UInt8), 0 < n → ((l.map List.toArray).zipIdx n).foldl (fun out (p : Array UInt8 × Nat) => (if p.2 > 0 then out ++ sep.toArray else out) ++ p.1) acc = acc ++ (l.flatMap fun z => sep ++ z).toArray := by
    intro l
    induction l with
    | nil => intro n acc _; simp
    | cons y r ih =>
      intro n acc hn
      rw [List.map_cons, List.zipIdx_cons, List.foldl_cons, ih _ _ (Nat.succ_pos _)]
      rw [if_pos hn]
      simp
  cases ys with
  | nil => rfl
  | cons y r =>
    rw [List.map_cons, List.zipIdx_cons, List.foldl_cons]
    have := go r 1 ((if (0 : Nat) > 0 then #[] ++ sep.toArray else #[]) ++ y.toArray) (by decide)
    show ((r.map List.toArray).zipIdx (0 + 1)).foldl _ _ = _
    refine Eq.trans this ?_
    simp [joinB]

theorem total_eq (sep : List UInt8) (ys : List (List UInt8)) : (ys.map List.toArray).toArray.foldl (fun n (p : Array UInt8) => n + p.size) (sep.toArray.size * ((ys.map List.toArray).toArray.size - 1)) = (joinB sep ys).length := by
  rw [List.foldl_toArray]
  have go : ∀ (l : List (List UInt8)) (n : Nat), (l.map List.toArray).foldl (fun n (p : Array UInt8) => n + p.size) n = n + (l.map List.length).sum := by
    intro l
    induction l with
    | nil => intro n; simp
    | cons y r ih => intro n; rw [List.map_cons, List.foldl_cons, ih]; simp; (first | lia | omega)
  rw [go]
  cases ys with
  | nil => simp [joinB]
  | cons y r =>
    have : ∀ l : List (List UInt8), (l.flatMap fun z => sep ++ z).length = sep.length * l.length + (l.map List.length).sum := by
      intro l
      induction l with
      | nil => simp
      | cons z q ih => rw [List.flatMap_cons, List.length_append, ih]; simp; rw [Nat.mul_succ]; (first | lia | omega)
    simp [joinB, this]; (first | lia | omega)

section
variable {prog : Program} {w : World} {A : Around} {E : Value → Shared → Prop} {s : Shared}

theorem letgo_bytes : ∀ (zs : List (List UInt8 × Tok)) (keep : List Value) {Q : Unit → Shared → Prop}, Q () s → wpAny (model prog w) A (Builtin.Bytes.joinLetGo (zs.map fun p => (Value.bytes p.1.toArray p.2, (none : Option Value))) keep) Q E s
  | [], _, _, h => wpAny_pure h
  | z :: r, keep, _, h => by
    show wpAny _ _ (letGo (Value.bytes z.1.toArray z.2 :: []) (keep ++ (r.map fun p => (Value.bytes p.1.toArray p.2, (none : Option Value))).flatMap fun q => q.1 :: q.2.toList) >>= fun _ => Builtin.Bytes.joinLetGo (r.map fun p => (Value.bytes p.1.toArray p.2, (none : Option Value))) keep) _ _ _
    exact wpAny_bind (wpAny_letGo (letgo_bytes r keep h))

theorem take_bytes {id : String} {x : Array UInt8} {t : Tok} : Builtin.Bytes.takeBufferQuiet? id (.bytes x t) 0 = pure (some (x, none)) := by
  have e : Builtin.Bytes.takeBuffer? id (.bytes x t) 0 = pure (some (x, none)) := by
    unfold Builtin.Bytes.takeBuffer?
    rw [KBy.special_eq KBy.look_buffer, KBy.own_buffer]
    show (Builtin.Bytes.buffer? id (.bytes x t) _ >>= fun r => _) = _
    rw [show ((0 : Int) == Builtin.Bytes.fullReadOnly) = false by decide +kernel, KBy.buffer_eq]
    rfl
  unfold Builtin.Bytes.takeBufferQuiet?
  rw [e]; rfl

theorem call_bjoin {sep : List UInt8} {t : Tok} {a : Addr} {o : Obj} {n : Nat} {zs : List (List UInt8 × Tok)} {Q : Value → Shared → Prop} (ho : s.heap.get? a = some { cls := .type "list", data := .seq (zs.map fun p => Value.bytes p.1.toArray p.2).toArray n })
    (hz : (joinB sep (zs.map (·.1))).length ≤ 16777216) (hQ : ∀ t k, Q (.bytes (joinB sep (zs.map (·.1))).toArray t) { s with toks := k }) :
    wpAny (model prog w) A (call (.builtin "bytes.join") [.bytes sep.toArray t, .ref a]) Q E s := by
  have hT : s.TypeIs (.ref a) "list" := ⟨_, ho, rfl⟩
  refine wpAny_call_entry FBA.slot_join (PySem.W.typeIs_bytes _ _ _) FBA.entry_join ?_ (FBA.args_join _ _)
  show wpAny _ _ (Builtin.Bytes.joinM .bytes ⟨[.bytes sep.toArray t, .ref a], []⟩) _ _ _
  unfold Builtin.Bytes.joinM
  refine wpAny_bind (wpAny_of_eq (a := (Value.bytes sep.toArray t, Value.ref a)) (by kernel_rfl) ?_)
  dsimp only
  refine bm_if_true (by decide) ?_
  refine wpAny_bind ?_
  unfold Builtin.Bytes.joinItems
  refine wpAny_bind (wpAny_typeOf hT ?_)
  refine bm_if_true (by decide) ?_
  refine wpAny_pure ?_
  refine wpAny_bind (wpAny_seqItems ho rfl ?_)
  dsimp only
  refine bm_if_true (by decide) ?_
  have one : ∀ z : List UInt8 × Tok, zs = [z] → Q (Value.bytes z.1.toArray z.2) s := fun z e => by
    subst e
    have : joinB sep ([z].map (·.1)) = z.1 := by simp [joinB]
    rw [this] at hQ
    exact hQ z.2 s.toks
  have fin : ∀ Z : List (List UInt8 × Tok), Z = zs → wpAny (model prog w) A.in1 (do
      let sep' ← Builtin.Bytes.payload (.bytes sep.toArray t)
      if Builtin.Bytes.tooLong (((Z.map fun p => p.1.toArray).toArray).foldl (fun n (p : Array UInt8) => n + p.size) (sep'.size * (((Z.map fun p => p.1.toArray).toArray).size - 1))) = true then
        (do unsupported "bytes.join:memory"
            let result ← Builtin.Bytes.Kind.new .bytes (Builtin.Bytes.joined sep' ((Z.map fun p => p.1.toArray).toArray).toList)
            holding (result :: (Z.map fun p => (Value.bytes p.1.toArray p.2, (none : Option Value))).flatMap fun x => x.1 :: x.2.toList) point
            Builtin.Bytes.joinLetGo (Z.map fun p => (Value.bytes p.1.toArray p.2, (none : Option Value))) [result]
            ret result)
      else
        (do let result ← Builtin.Bytes.Kind.new .bytes (Builtin.Bytes.joined sep' ((Z.map fun p => p.1.toArray).toArray).toList)
            holding (result :: (Z.map fun p => (Value.bytes p.1.toArray p.2, (none : Option Value))).flatMap fun x => x.1 :: x.2.toList) point
            Builtin.Bytes.joinLetGo (Z.map fun p => (Value.bytes p.1.toArray p.2, (none : Option Value))) [result]
            ret result)) (fun fin s' => ∃ v, fin = Fin.done (.ret v) ∧ Q v s') E s := fun Z hZ => by
    subst hZ
    have em : Z.map (fun p => p.1.toArray) = (Z.map (·.1)).map List.toArray := by rw [List.map_map]; rfl
    refine wpAny_bind (wpAny_of_eq (a := sep.toArray) rfl ?_)
    rw [em]
    have e0 := total_eq sep (Z.map (·.1))
    rw [e0, if_neg (by unfold Builtin.Bytes.tooLong; simp [sizeLine_eq]; (first | lia | omega))]
    show wpAny _ _ (mkBytes (Builtin.Bytes.joined sep.toArray ((Z.map (·.1)).map List.toArray)) >>= _) _ _ _
    rw [joined_eq]
    refine wpAny_bind (wpAny_mkBytes ?_ (by rw [List.size_toArray]; exact hz))
    refine wpAny_bind (wpAny_holding (wpAny_point ?_))
    exact wpAny_bind (letgo_bytes _ _ (wpAny_pure ⟨_, rfl, hQ _ _⟩))
  rcases zs with _ | ⟨z1, _ | ⟨z2, r⟩⟩
  · show wpAny _ _ (forIn [: _] _ _ >>= _) _ _ _
    simp only [Std.Legacy.Range.forIn_eq_forIn_range']
    exact wpAny_bind (wpAny_pure (fin [] rfl))
  · show wpAny _ _ (typeOf (Value.bytes z1.1.toArray z1.2) >>= fun q => if (q == Value.type "bytes") = true then (rule "bytes.join.one-item" >>= fun _ => ret (Value.bytes z1.1.toArray z1.2)) else _) _ _ _
    refine wpAny_bind (wpAny_typeOf (PySem.W.typeIs_bytes _ _ _) ?_)
    refine bm_if_true (by decide) ?_
    refine wpAny_bind (wpAny_rule ?_)
    exact wpAny_pure ⟨_, rfl, one z1 rfl⟩
  · show wpAny _ _ (forIn [: _] _ _ >>= _) _ _ _
    generalize hZ : (z1 :: z2 :: r) = Z at *
    simp only [Std.Legacy.Range.forIn_eq_forIn_range']
    refine wpAny_bind (wpAny_forIn_list _ (fun rest st s' => s' = s ∧ ∃ i, st = (((Z.take i).map fun p => p.1.toArray).toArray, (Z.take i).map fun p => (Value.bytes p.1.toArray p.2, (none : Option Value))) ∧ rest = List.range' i (Z.length - i) ∧ i ≤ Z.length) _ ?_ ?_ _ _ ⟨rfl, 0, rfl, by simp [Std.Legacy.Range.size], Nat.zero_le _⟩)
    · rintro i rest st s' ⟨rfl, j, rfl, hr, hj⟩
      have hlt : j < Z.length := by
        rcases Nat.lt_or_ge j Z.length with h | h
        · exact h
        · rw [Nat.sub_eq_zero_of_le h] at hr; cases hr
      have hr' : i = j ∧ rest = List.range' (j + 1) (Z.length - (j + 1)) := by
        rw [show Z.length - j = (Z.length - (j + 1)) + 1 by (first | lia | omega), List.range'_succ] at hr
        simpa using hr
      obtain ⟨rfl, rfl⟩ := hr'
      refine wpAny_bind (wpAny_seqItems ho rfl ?_)
      dsimp only
      have hget : ((Z.map fun p => Value.bytes p.1.toArray p.2).toArray).getD i .none = Value.bytes (Z[i]).1.toArray (Z[i]).2 := by simp [Array.getD, hlt]
      rw [hget]
      have hany : (((Z.take i).map fun p => (Value.bytes p.1.toArray p.2, (none : Option Value))).any fun x => x.1.onHeap) = false := by
        rw [List.any_eq_false]
        intro x hx
        obtain ⟨p, _, rfl⟩ := List.mem_map.mp hx
        simp [Value.onHeap]
      rw [hany]
      refine bm_if_false rfl ?_
      refine wpAny_bind (wpAny_holding (wpAny_of_eq take_bytes ?_))
      dsimp only
      refine wpAny_bind (wpAny_seqItems ho rfl ?_)
      dsimp only
      refine bm_if_false (by simp) ?_
      have e3 : Z.take (i + 1) = Z.take i ++ [Z[i]] := by rw [List.take_add_one, List.getElem?_eq_getElem hlt]; rfl
      refine wpAny_pure ⟨rfl, i + 1, ?_, rfl, hlt⟩
      rw [e3, List.map_append, List.map_append]
      simp only [List.push_toArray, List.map_cons, List.map_nil]
    · rintro st s' ⟨rfl, j, rfl, hr, hj⟩
      have hin : j = Z.length := by
        have := congrArg List.length hr
        simp at this; (first | lia | omega)
      subst hin
      rw [List.take_length]
      exact fin Z rfl
end

section
variable {X : Cx} {k : Nat} {env : Env}
theorem VRs.bytes' {D : DM} : ∀ {ys : List (List UInt8)} {vals : List Value}, VRs D (ys.map V.bytes) vals → ∃ zs : List (List UInt8 × Tok), vals = zs.map (fun p => Value.bytes p.1.toArray p.2) ∧ zs.map (·.1) = ys
  | [], _, .nil => ⟨[], rfl, rfl⟩
  | _ :: _, _, .cons h hs => by
    cases h
    rename_i y r t
    obtain ⟨zs, h1, h2⟩ := hs.bytes'
    exact ⟨(_, t) :: zs, by rw [h1]; rfl, by rw [← h2]; rfl⟩
noncomputable def wBJoin : List V → W V
  | [.bytes sep, .list vs] => fun Q _ σ => ∃ ys : List (List UInt8), vs = ys.map V.bytes ∧ (joinB sep ys).length ≤ 16777216 ∧ Q (.bytes (joinB sep ys)) σ
  | _ => wNo
theorem wBJoin_inv {vs : List V} {Q : V → St → Prop} {E : Prop} {σ : St} (h : wBJoin vs Q E σ) : ∃ l m, vs = [.bytes l, .list m] := by
  rcases vs with _ | ⟨v, vs⟩
  · exact h.elim
  cases v <;> first | exact h.elim | skip
  rcases vs with _ | ⟨v, vs⟩
  · exact h.elim
  cases v <;> first | exact h.elim | skip
  rcases vs with _ | ⟨v, vs⟩
  case cons => exact h.elim
  exact ⟨_, _, rfl⟩
theorem tf_bjoin : TF X k (.builtin "bytes.join") wBJoin := ⟨cw_bltn, fun c A D σ s vs vals QV EV Q E P hv h O OE => g_of <| by
    obtain ⟨sep, us, rfl⟩ := wBJoin_inv h
    obtain ⟨x, y, rfl, hx, hy⟩ := hv.two
    obtain ⟨t, rfl⟩ := hx.bytes_inv
    obtain ⟨vals', a, n, rfl, hl, hus⟩ := hy.list_inv
    obtain ⟨ys, rfl, h1, h2⟩ := h
    obtain ⟨zs, rfl, rfl⟩ := hus.bytes'
    exact call_bjoin (o := default) (P.rel.kD _ _ hl) h1 fun t kk => O (.bytes _) _ D σ _ (P.rel.toks kk) (DM.le_refl D) (.bytes _ _) h2⟩
noncomputable def wFind : List V → W V
  | [.bytes l, .bytes [x], .int i] => fun Q _ σ => ∃ j : Nat, 0 ≤ i ∧ i ≤ j ∧ l[j]? = some x ∧ (∀ m : Nat, i ≤ m → m < j → l[m]? ≠ some x) ∧ Q (.int j) σ
  | _ => wNo
theorem wFind_inv {vs : List V} {Q : V → St → Prop} {E : Prop} {σ : St} (h : wFind vs Q E σ) : ∃ l x i, vs = [.bytes l, .bytes [x], .int i] := by
  rcases vs with _ | ⟨v, vs⟩
  · exact h.elim
  cases v <;> first | exact h.elim | skip
  rcases vs with _ | ⟨v, vs⟩
  · exact h.elim
  cases v <;> first | exact h.elim | skip
  rename_i l; rcases l with _ | ⟨c, l⟩
  · exact h.elim
  rcases l with _ | ⟨c2, l⟩
  case cons => exact h.elim
  rcases vs with _ | ⟨v, vs⟩
  · exact h.elim
  cases v <;> first | exact h.elim | skip
  rcases vs with _ | ⟨v, vs⟩
  case cons => exact h.elim
  exact ⟨_, _, _, rfl⟩
theorem tf_find : TF X k (.builtin "bytes.find") wFind := ⟨cw_bltn, fun c A D σ s vs vals QV EV Q E P hv h O OE => g_of <| by
    obtain ⟨l, x, i, rfl⟩ := wFind_inv h
    obtain ⟨y, z, q, rfl, hy, hz, hq⟩ := hv.three
    obtain ⟨t, rfl⟩ := hy.bytes_inv
    obtain ⟨u, rfl⟩ := hz.bytes_inv
    obtain ⟨v, rfl⟩ := hq.int_inv
    obtain ⟨j, h1, h2, h3, h4, h5⟩ := h
    exact call_find h1 h2 h3 h4 (O (.int j) _ D σ _ (P.rel.toks _) (DM.le_refl D) (.int _ _) h5)⟩
end
end Mine
end

section
open PySem PySem.W PyProof.Rows PySem.Calls
namespace Mine

theorem foldl_rep (l : List Nat) : ∀ (n : Nat) (acc : Array Nat), (List.replicate n l.toArray).foldl (· ++ ·) acc = acc ++ ((List.replicate n l).flatten).toArray
  | 0, acc => by simp
  | n + 1, acc => by
    rw [List.replicate_succ, List.replicate_succ, List.foldl_cons, foldl_rep l n]
    simp

theorem mul_text (l : List Nat) (n : Int) (h0 : 0 ≤ n) : Txt.mul (strD l) n = strD (List.replicate n.toNat l).flatten := by
  unfold Txt.mul
  split
  · rename_i h
    have : n = 0 := by (first | lia | omega)
    subst this; rfl
  · split
    · rename_i h1 h2
      simp only [Bool.or_eq_true, beq_iff_eq] at h2
      rcases h2 with rfl | h2
      · simp
      · have : l = [] := by
          cases l with
          | nil => rfl
          | cons a r => rw [strD_len] at h2; simp at h2
        subst this; simp
    · show (⟨_⟩ : Str) = ⟨_⟩
      congr 1
      rw [foldl_rep]
      simp

theorem mul_fits (l : List Nat) (n : Int) (h0 : 0 ≤ n) (h1 : n ≤ 1000) (h2 : l.length ≤ 1000) : MulOk (strD l) n := by
  refine ⟨by simp; (first | lia | omega), fun g _ => ?_, fun g _ => ?_⟩
  · have hq : (1000 : Int) ≤ (2 ^ 63 - 1) / n := by
      rw [Int.le_ediv_iff_mul_le (by (first | lia | omega))]
      have : (1000 : Int) * n ≤ 1000 * 1000 := by (first | lia | omega)
      (first | lia | omega)
    rw [strD_len]
    (first | lia | omega)
  · rw [strD_len]
    have : l.length * n.toNat ≤ 1000 * 1000 := Nat.mul_le_mul h2 (by (first | lia | omega))
    have h5 : ¬ (l.length * n.toNat > sizeLine) := by
      have : (1000 * 1000 : Nat) ≤ sizeLine := by decide
      (first | lia | omega)
    simp only [Builtin.Str.tooLong, decide_eq_false_iff_not]
    exact h5

theorem VR.set {D : DM} {v : V} {x : Value} (hv : VR D v x) : ∀ {vs : List V} {xs : List Value} (i : Nat), VRs D vs xs → VRs D (vs.set i v) (xs.set i x)
  | _, _, _, .nil => .nil
  | _, _, 0, .cons h hs => .cons hv hs
  | _, _, i + 1, .cons h hs => .cons h (hv.set i hs)

theorem setItem_raw {prog : Program} {w : World} {A : Around} {E : Value → Shared → Prop} {s : Shared} {l : Addr} {vals : List Value} {nn : Nat} {k : Int} {t : Tok} {v : Value} {Q : Unit → Shared → Prop}
    (ho : s.heap.get? l = some { cls := .type "list", data := .seq vals.toArray nn }) (h0 : 0 ≤ k) (hfit : k < 2 ^ 63) (hn : k.toNat < vals.length)
    (hQ : ∀ h' nn', h'.get? l = some { cls := .type "list", data := .seq (vals.set k.toNat v).toArray nn' } → Heap.SameBut l s.heap h' → Q () { s with heap := h' }) :
    wpAny (model prog w) A (setItem (.ref l) (.int k t) v) Q E s := by
  have hT : s.TypeIs (.ref l) "list" := ⟨_, ho, rfl⟩
  have hx : vals.toArray[k.toNat]? = some vals[k.toNat] := by simp [hn]
  have e1 : Obj.mapSeq (·.setIfInBounds k.toNat v) { cls := .type "list", data := .seq vals.toArray nn } = { cls := .type "list", data := .seq (vals.set k.toNat v).toArray nn } := by
    simp [Obj.mapSeq]
  have fin : Q () { s with heap := s.heap.update l (Obj.mapSeq (·.setIfInBounds k.toNat v)) } := by
    refine hQ _ nn ?_ (Heap.SameBut.update ..)
    have := Heap.get?_update_self (Obj.mapSeq (·.setIfInBounds k.toNat v)) ho (by rw [e1]; rfl)
    rw [this, e1]
  unfold setItem
  try with_reducible refine wpAny_holding ?_
  first | refine wpAny_bind (wpAny_pure ?_) | skip
  refine wpAny_bind (wpAny_sequenceKey hT (by decide) ?_)
  refine wpAny_bind (wpAny_callSpecial?_slot (name := Str.ofString "__setitem__") hT slot_list_setitem (wpAny_call_entry slot_list_setitem hT entry_list_setitem ?_ (args_list_setitem _ _ _)))
  show wpAny _ _ (Builtin.List.listSubscript? (.int k t) >>= _) _ _ s
  refine wpAny_bind (wpAny_listSubscript_int (fitsIndex_of h0 hfit) ?_)
  obtain ⟨j, rfl⟩ := Int.eq_ofNat_of_zero_le h0
  show wpAny _ _ ((seqItemAt l j >>= fun r => pure (r.map (j, ·))) >>= _) _ _ s
  refine wpAny_bind (wpAny_bind (wpAny_seqItemAt ho rfl (wpAny_pure ?_)))
  have hx' : vals.toArray[j]? = some vals[j] := hx
  rw [hx']
  show wpAny _ _ (setSeqItemAt l j v >>= _) _ _ s
  refine wpAny_bind (wpAny_setSeqItemAt ho rfl ?_)
  first
    | exact wpAny_bind (wpAny_pure (wpAny_pure ⟨.none, rfl, wpAny_pure fin⟩))
    | exact wpAny_pure ⟨.none, rfl, wpAny_pure fin⟩

section
variable {X : Cx} {k : Nat} {env : Env}
theorem fSMul_inv {a b : V} {Q : V → St → Prop} {E : Prop} {σ : St} (h : fSMul a b Q E σ) : (∃ x y, a = .str x ∧ b = .int y) := by
  cases a <;> first | exact h.elim | (cases b <;> first | exact h.elim | exact ⟨_, _, rfl, rfl⟩)
theorem tb_smul : TB X k (binaryOp .Mult) fSMul :=
  fun c A D σ s a b va vb QV EV Q E P h1 h2 h3 O OE => by
    obtain ⟨i, j, rfl, rfl⟩ := fSMul_inv h3
    obtain ⟨t, rfl⟩ := h1.str_inv
    obtain ⟨u, rfl⟩ := h2.int_inv
    obtain ⟨g0, g1, g2, g3⟩ := h3
    refine SB.mul (mul_fits _ _ g0 g1 g2) fun t' kk => ?_
    rw [mul_text _ _ g0]
    exact O _ _ D σ _ (P.rel.toks _) (DM.le_refl D) (.str _ _) g3

theorem wMax_inv {vs : List V} {Q : V → St → Prop} {E : Prop} {σ : St} (h : wMax vs Q E σ) : ∃ l, vs = [.list l] := by
  rcases vs with _ | ⟨v, vs⟩
  · exact h.elim
  cases v <;> first | exact h.elim | skip
  rcases vs with _ | ⟨v, vs⟩
  case cons => exact h.elim
  exact ⟨_, rfl⟩
theorem tf_max : TF X k (.builtin "max") wMax := ⟨cw_bltn, fun c A D σ s vs vals QV EV Q E P hv h O OE => g_of <| by
    obtain ⟨us, rfl⟩ := wMax_inv h
    obtain ⟨x, rfl, hx⟩ := hv.one
    obtain ⟨vals', a, n, rfl, hl, hus⟩ := hx.list_inv
    obtain ⟨ns, rfl, hne, hq⟩ := h
    have hi := hus.ints
    have il := P.rel.kD _ _ hl
    obtain ⟨xs, e⟩ := hi.allInts.items
    have hns : ns = xs.toList.map (·.1) := by
      rw [← hi.numsOf, ← nums_intItems, ← e]
    have hpos : 0 < ns.length := List.length_pos_iff.mpr hne
    have hsz : 0 < xs.size := by
      have h3 := hpos; rw [hns, List.length_map, Array.length_toList] at h3; exact h3
    have il' : s.heap.IsList _ (intItems xs) := ⟨_, il, rfl, _, by rw [← e]⟩
    refine max_intList P.hh il' hsz fun v h' tk hv' hk => ?_
    obtain ⟨t, rfl⟩ := intItems_at hv'
    obtain ⟨h1, h2⟩ := argBest_gt (numAt xs) (xs.size - 1)
    refine O (.int _) _ D σ _ (P.rel.keep (t' := tk) hk) (DM.le_refl D) (.int _ t) (hq _ ?_ fun a ha => ?_)
    · rw [hns, numAt_eq]; exact getD_mem (by rw [List.length_map, Array.length_toList]; omega)
    · rw [hns] at ha
      obtain ⟨j, hj, rfl⟩ := mem_getD ha
      rw [List.length_map, Array.length_toList] at hj
      rw [← numAt_eq]; exact h2 j (by omega)⟩

/-- `bag[i] = e` -/
noncomputable abbrev kI3 (v ov : V) (QV : FV → St → Prop) : V → St → Prop := fun iv σ => ∃ a vs n pre post, ov = .raw (.ref a) ∧ iv = .int n ∧ σ.objs = pre ++ (a, .list vs) :: post ∧ 0 ≤ n ∧ n < 2 ^ 63 ∧ n.toNat < vs.length ∧ QV .next { σ with objs := pre ++ (a, .list (vs.set n.toNat v)) :: post }
noncomputable abbrev kI2 (di : W V) (v : V) (QV : FV → St → Prop) (EV : Prop) : V → St → Prop := fun ov σ => di (kI3 v ov QV) EV σ
noncomputable abbrev kI1 (do_ di : W V) (QV : FV → St → Prop) (EV : Prop) : V → St → Prop := fun v σ => do_ (kI2 di v QV EV) EV σ
noncomputable abbrev wSetI (de do_ di : W V) : W FV := fun QV EV σ => de (kI1 do_ di QV EV) EV σ
theorem ts_setitem {o i e : Expr} {pos pos' : Pos} {de do_ di : W V} (he : TE X k env e de) (ho : TE X k env o do_) (hi : TE X k env i di) (hs : swapsWith e (some (.Subscript o i pos')) pos.line env = pure false := by rfl) :
    TS1 X k env (.Assign [.Subscript o i pos'] e pos) (wSetI de do_ di) :=
  fun c A D σ s QV EV Q E hc P h O OE => by
    rw [exec_Assign_Subscript o i pos' e pos hs]
    refine g_stand (g_bind (he c A D σ s _ EV _ E hc P h (fun v vv D1 σ1 s1 R1 l1 hv q => ?_) OE))
    rw [assign_Subscript]
    refine g_bind (g_bind (g_holding ?_))
    refine ho c A D1 σ1 s1 _ EV _ E hc (P.to R1) q (fun ov ovv D2 σ2 s2 R2 l2 hov q2 => ?_) OE
    refine g_bind (g_holding ?_)
    refine hi c A D2 σ2 s2 _ EV _ E hc (P.to R2) q2 (fun iv ivv D3 σ3 s3 R3 l3 hiv q3 => ?_) OE
    obtain ⟨a, vs, n, pre, post, rfl, rfl, hobj, n0, n1, n2, hq⟩ := q3
    cases hov
    cases hiv
    obtain ⟨vals, nn, hl, hvs⟩ := R3.obj (a, .list vs) (by rw [hobj]; simp)
    have hlen := hvs.length
    refine g_stand (g_bind (g_holding (g_of <| setItem_raw hl n0 n1 (by (first | lia | omega)) fun h' nn' hn hsb => ?_)))
    have R4 := Rel.turn (P.to R3) (mo' := .list (vs.set n.toNat v)) (t' := s3.toks) hobj rfl (h' := h') ⟨_, nn', hn, (hv.mono (DM.le_trans l2 l3)).set n.toNat hvs⟩ fun b o hb e => (hsb.2 b (fun q => hb (by simp [footO, q]))).trans e
    have fin := O .next .next D3 _ _ R4 (DM.le_trans l1 (DM.le_trans l2 l3)) rfl hq
    exact g_of (wpAny_release (g_pure fin))
end
end Mine
end

section
open PySem PySem.W PyProof.Rows PySem.Calls
namespace Mine

theorem EqAt_bytes {A : Around} {s : Shared} (b c : List UInt8) (t u : Tok) : SeqAt.EqAt A s (.bytes b.toArray t) (.bytes c.toArray u) (b == c) := fun prog w E Q h => by
  unfold eqBool
  refine wpAny_holding ?_
  refine wpAny_ite_split (fun hab => ?_) (fun _ => ?_)
  · have e : b = c := by have := eq_of_beq hab; injection this with h1; simpa using h1
    subst e
    exact wpAny_bind (wpAny_rule (wpAny_pure (by simpa using h)))
  · exact wpAny_bind (richCompare_gives (op := .Eq) (T := "bytes") rfl rfl FB.slot_bytes_eq FB.entry_bytes_eq (FB.args_bytes_eq_2 _ _) (gives_bytes_eq _ _ t u) (fun x => nomatch x) (wpAny_truthy_bool (by simpa using h)))

theorem IntsAre.vrs {D : DM} : ∀ {vals : List Value} {ns : List Int}, IntsAre vals ns → VRs D (ns.map V.int) vals
  | _, _, .nil => .nil
  | _, _, .cons n t h => .cons (.int _ _) (IntsAre.vrs h)

theorem VRs.bytes_any {A : Around} {s : Shared} {D : DM} {x : List UInt8} {t : Tok} : ∀ {ls : List (List UInt8)} {vals : List Value}, VRs D (ls.map V.bytes) vals →
    ∃ e : Value → Bool, (∀ y, y ∈ vals → SeqAt.EqAt A s y (.bytes x.toArray t) (e y)) ∧ vals.any e = ls.any (· == x) := by
  intro ls vals h
  refine ⟨fun v => match v with | .bytes b _ => b.toList == x | _ => false, fun y hy => ?_, ?_⟩
  · induction ls generalizing vals with
    | nil => cases h; cases hy
    | cons l r ih =>
      cases h with
      | cons h hs =>
        cases h
        rcases List.mem_cons.mp hy with rfl | hy
        · simpa using EqAt_bytes l x _ t
        · exact ih hs hy
  · induction ls generalizing vals with
    | nil => cases h; rfl
    | cons l r ih =>
      cases h with
      | cons h hs =>
        cases h
        simp only [List.any_cons]
        rw [ih hs]

noncomputable def fNotInB : V → V → W V
  | .bytes x, .tup vs => fun Q _ σ => ∃ ls : List (List UInt8), vs = ls.map V.bytes ∧ Q (.bool (!ls.any (· == x))) σ
  | _, _ => wNo

section
variable {X : Cx} {k : Nat} {env : Env}
theorem fNotInB_inv {a b : V} {Q : V → St → Prop} {E : Prop} {σ : St} (h : fNotInB a b Q E σ) : (∃ x y, a = .bytes x ∧ b = .tup y) := by
  cases a <;> first | exact h.elim | (cases b <;> first | exact h.elim | exact ⟨_, _, rfl, rfl⟩)
theorem tb_notinb : TB X k (compareOp .NotIn) fNotInB :=
  fun c A D σ s a b va vb QV EV Q E P h1 h2 h3 O OE => by
    obtain ⟨x, vs, rfl, rfl⟩ := fNotInB_inv h3
    obtain ⟨t, rfl⟩ := h1.bytes_inv
    obtain ⟨vals, l, n, rfl, hl, hvs⟩ := h2.tup_inv
    obtain ⟨ls, rfl, hq⟩ := h3
    obtain ⟨e, h4, h5⟩ := VRs.bytes_any (A := A.in1) (s := s) (x := x) (t := t) hvs
    refine SeqAt.notIn_tupleAt e ⟨_, P.rel.kD _ _ hl, rfl, _, rfl⟩ (by simpa using h4) ?_
    have : vals.toArray.any e = ls.any (· == x) := by rw [List.any_toArray]; exact h5
    rw [this]
    exact O (.bool _) _ D σ _ P.rel (DM.le_refl D) (.bool _) hq

noncomputable abbrev fLSl (g0 : Heap) (a c : V) : W V := fun QV _ σ => ∃ l vals ns j, a = .raw (.ref l) ∧ g0.IsList l vals ∧ IntsAre vals.toList ns ∧ c = .int j ∧ 0 ≤ j ∧ vals.size ≤ 16777216 ∧ QV (.list ((ns.take j.toNat).map V.int)) σ
/-- `script[:n]`, a list of ints that the caller holds -/
theorem te_lslice {value hi : Expr} {p pos : Pos} {dv dh : W V} (hv : TE X k env value dv) (hh : TE X k env hi dh) :
    TE X k env (.Subscript value (.Slice none (some hi) none p) pos) (wBin dv dh (fLSl X.g0)) :=
  fun c A D σ s QV EV Q E hc P h O OE => by
    refine g_Subscript (hv c A D σ s _ EV _ E hc P h (fun a va D1 σ1 s1 R1 l1 v1 h1 => g_Slice ?_) OE)
    refine g_pure ?_
    show wpG _ _ A (eval hi env) _ E s1
    refine hh c A D1 σ1 s1 _ EV _ E hc (P.to R1) h1 (fun c' vc D3 σ3 s3 R3 l3 v3 h3 => ?_) OE
    obtain ⟨l, vals, ns, j, rfl, il0, hI, rfl, g0, g1, g2⟩ := h3
    cases v1; cases v3
    rename_i t3
    refine g_pure ?_
    have il : s3.heap.IsList l vals := by
      obtain ⟨o, e1, e2⟩ := il0
      exact ⟨o, R3.kD _ _ (R3.gD _ _ e1), e2⟩
    have R4 := R3.keep (t' := s3.toks) (h' := s3.heap.push { cls := .type "slice", data := .fields #[.none, .int j t3, .none] }) fun a o e => Heap.get?_push_of_some _ e
    refine tail_ok (ops := [.ref s3.heap.objs.size, .ref l]) (Heap.IsList.typeIs (il.push _)) slot_list_getitem.lookup rfl ?_
    refine wpAny_getItem_list_slice (il.push _) (Heap.IsSliceOf.new ..) .none (.int _ _) .none (by simp) ?_ (Nat.le_trans g1 (by decide))
    have e := slice_ints_uptoW (vs := vals.toList) hI g0
    obtain ⟨R5, l5⟩ := Rel.newD (P.to R4) (t' := s3.toks) (pushed _ { cls := .type "list", data := .seq (slicePick vals none (some j) none) } rfl) (none_at (Nat.le_refl _)) fun b o e => Heap.get?_push_of_some _ e
    refine O (.list _) _ _ σ3 _ R5 (DM.le_trans l1 (DM.le_trans l3 l5)) (.list (vals := (slicePick vals none (some j) none).toList) (n := 0) ?_ (IntsAre.vrs (by simpa using e))) g2
    have ee := DM.put_same D3 (s3.heap.push { cls := .type "slice", data := .fields #[.none, .int j t3, .none] }).objs.size { cls := .type "list", data := .seq (slicePick vals none (some j) none) }
    simpa using ee
end
end Mine
end

section
open PySem PySem.W PyProof.Rows PySem.Calls
namespace Mine

noncomputable def deepV : Nat → V → Prop
  | _, .int _ => True
  | _, .str _ => True
  | _, .bytes _ => True
  | n + 1, .tup vs => ∀ v ∈ vs, deepV n v
  | _, _ => False

theorem at_get {vals : List Value} {j : Nat} {v : Value} (h : vals[j]? = some v) (q : j < vals.toArray.size) : vals.toArray[j] = v := by
  have q1 : j < vals.length := by simpa using q
  have := (List.getElem?_eq_some_iff.mp h).2
  simpa using this

theorem deep_tup {s : Shared} {D : DM} (hD : ∀ a o, D a = some o → s.heap.get? a = some o) {A : Around} {vs : List V} {vals vals' : List Value} (h2 : VRs D vs vals) (h4 : VRs D vs vals')
    (ih : ∀ v ∈ vs, ∀ x y, VR D v x → VR D v y → SeqAt.EqAt A.in1 s x y true) : ∀ j (h1 : j < vals.toArray.size) (h2 : j < vals'.toArray.size), SeqAt.EqAt A.in1 s vals.toArray[j] vals'.toArray[j] ((fun _ => true) j) := fun j q1 q2 => by
  have q1' : j < vals.length := by simpa using q1
  have hj : j < vs.length := by have := h2.length; (first | lia | omega)
  obtain ⟨v1, a1, a2⟩ := h2.get (List.getElem?_eq_getElem hj)
  obtain ⟨v2, b1, b2⟩ := h4.get (List.getElem?_eq_getElem hj)
  rw [at_get a1 q1, at_get b1 q2]
  exact ih _ (List.getElem_mem hj) _ _ a2 b2

theorem deep_all {n m : Nat} (h : n = m) : ((List.range (min n m)).all (fun _ => true) && n == m) = true := by simp [h]

theorem deep_eq {s : Shared} {D : DM} (hD : ∀ a o, D a = some o → s.heap.get? a = some o) (n : Nat) : ∀ {A : Around} {v : V} {x y : Value}, deepV n v → VR D v x → VR D v y → A.units + n + 1 < cLine → SeqAt.EqAt A s x y true := by
  induction n with
  | zero =>
    intro A v x y h h1 h2 hu
    cases h1 <;> first | exact h.elim | skip
    · cases h2; rename_i i t u; simpa using SeqAt.EqAt.int_int (A := A) (s := s) i t i u
    · cases h2; rename_i i t u; simpa using SeqAt.EqAt.str_str (A := A) (s := s) (strD i) t (strD i) u
    · cases h2; rename_i i t u; simpa using EqAt_bytes (A := A) (s := s) i i t u
  | succ n ih =>
    intro A v x y h h1 h2 hu
    cases h1 <;> first | exact h.elim | skip
    · cases h2; rename_i i t u; simpa using SeqAt.EqAt.int_int (A := A) (s := s) i t i u
    · cases h2; rename_i i t u; simpa using SeqAt.EqAt.str_str (A := A) (s := s) (strD i) t (strD i) u
    · cases h2; rename_i i t u; simpa using EqAt_bytes (A := A) (s := s) i i t u
    · rename_i vs vals l nn hl hvs
      cases h2
      rename_i vals' l' nn' hl' hvs'
      by_cases e : l = l'
      · subst e; exact SeqAt.EqAt.same _
      · have hz : vals.toArray.size = vals'.toArray.size := by have := hvs.length; have := hvs'.length; simp; (first | lia | omega)
        have r := SeqAt.RcAt.tuples (A := A) (s := s) (e := fun _ => true) ⟨_, hD _ _ hl, rfl, _, rfl⟩ ⟨_, hD _ _ hl', rfl, _, rfl⟩ (by (first | lia | omega)) (deep_tup hD hvs hvs' fun v hv x y k1 k2 => ih (h v hv) k1 k2 (by show A.units + 1 + n + 1 < cLine; (first | lia | omega)))
        rw [deep_all hz] at r
        exact SeqAt.EqAt.of_refs e r

noncomputable def fNeT : V → V → W V
  | .tup a, .tup b => fun Q _ σ => a = b ∧ deepV 300 (.tup a) ∧ Q (.bool false) σ
  | _, _ => wNo

section
variable {X : Cx} {k : Nat} {env : Env}
theorem fNeT_inv {a b : V} {Q : V → St → Prop} {E : Prop} {σ : St} (h : fNeT a b Q E σ) : (∃ x y, a = .tup x ∧ b = .tup y) := by
  cases a <;> first | exact h.elim | (cases b <;> first | exact h.elim | exact ⟨_, _, rfl, rfl⟩)
theorem tb_net (hk : 10 ≤ k) : TB X k (compareOp .NotEq) fNeT :=
  fun c A D σ s a b va vb QV EV Q E P h1 h2 h3 O OE => by
    obtain ⟨vs, ws, rfl, rfl⟩ := fNeT_inv h3
    obtain ⟨vals, l, n, rfl, hl, hvs⟩ := h1.tup_inv
    obtain ⟨wals, l2, n2, rfl, hl2, hws⟩ := h2.tup_inv
    obtain ⟨rfl, h4, h5⟩ := h3
    have hD := fun a o e => P.rel.kD a o e
    have hu : A.units + 400 < cLine := by have := P.room.units; show _ < 9900; (first | lia | omega)
    have hz : vals.toArray.size = wals.toArray.size := by have := hvs.length; have := hws.length; simp; (first | lia | omega)
    have r := SeqAt.RcNeAt.tuples (A := A) (s := s) (e := fun _ => true) ⟨_, hD _ _ hl, rfl, _, rfl⟩ ⟨_, hD _ _ hl2, rfl, _, rfl⟩ (by (first | lia | omega)) (deep_tup hD hvs hws fun v hv x y k1 k2 => deep_eq hD 299 (h4 v hv) k1 k2 (by show A.units + 1 + 299 + 1 < cLine; (first | lia | omega)))
    rw [deep_all hz] at r
    exact r _ _ _ _ (O _ _ D σ _ P.rel (DM.le_refl D) (.bool _) h5)
end
end Mine
end

section
open PySem PySem.W PyProof.Rows PySem.Calls
namespace Mine

section
variable {X : Cx} {k : Nat} {env : Env}
theorem g_Assign_Tuple {b : Bool} {M : Model} {A : Around} {E : Value → Shared → Prop} {s : Shared} {elts : List Expr} {n : Nat} {tpos pos : Pos} {value : Expr} {Q : Flow → Shared → Prop}
    (h : wpG b M A (eval value env) (fun v s₁ => wpG b M A (assign (.Tuple elts n tpos) env v) (fun _ => Q .next) E s₁) E s)
    (hs : swapsWithSole [.Tuple elts n tpos] value pos.line env = pure false)
    (hw : swappedStores [.Tuple elts n tpos] value env = pure none) : wpG b M A (exec (.Assign [.Tuple elts n tpos] value pos) env) Q E s := by
  rw [exec_Assign]
  refine g_stand ?_
  rw [hs]
  refine g_bind (g_pure ?_)
  rw [if_neg (by decide)]
  refine g_bind (g_mono h (fun v s₁ h₁ => ?_) fun _ _ x => x)
  rw [hw]
  refine g_bind (g_pure ?_)
  show wpG b M A (do assignAll v [assign (.Tuple elts n tpos) env]; pure .next) Q E s₁
  exact g_bind (g_mono h₁ (fun _ _ x => g_pure x) fun _ _ x => x)

noncomputable abbrev kUn (fy : V → W Unit) (b : V) (QV : FV → St → Prop) (EV : Prop) : Unit → St → Prop := fun _ σ => fy b (kNx QV) EV σ
noncomputable abbrev fUnp (fx fy : V → W Unit) (v : V) : W FV := fun QV EV σ => ∃ a b, v = .tup [a, b] ∧ fx a (kUn fy b QV EV) EV σ
theorem ts_unpack2 {x y : Str} {p1 p2 tp pos : Pos} {n : Nat} {e : Expr} {d : W V} {fx fy : V → W Unit} (he : TE X k env e d) (hx : TStore X k env x fx) (hy : TStore X k env y fy)
    (hs : swapsWithSole [.Tuple [.Name x p1, .Name y p2] n tp] e pos.line env = pure false := by rfl) (hw : swappedStores [.Tuple [.Name x p1, .Name y p2] n tp] e env = pure none := by rfl) :
    TS1 X k env (.Assign [.Tuple [.Name x p1, .Name y p2] n tp] e pos) (wUn d (fUnp fx fy)) :=
  fun c A D σ s QV EV Q E hc P q O OE => g_Assign_Tuple (he c A D σ s _ EV _ E hc P q (fun v vv D1 σ1 s1 R1 l1 hv h1 => by
    obtain ⟨a, b, rfl, h2⟩ := h1
    cases hv with
    | @tup _ vals l nn hl hvs =>
      cases hvs with
      | @cons _ _ va _ hva hr =>
        cases hr with
        | @cons _ _ vb _ hvb hr =>
          cases hr
          have il : s1.heap.IsTuple l [va, vb].toArray := ⟨_, R1.kD _ _ hl, rfl, _, rfl⟩
          refine g_of <| wpAny_assign_Tuple P.hh il rfl rfl fun h' he' => ?_
          have R2 := R1.keep (t' := s1.toks) (h' := h') fun a o e => he' a o (Nat.ne_of_lt (Heap.lt_size e)) e
          show wpAny _ _ (assignInOrder [assign (.Name x p1) env, assign (.Name y p2) env] [va, vb]) _ _ _
          refine assignInOrder_cons (wpAny_assign_Name (hx c A D1 σ1 _ a va _ EV _ E hc (P.to R2) hva h2 (fun D3 σ3 s3 R3 l3 h3 => ?_) OE))
          refine assignInOrder_cons (wpAny_assign_Name (hy c A D3 σ3 _ b vb _ EV _ E hc (P.to R3) (hvb.mono l3) h3 (fun D4 σ4 s4 R4 l4 h4 => ?_) OE))
          exact wpAny_pure (O .next .next D4 σ4 s4 R4 (DM.le_trans l1 (DM.le_trans l3 l4)) rfl h4)) OE) hs hw
end
end Mine
end

section
open PySem PySem.W PyProof.Rows PySem.Calls
namespace Mine

/-! ## the exception leaves -/
noncomputable def without (l : List Addr) (h : Heap) : Heap := l.foldr (fun a h => h.update a fun o => { o with data := .freed }) h

theorem without_get : ∀ (l : List Addr) (h : Heap) (a : Addr), (without l h).get? a = if a ∈ l then none else h.get? a
  | [], h, a => by simp [without]
  | b :: r, h, a => by
    have ih := without_get r h a
    show ((without r h).update b _).get? a = _
    by_cases e : a = b
    · subst e
      rw [if_pos List.mem_cons_self]
      unfold Heap.get? Heap.update
      simp only [Array.getElem?_modify, if_true]
      cases q : (without r h).objs[a]? with
      | none => simp [q]
      | some o => simp [q]
    · rw [Heap.get?_update_other _ _ (Ne.symm e), ih]
      simp [e]

theorem fl_of {g0 : Heap} {c : FC} {D : DM} {σ : St} {s : Shared} (R : Rel g0 c D σ s) {a : Addr} {od : Option Addr} {fs : List (Str × V)} (hm : (a, MO.exc od fs) ∈ σ.objs) : ∃ t, s.heap.get? a = some (excObj od t) := by
  have := R.obj _ hm
  cases od with
  | none => exact this
  | some d => exact this.1

theorem cls71 (X : Cx) : (KK X).lookup 71 = some (excClassObj "WireFault" "WireFault" 71 70 [.ref 46] [.ref 46, .type "Exception", .type "BaseException", .type "object"] true [] [] false none none (some (.ref 62)) none (some (.str "WireFault" 252)) (some (.str "WireFault" 260)) (some (.bool true)) "Exception.__new__") := by kernel_rfl

theorem funFrames {h b : Heap} : ∀ {l : List Env}, StackOK h l → (∀ a ∈ frames l, b.get? a = none) → h.FunFrames b l
  | [], _, _ => trivial
  | env :: r, ⟨hk, ⟨L, o, hf, ho, hd⟩, hr⟩, hn => by
    have e : frames (env :: r) = L :: frames r := by simp [frames, hf]
    rw [e] at hn
    exact ⟨hk, ⟨L, o, hf, hn L List.mem_cons_self, ho, hd⟩, funFrames hr fun a ha => hn a (List.mem_cons_of_mem _ ha)⟩

theorem fi_make {g0 : Heap} {c : FC} {D : DM} {σ : St} {s : Shared} (R : Rel g0 c D σ s) {a : Addr} {od : Option Addr} {fs : List (Str × V)} (hm : (a, MO.exc od fs) ∈ σ.objs) : FlightIn c (.ref a) s := by
  obtain ⟨t, he⟩ := fl_of R hm
  obtain ⟨h, tk, hs⟩ := R.same
  have ha : a ∈ foot c σ.objs := by
    refine List.mem_cons_of_mem _ (List.mem_append_right _ (List.mem_append_right _ (List.mem_flatMap.mpr ⟨_, hm, ?_⟩)))
    cases od <;> simp [footO]
  have hh : s.heap = h := by rw [hs]
  refine ⟨a, .ref t, without (a :: frames c.stack) s.heap, s.heap, s.toks, rfl, ?_, fun b o e hb => ?_, fun b o e => (R.kB b o e).1, fun b o e => ?_, ?_, funFrames R.stk fun b hb => ?_, ?_, .inl ⟨_, _, he, rfl, rfl, rfl, rfl⟩⟩
  · rw [hs]
  · rw [without_get, if_neg, (R.kB b o e).2 hb]
    intro q
    rcases List.mem_cons.mp q with rfl | q
    · rw [R.disB _ ha] at e; cases e
    · exact hb q
  · rw [without_get] at e
    split at e
    · cases e
    · exact e
  · rw [without_get, if_pos List.mem_cons_self]
  · rw [without_get, if_pos (List.mem_cons_of_mem _ hb)]
  · obtain ⟨m, h1, _⟩ := R.loc.ns
    exact ⟨m, h1⟩

section
variable {M : Model} {A : Around} {E : Value → Shared → Prop} {s : Shared} {env : Env}
variable {nm q : Str} {C N : Addr} {bs bm : List Value} {hdct : Bool} {sn : List Str} {sub : List Value} {ab : Bool} {col : Option Bool} {dd : Option Addr} {k0 k1 k2 k3 k5 : Option Value} {newId : String}
theorem raise_tail {e t : Addr} {od : Option Addr} {Q : Flow → Shared → Prop} (hbase : bm.contains (.type "BaseException") = true) (hh : A.handled = none)
    (hC : s.heap.get? C = some (excClassObj nm q C N bs bm hdct sn sub ab col dd k0 k1 k2 k3 k5 newId)) (he : s.heap.get? e = some { cls := .ref C, dict := od, data := .fields #[.ref t, .none, .none, .none, .bool false, .none] }) (hE : E (.ref e) s) :
    wpAny M A (raiseStmt env (some (pure (.ref e))) none) Q E s := by
  have hcB : (Value.ref C :: bm).contains (.type "BaseException") = true := by rw [List.contains_cons, hbase, Bool.or_true]
  obtain ⟨hp, g, d, tk, os⟩ := s
  unfold raiseStmt
  refine wpAny_bind (wpAny_pure ?_)
  repeat (first | with_reducible refine wpAny_loadPart_at he ?_ | with_reducible refine wpAny_loadPart_at hC ?_ | (with_reducible refine wpAny_isSubtype_exc hC ?_; rw [hcB]) | wp_step)
  exact wpAny_raiseNew_none hh hE
end

theorem raise_eq (env : Env) (m : Sem Value) : raiseStmt env (some m) none = m >>= fun v => raiseStmt env (some (pure v)) none := rfl

section
variable {X : Cx} {k : Nat} {env : Env}
noncomputable abbrev fRaise (v : V) : W FV := fun _ EV σ => EV ∧ ∃ a od fs, v = .raw (.ref a) ∧ (a, MO.exc od fs) ∈ σ.objs
theorem ts_raise {x : Expr} {pos : Pos} {dx : W V} (hx : TE X k env x dx) :
    TS1 X k env (.Raise (some x) none pos) (wUn dx fRaise) :=
  fun c A D σ s QV EV Q E hc P q O OE => by
    rw [arm_exec_Raise]
    refine g_stand ?_
    show wpG _ _ _ (raiseStmt env (some (eval x env >>= fun v => standAt pos >>= fun _ => pure v)) none) _ _ _
    rw [raise_eq]
    refine g_bind (g_bind (hx c A D σ s _ EV _ E hc P q (fun v vv D1 σ1 s1 R1 l1 hv h1 => g_stand (g_pure ?_)) OE))
    obtain ⟨ev, a, od, fs, rfl, hm⟩ := h1
    cases hv
    obtain ⟨t, he⟩ := fl_of R1 hm
    exact g_of <| raise_tail (by decide +kernel) P.hh (kIn (P.to R1) _ _ (cls71 X)) he (OE ev _ _ (fi_make R1 hm))
end
end Mine
end

section
open PySem PySem.W PyProof.Rows PySem.Calls
namespace Mine

noncomputable abbrev o71 : Obj := excClassObj "WireFault" "WireFault" 71 70 [.ref 46] [.ref 46, .type "Exception", .type "BaseException", .type "object"] true [] [] false none none (some (.ref 62)) none (some (.str "WireFault" 252)) (some (.str "WireFault" 260)) (some (.bool true)) "Exception.__new__"
noncomputable abbrev m71 : List Value := [.ref 71, .ref 46, .type "Exception", .type "BaseException", .type "object"]
noncomputable abbrev newExc (h : Heap) (rest : List Value) : Heap := (h.push { cls := .type "tuple", data := .seq rest.toArray }).push (excObj none h.objs.size)

section
variable {prog : Program} {w : World} {A : Around} {R : Result → Shared → Prop} {E : Value → Shared → Prop} {h : Heap} {g : Array GenState} {d : Drawn} {t : Nat} {os : OsState}
theorem check_new71 {rest : List Value} {M : Model} {Q : Unit → Shared → Prop} (hC : h.get? 71 = some o71) (hq : Q () ⟨h, g, d, t, os⟩) : wpAny M A (checkBuiltinCall "Exception.__new__" ⟨.ref 71 :: rest, []⟩) Q E ⟨h, g, d, t, os⟩ := by
  have F := PySem.F.excBase_Exception
  have c1 : m71.contains (.type "Exception") = true := by decide +kernel
  have hstar := F.noStar
  simp only [checkBuiltinCall, F.newKind, F.newSplit, F.newRow]
  repeat (first | refine wpAny_loadPart_at hC ?_ | (refine wpAny_isSubtype_exc hC ?_; rw [c1]) | refine wpAny_staticBase_exc hC ?_ | refine wpAny_madeBy_exc hC ?_ | simp only [bne_self_eq_false, Bool.false_eq_true, if_false] | wp_step)
  exact hq

theorem new71 {rest : List Value} (hC : h.get? 71 = some o71) (hrest : rest.length ≤ sizeLine) (hq : R (.ok (.ret (.ref (h.objs.size + 1)))) ⟨newExc h rest, g, d, t, os⟩) :
    codeAny (model prog w) A (.builtin "Exception.__new__" ⟨.ref 71 :: rest, []⟩) R ⟨h, g, d, t, os⟩ := by
  have F := PySem.F.excBase_Exception
  have hends := F.ends
  have c1 : m71.contains (.type "Exception") = true := by decide +kernel
  have c2 : m71.contains (.type "AttributeError") = false := by decide +kernel
  have c3 : m71.contains (.type "NameError") = false := by decide +kernel
  refine codeAny_builtinAt F.entry ?_
  unfold Builtin.«BaseException.__new__»
  refine PySem.wpAt_bind ?_
  show PySem.wpAt _ _ _ (stack >>= _) _ _ _
  refine PySem.wpAt_bind (PySem.wpAt_stack fun p below => PySem.wpAt_of_wpAny ?_)
  wp_walk
  refine PySem.wpAt_of_wpAny ?_
  rw [F.owner]
  repeat (first | with_reducible refine wpAny_madeHere_exc F.canon hC ?_ | with_reducible refine wpAny_loadPart_at hC ?_ | (with_reducible refine wpAny_isSubtype_exc hC ?_; first | rw [c1] | rw [c2] | rw [c3]) | wp_step)
  show R _ _
  rw [Heap.size_push]
  exact hq

/-- a wire fault is made by its base's own `__init__` -/
theorem make71 {rest : List Value} {fI : Addr} {oI : Obj} {Q : Fin → Shared → Prop} (hC : h.get? 71 = some o71) (hrest : rest.length ≤ sizeLine)
    (hi : ∀ h', (∀ b o, h.get? b = some o → h'.get? b = some o) → ∀ (M : Model) A E g d t os (Q : Option Value → Shared → Prop), Q (some (.ref fI)) ⟨h', g, d, t, os⟩ → wpAny M A (typeLookup (.ref 71) "__init__") Q E ⟨h', g, d, t, os⟩)
    (hfI : h.get? fI = some oI) (hfc : oI.cls = .type "function")
    (hq : wpAny (model prog w) A (call (.ref fI) (.ref (h.objs.size + 1) :: rest)) (fun r s' => r = .none ∧ Q (.done (.ret (.ref (h.objs.size + 1)))) s') E ⟨newExc h rest, g, d, t, os⟩) :
    wpAny (model prog w) A (Builtin.«type.__call__» ⟨.ref 71 :: rest, []⟩) Q E ⟨h, g, d, t, os⟩ := by
  have F := PySem.F.excBase_Exception
  repeat (first | with_reducible refine wpAny_loadPart_at hC ?_ | with_reducible refine wpAny_madeBy_exc hC ?_ | wp_step)
  refine codeAny_call_builtin_code (Code.quiet_builtin _ F.quiet) (check_new71 hC ?_)
  refine new71 hC hrest ?_
  show wpAny _ _ _ _ _ _
  have up : ∀ b o, h.get? b = some o → (newExc h rest).get? b = some o := fun b o e => Heap.get?_push_of_some _ (Heap.get?_push_of_some _ e)
  have hC₁ := up _ _ hC
  have hget : (newExc h rest).get? (h.objs.size + 1) = some (excObj none h.objs.size) := by
    have := Heap.get?_push_size (h.push { cls := .type "tuple", data := .seq rest.toArray }) (o := excObj none h.objs.size) rfl
    rwa [Heap.size_push] at this
  have c1 : m71.contains (.ref 71) = true := by decide +kernel
  unfold isInstance
  repeat (first | with_reducible refine wpAny_loadPart_at hget ?_ | (with_reducible refine wpAny_isSubtype_exc hC₁ ?_; rw [c1]) | wp_step)
  show wpAny _ _ (typeLookup (.ref 71) _) _ _ _
  refine hi _ up _ _ _ _ _ _ _ _ ?_
  refine wpAny_holding (wpAny_bind ?_)
  unfold bindSpecial
  refine wpAny_bind (wpAny_typeOf (T := "function") ⟨_, up _ _ hfI, hfc⟩ ?_)
  rw [if_pos (by decide)]
  refine wpAny_pure (wpAny_bind (wpAny_mono hq (fun r s' hr => ?_) fun _ _ x => x))
  obtain ⟨rfl, hQ⟩ := hr
  wp_walk
  exact hQ

theorem call71 {rest : List Value} {fI : Addr} {oI : Obj} {R : Result → Shared → Prop} (hC : h.get? 71 = some o71) (hrest : rest.length ≤ sizeLine)
    (hi : ∀ h', (∀ b o, h.get? b = some o → h'.get? b = some o) → ∀ (M : Model) A E g d t os (Q : Option Value → Shared → Prop), Q (some (.ref fI)) ⟨h', g, d, t, os⟩ → wpAny M A (typeLookup (.ref 71) "__init__") Q E ⟨h', g, d, t, os⟩)
    (hfI : h.get? fI = some oI) (hfc : oI.cls = .type "function")
    (hq : wpAny (model prog w) (A.under (.builtin "type.__call__" ⟨.ref 71 :: rest, []⟩)) (call (.ref fI) (.ref (h.objs.size + 1) :: rest)) (fun r s' => r = .none ∧ R (.ok (.ret (.ref (h.objs.size + 1)))) s') (fun e s' => R (.error e) s') ⟨newExc h rest, g, d, t, os⟩) :
    codeAny (model prog w) A (.call (.ref 71) ⟨rest, []⟩) R ⟨h, g, d, t, os⟩ := by
  have f1 := tc_lookup
  have f2 := tc_bind (.ref 71)
  have hT : (⟨h, g, d, t, os⟩ : Shared).TypeIs (.ref 71) "type" := ⟨_, hC, rfl⟩
  refine codeAny_of_tree ?_
  show wpAny _ _ (callAny (.ref 71) _) _ _ _
  repeat (any_goals (first | assumption | with_reducible refine wpAny_loadPart_at hC ?_ | wp_step))
  refine ⟨rfl, ?_⟩
  exact codeAny_call_builtin_at (Code.quiet_builtin _ (by decide +kernel)) entry_typeCall (wpAny_check_type_call_sub hC (make71 hC hrest hi hfI hfc hq))
end
end Mine
end

section
open PySem PySem.W PyProof.Rows PySem.Calls
namespace Mine

section
variable {X : Cx} {k : Nat}
theorem ct_exc {fI : Addr} {args : List V} {O : List (Addr × MO)} {QV : V → List (Addr × MO) → Prop} {EV : Prop} (hi : ∀ P : Params, findIn (hd.heap_39 P) (.ref 71) "__init__" = some (some (.ref fI)))
    (hf : ∀ P : Params, typeIn (hd.heap_39 P) (.ref fI) = some (.type "function")) (hl : args.length ≤ 100) (h : ∀ x, CT { X with b := false } k (.ref fI) (.raw (.ref x) :: args) ((x, .exc none []) :: O) (fun v O' => v = .none ∧ (x ∉ feet O → QV (.raw (.ref x)) O')) EV) : CT X (k + 1) (.ref 71) args O QV EV := by
  intro A l D s vals Q E P hv O1 O2
  have X1 := kIn' P
  obtain ⟨hh, g, d, t, os⟩ := s
  have X1' : ∀ a o, hh.get? a = some o → (newExc hh vals).get? a = some o := fun a o e => Heap.get?_push_of_some _ (Heap.get?_push_of_some _ e)
  obtain ⟨oI, hfI, hfc⟩ : ∃ oI, hh.get? fI = some oI ∧ oI.cls = .type "function" := by
    obtain ⟨o, ho, he⟩ := Option.map_eq_some_iff.mp (hf X.w.params)
    exact ⟨o, X1 _ _ ho, he⟩
  refine cg_of <| call71 (X1 _ _ (cls71 X)) (by rw [hv.length]; exact Nat.le_trans hl (by decide)) (fun h' kp M A E g d t os Q hq => ?_) hfI hfc ?_
  · exact looks_findIn (X1.keeps kp) (hi _) _ _ _ _ (fun _ _ e => e) hq
  have hx : (newExc hh vals).get? (hh.objs.size + 1) = some (excObj none hh.objs.size) := by
    have := pushed (hh.push { cls := .type "tuple", data := .seq vals.toArray }) (excObj none hh.objs.size) rfl
    rwa [Heap.size_push] at this
  have nx : hh.get? (hh.objs.size + 1) = none := none_at (Nat.le_succ _)
  have exO : ∀ a ∈ feet O, ∃ o, hh.get? a = some o := fun a ha => by
    obtain ⟨p, hp, hq⟩ := List.mem_flatMap.mp ha
    exact (P.obj p hp).ex a hq
  have xO : hh.objs.size + 1 ∉ feet O := fun hm => by obtain ⟨o, e⟩ := exO _ hm; rw [nx] at e; cases e
  have ffe : feet ((hh.objs.size + 1, MO.exc none []) :: O) = (hh.objs.size + 1) :: feet O := by simp [feet, footO]
  have old : ∀ a, (hh.get? a).isSome = true → a ∈ feet ((hh.objs.size + 1, MO.exc none []) :: O) → a ∈ feet O := fun a e hm => by
    rw [ffe] at hm
    rcases List.mem_cons.mp hm with rfl | hm
    · rw [nx] at e; cases e
    · exact hm
  have Dn : ∀ a, hh.get? a = none → D a = none := fun a e => by
    cases q : D a with
    | none => rfl
    | some o => have := P.kD a o q; dsimp only at this; rw [e] at this; cases this
  have Fn : ∀ a, hh.get? a = none → a ∉ frames l := fun a e hm => by
    obtain ⟨o, q⟩ := P.stk.mem a hm
    dsimp only at q; rw [e] at q; cases q
  have P' : CPre { X with b := false } k (A.under (.builtin "type.__call__" ⟨.ref 71 :: vals, []⟩)) l D ((hh.objs.size + 1, .exc none []) :: O) ⟨newExc hh vals, g, d, t, os⟩ := by
    refine ⟨P.G.at false, ⟨?_, ?_⟩, P.hh, ?_, P.stk.keeps fun a o e => ⟨o, X1' a o e, rfl⟩, fun a o e => X1' a o (P.kD a o e), P.gD, fun p hp => ?_, ?_, fun a ha => ?_, fun a ha => ?_, P.disS⟩
    · have := P.room.depth; show A.depth + 1 + 2 * k + 2 < 1000; (first | lia | omega)
    · have h1 := P.room.units
      have h2 : (Code.builtin "type.__call__" ⟨.ref 71 :: vals, []⟩).cUnits ≤ 20 := by
        exact Nat.le_trans (Nat.le_of_eq (show _ = (Code.builtin "type.__call__" ⟨[], []⟩).cUnits from rfl)) (by decide +kernel)
      show A.units + (Code.builtin "type.__call__" ⟨.ref 71 :: vals, []⟩).cUnits + 40 * k + 40 < 9900
      (first | lia | omega)
    · have : (A.under (.builtin "type.__call__" ⟨.ref 71 :: vals, []⟩)).frames = pushEnvs [] A.frames := rfl
      rw [this, P.fr]; rfl
    · rcases List.mem_cons.mp hp with rfl | hp
      · exact ⟨_, hx⟩
      · exact (P.obj p hp).keeps (DM.le_refl D) fun b _ o e => X1' b o e
    · rw [ffe]
      exact List.nodup_cons.mpr ⟨xO, P.nd⟩
    · rw [ffe] at ha
      rcases List.mem_cons.mp ha with rfl | ha
      · exact Dn _ nx
      · exact P.disD a ha
    · rw [ffe] at ha
      rcases List.mem_cons.mp ha with rfl | ha
      · exact Fn _ nx
      · exact P.disF a ha
  refine wpAny_call (cg_no <| cg_mono (h (hh.objs.size + 1) _ l D _ (.ref (hh.objs.size + 1) :: vals) (fun v s' => v = .none ∧ Q (.ref (hh.objs.size + 1)) s') E P' (.cons (.raw _) hv) (fun v vv D' O' h' t' C' q => ?_) fun ev e s' F => ?_) fun r s' z => ?_)
  · obtain ⟨rfl, q⟩ := q
    have hvn := C'.val
    cases hvn
    refine ⟨rfl, O1 (.raw (.ref (hh.objs.size + 1))) _ D' O' h' t' ⟨C'.le, fun a o e => ?_, C'.kD, fun a o e n => C'.keep a o (X1' a o e) fun q => n (old a (by rw [show hh.get? a = some o from e]; rfl) q), fun a ha => C'.ex a (by rw [ffe]; exact List.mem_cons_of_mem _ ha), C'.obj, C'.nd, C'.disD, fun a ha => ?_, .raw _⟩ (q xO)⟩
    · rcases C'.fresh a o e with h | h
      · exact .inl h
      · right
        cases q' : hh.get? a with
        | none => rfl
        | some o' => have := X1' a o' q'; rw [show (_ : Heap).get? a = none from h] at this; cases this
    · rcases C'.from_ a ha with h | h
      · rw [ffe] at h
        rcases List.mem_cons.mp h with rfl | h
        · exact .inr nx
        · exact .inl h
      · right
        cases q' : hh.get? a with
        | none => rfl
        | some o' => have := X1' a o' q'; rw [show (_ : Heap).get? a = none from h] at this; cases this
  · exact O2 ev e s' (F.sub X1' old fun _ _ => rfl)
  · rcases r with e | (v | _ | _ | _)
    · exact z
    all_goals exact z
end
end Mine
end

section
open PySem PySem.W PyProof.Rows PySem.Calls
namespace Mine

theorem getm_excInit {prog : Program} {w : World} {A : Around} {E : Value → Shared → Prop} {s : Shared} {K : Frag} {pl : Sem Bool} {Q : Value × List Value → Shared → Prop} (X : K.In s.heap)
    (h : Q (.builtin "Exception.__init__", []) { s with toks := s.toks + 1 }) : wpAny (model prog w) A (getMethod (.type "Exception") "__init__" pl) Q E s := by
  have hstub : opaqueClassAbove (.type "Exception") = pure none := by unfold opaqueClassAbove; dsimp only; rw [show Manifest.isStub "Exception" = false by decide +kernel]; rfl
  have ht : typeOf (.type "Exception") = pure (.type "type") := by first | rfl | kernel_rfl
  have L0 : Looks (model prog w) s.heap (typeOf (.type "Exception")) (.type "type") := Looks.of_pure ht
  have hg : findIn K (.type "type") "__getattribute__" = some (some (.builtin "type.__getattribute__")) := type_tga
  have e : findCls K (.type "Exception") (.type "type") "__init__" = some (.val (.builtin "Exception.__init__")) := by first | rfl | kernel_rfl
  unfold getMethod specialOf
  refine wpAny_bind (wpAny_bind (L0.here ((looks_findIn X hg).here ?_)))
  dsimp only
  rw [if_pos canon_tga]
  refine wpAny_bind (wpAny_mono (Q := fun v => Q (v, [])) (E := E) ?_ (fun _ _ z => wpAny_pure z) fun _ _ z => z)
  have LO : Looks (model prog w) s.heap (opaqueClassAbove (.type "Exception")) none := Looks.of_pure hstub
  refine cls_open X LO L0 hg (looks_hook X (r := none) (by rfl)) (by show subIn K _ _ = _; rfl) e
    (wpAny_pure (by show wpAny _ _ (handedOut _) _ _ _; rw [handedOut_of (by rfl)]; exact wpAny_pure h))

section
variable {prog : Program} {w : World} {A : Around} {E : Value → Shared → Prop} {h : Heap} {g : Array GenState} {d : Drawn} {t : Nat} {os : OsState}
theorem check_init71 {M : Model} {e : Addr} {oe : Obj} {rest : List Value} {Q : Unit → Shared → Prop} (hC : h.get? 71 = some o71) (he : h.get? e = some oe) (hcls : oe.cls = .ref 71) (hq : Q () ⟨h, g, d, t, os⟩) :
    wpAny M A (checkBuiltinCall "Exception.__init__" ⟨.ref e :: rest, []⟩) Q E ⟨h, g, d, t, os⟩ := by
  have F := PySem.F.excBase_Exception
  have c1 : m71.contains (.type "Exception") = true := by decide +kernel
  have hshort := F.noStar
  simp only [checkBuiltinCall, F.initKind, F.initSplit, F.initRow]
  repeat (first | (with_reducible refine wpAny_loadPart_at he ?_; rw [hcls]) | with_reducible refine wpAny_loadPart_at hC ?_ | (with_reducible refine wpAny_isSubtype_exc hC ?_; rw [c1]) | wp_step)
  refine wpAny_onRaise ?_
  rw [show ∀ (a b : String) (n : Nat), Bind.check ⟨.positional, "*", "Exception", .self, [⟨"args", .varPos, false⟩]⟩ a b n (List.map (fun x => x.fst) ({ pos := Value.ref e :: rest } : Args).kw) = pure () from
    fun a b n => check_star_args _ _ _ _ _ _]
  exact wpAny_pure hq

theorem exc_init {e : Addr} {od : Option Addr} {tt : Addr} {rest : List Value} {Q : Value → Shared → Prop} (hC : h.get? 71 = some o71) (he : h.get? e = some (excObj od tt)) (hrest : rest.length ≤ sizeLine)
    (hq : ∀ h', h'.get? e = some (excObj od h.objs.size) → (∀ b o, b ≠ e → h.get? b = some o → h'.get? b = some o) → Q .none ⟨h', g, d, t, os⟩) :
    wpAny (model prog w) A (call (.builtin "Exception.__init__") (.ref e :: rest)) Q E ⟨h, g, d, t, os⟩ := by
  have F := PySem.F.excBase_Exception
  refine wpAny_call (codeAny_call_builtin F.init.plain F.initEntry (check_init71 hC he rfl ?_))
  have he₁ : (h.push { cls := .type "tuple", data := .seq rest.toArray }).get? e = some (excObj od tt) := Heap.get?_push_of_some _ he
  wp_walk
  refine hq _ ?_ fun b o hb e => ?_
  · rw [Heap.get?_update_self _ he₁ rfl]
    rfl
  · rw [Heap.get?_update_other _ _ (Ne.symm hb)]
    exact Heap.get?_push_of_some _ e
end
end Mine
end

section
open PySem PySem.W PyProof.Rows PySem.Calls Builtin Builtin.ObjectAttr
namespace Mine

theorem refuse71 (self : Value) : refuseLoop self "__setattr__" m71 = pure () := by
  rw [refuseLoop_ref, refuseLoop_ref]
  kernel_rfl

section
variable {prog : Program} {w : World} {A : Around} {E : Value → Shared → Prop} {s : Shared} {K : Frag} {x dx tt : Addr} {es : List DictEntry} {n : Nat} {name : Str} {v : Value}

theorem putL_len {hsh : Int} {kv : Value} : ∀ (l : List DictEntry), (putL name hsh kv v l).length ≤ l.length + 1
  | [] => Nat.le_refl _
  | e :: r => by
    unfold putL
    split
    · exact Nat.le_succ _
    · have := putL_len (hsh := hsh) (kv := kv) r; simp only [List.length_cons]; (first | lia | omega)

theorem dict_tail {Q : PySem.Fin → Shared → Prop} {t0 : Tok} (D : s.heap.get? dx = some (dictOf es n)) (hr : (es.any (·.refKey)) = false) (hz : es.length ≤ 900)
    (h : ∀ tk tk' h', h'.get? dx = some (dictOf (putL name (PyData.keyHash w.params name) (.str name tk) v es) (putN name es n)) → (∀ b o, b ≠ dx → s.heap.get? b = some o → h'.get? b = some o) → Q (.done (.ret .none)) { s with heap := h', toks := tk' }) :
    wpAny (model prog w) A (storeInDict dx (.str name t0) name v) Q E s := by
  refine wpAny_bind (wpAny_pure (wpAny_bind ?_))
  unfold nsSet
  refine wpAny_bind (wpAny_bind (wpAny_askSetting (wpAny_pure (wpAny_bind (wpAny_mkText (wpAny_bind (wpAny_loadPart D ?_)))))))
  have c : (!(List.toArray es).any (·.key.isStr name) && (List.toArray es).any (·.refKey)) = false := by
    rw [← Array.any_toList, ← Array.any_toList]; show (_ && es.any _) = false; rw [hr, Bool.and_false]
  rw [show (dictOf es n).data = .dict es.toArray n from rfl]
  dsimp only
  rw [aRefKeyMayBeTheName_at, c]
  refine wpAny_updatePart D ?_
  have hnew : (s.heap.update dx (Obj.putName name (PyData.keyHash w.params name) (.str name s.toks) v)).get? dx = some (dictOf (putL name (PyData.keyHash w.params name) (.str name s.toks) v es) (putN name es n)) := by
    rw [Heap.get?_update_self _ D (by rw [putName_dict]; rfl), putName_dict]
  refine wpAny_bind (wpAny_lookBehind hnew (pastItsLine_dict (by rw [List.size_toArray, sizeLine_eq]; have := putL_len (name := name) (v := v) (hsh := PyData.keyHash w.params name) (kv := .str name s.toks) es; (first | lia | omega))) ?_)
  exact wpAny_pure (h _ _ _ hnew fun b o hb e => (Heap.get?_update_other _ _ (Ne.symm hb)).trans e)

theorem open71 {R : Result → Shared → Prop} {t0 : Tok} {od : Option Addr} (X : K.In s.heap) (hC : K.lookup 71 = some o71) (hx : s.heap.get? x = some (excObj od tt)) (ht : takerIn K 71 name = some none)
    (h : ∀ b, wpAny (model prog w) A.in1 (storeInOwnDict (.ref x) (.ref 71) (.str name t0) name v b)
      (fun (fin : PySem.Fin) s' => match fin with | .done f => R (.ok f) s' | .again c' => c'.quiet = true ∧ codeAny (model prog w) A c' R s') (fun e s' => R (.error e) s') s) :
    codeAny (model prog w) A (.call (.builtin "object.__setattr__") ⟨[.ref x, .str name t0, v], []⟩) R s := by
  have SF := PySem.F.store_object
  have ty : Looks (model prog w) s.heap (typeOf (.ref x)) (.ref 71) := (Looks.ld hx).andThen .now
  have hc : clsIn K 71 = some ⟨"WireFault", [.ref 46], m71, 70, "WireFault", true, [], [], false, none, false⟩ := by unfold clsIn; rw [hC]
  have sub : Looks (model prog w) s.heap (isInstance (.ref x) (.type "object")) true := ty.andThen (looks_mroIn X (by unfold mroIn; rw [hc]; rfl))
  refine codeAny_call_builtin SF.slot.plain SF.entry (@check_slot (model prog w) _ _ s "object.__setattr__" "object" "__setattr__" (.ref x) [.str name t0, v] [] _ SF.kind SF.split sub (SF.args (.ref x) (.str name t0) v) ?_)
  obtain ⟨attr, ha, hr⟩ := Option.bind_eq_some_iff.mp ht
  have hm : Looks (model prog w) s.heap (mroOf (.ref 71)) m71 := (looks_clsIn X hc).andThen .now
  have L3 : Looks (model prog w) s.heap (storeTaker? attr) none := by
    cases attr with
    | none => exact .now
    | some a =>
      obtain ⟨b, hb, hbb⟩ := Option.map_eq_some_iff.mp hr
      refine (looks_takesIn X hb).andThen ?_
      cases b
      · exact .now
      · cases hbb
  rw [osa_eq, refuse_eq]
  refine wpAny_bind (wpAny_bind (ty.here (wpAny_bind (hm.here ?_))))
  rw [refuse71]
  refine wpAny_pure (wpAny_bind (ty.here (wpAny_bind ((looks_findIn X ha).here (wpAny_bind (L3.here ?_))))))
  exact h _

theorem dict71 {E' : Value → Shared → Prop} {Q : Option Addr → Shared → Prop} (X : K.In s.heap) (hC : K.lookup 71 = some o71) (hx : s.heap.get? x = some (excObj none tt))
    (h : ∀ h', h'.get? x = some (excObj (some s.heap.objs.size) tt) → h'.get? s.heap.objs.size = some (dictOf [] 0) → (∀ b o, b ≠ x → s.heap.get? b = some o → h'.get? b = some o) → Q (some s.heap.objs.size) { s with heap := h' }) :
    wpAny (model prog w) A (instanceDict x true) Q E' s := by
  have hc : clsIn K 71 = some ⟨"WireFault", [.ref 46], m71, 70, "WireFault", true, [], [], false, none, false⟩ := by unfold clsIn; rw [hC]
  unfold instanceDict
  refine wpAny_bind (wpAny_loadPart hx ?_)
  refine wpAny_bind ((looks_clsIn X hc).here ?_)
  rw [if_neg (by decide)]
  show wpAny _ _ (if (!true || !typeHasDict (excObj none tt).cls) = true then pure none else _) _ _ _
  rw [if_neg (by simp [typeHasDict])]
  show wpAny _ _ (alloc { cls := .type "dict", data := .dict #[] } >>= _) _ _ _
  refine wpAny_bind (wpAny_alloc ?_)
  have hx1 : (s.heap.push { cls := .type "dict", data := .dict #[] }).get? x = some (excObj none tt) := Heap.get?_push_of_some _ hx
  refine wpAny_bind (wpAny_update hx1 ?_)
  show wpAny _ _ (pure (some s.heap.objs.size)) _ _ _
  have hxd : x ≠ s.heap.objs.size := Nat.ne_of_lt (Heap.lt_size hx)
  refine wpAny_pure (h _ ?_ ?_ fun b o hb e => ?_)
  · rw [Heap.get?_update_self _ hx1 rfl]
  · rw [Heap.get?_update_other _ _ hxd]; exact Heap.get?_push_size _ rfl
  · rw [Heap.get?_update_other _ _ (Ne.symm hb)]; exact Heap.get?_push_of_some _ e

theorem dict71' {E' : Value → Shared → Prop} {Q : Option Addr → Shared → Prop} (X : K.In s.heap) (hC : K.lookup 71 = some o71) (hx : s.heap.get? x = some (excObj (some dx) tt)) (h : Q (some dx) s) :
    wpAny (model prog w) A (instanceDict x true) Q E' s := by
  have hc : clsIn K 71 = some ⟨"WireFault", [.ref 46], m71, 70, "WireFault", true, [], [], false, none, false⟩ := by unfold clsIn; rw [hC]
  unfold instanceDict
  refine wpAny_bind (wpAny_loadPart hx ?_)
  refine wpAny_bind ((looks_clsIn X hc).here ?_)
  rw [if_neg (by decide)]
  exact wpAny_pure h

theorem set71 {Q : Unit → Shared → Prop} (X : K.In s.heap) (hC : K.lookup 71 = some o71) (hx : s.heap.get? x = some (excObj none tt)) (hs : findIn K (.ref 71) "__setattr__" = some (some (.builtin "object.__setattr__"))) (ht : takerIn K 71 name = some none)
    (h : ∀ tk tk' h', h'.get? x = some (excObj (some s.heap.objs.size) tt) → h'.get? s.heap.objs.size = some (dictOf (putL name (PyData.keyHash w.params name) (.str name tk) v []) (putN name [] 0)) → (∀ b o, b ≠ x → s.heap.get? b = some o → h'.get? b = some o) → Q () { s with heap := h', toks := tk' }) :
    wpAny (model prog w) A (setAttr (.ref x) name v) Q E s := by
  have ty : Looks (model prog w) s.heap (typeOf (.ref x)) (.ref 71) := (Looks.ld hx).andThen .now
  refine wpAny_bind (wpAny_mkText (wpAny_bind (wpAny_bind (wpAny_bind (ty _ _ _ _ (fun _ _ e => e) (looks_findIn X hs _ _ _ _ (fun _ _ e => e) (wpAny_holding ?_)))))))
  rw [PySem.F.store_object.slot.bind]
  refine wpAny_bind (wpAny_pure (wpAny_bind (wpAny_call (codeAny_mono (open71 (s := { s with toks := s.toks + 1 }) (R := fun r s' => match r with | .ok (.ret _) => Q () s' | .ok _ => False | .error e => E e s') X hC hx ht fun b => ?_) fun r s' z => ?_))))
  · refine wpAny_bind (wpAny_pure (wpAny_bind (dict71 (s := { s with toks := s.toks + 1 }) X hC hx fun h' k1 k2 k3 => ?_)))
    refine dict_tail (es := []) (n := 0) k2 rfl (by decide) fun tk tk' h2 q1 q2 => ?_
    have hxd : x ≠ s.heap.objs.size := Nat.ne_of_lt (Heap.lt_size hx)
    exact h tk tk' h2 (q2 _ _ hxd k1) q1 fun b o hb e => q2 _ _ (Nat.ne_of_lt (Heap.lt_size e)) (k3 b o hb e)
  · rcases r with e | (v | _ | _ | _) <;> first | exact z | exact wpAny_pure (wpAny_pure z)

theorem set71' {Q : Unit → Shared → Prop} (X : K.In s.heap) (hC : K.lookup 71 = some o71) (hx : s.heap.get? x = some (excObj (some dx) tt)) (D : s.heap.get? dx = some (dictOf es n)) (hr : (es.any (·.refKey)) = false) (hz : es.length ≤ 900)
    (hs : findIn K (.ref 71) "__setattr__" = some (some (.builtin "object.__setattr__"))) (ht : takerIn K 71 name = some none)
    (h : ∀ tk tk' h', h'.get? dx = some (dictOf (putL name (PyData.keyHash w.params name) (.str name tk) v es) (putN name es n)) → (∀ b o, b ≠ dx → s.heap.get? b = some o → h'.get? b = some o) → Q () { s with heap := h', toks := tk' }) :
    wpAny (model prog w) A (setAttr (.ref x) name v) Q E s := by
  have ty : Looks (model prog w) s.heap (typeOf (.ref x)) (.ref 71) := (Looks.ld hx).andThen .now
  refine wpAny_bind (wpAny_mkText (wpAny_bind (wpAny_bind (wpAny_bind (ty _ _ _ _ (fun _ _ e => e) (looks_findIn X hs _ _ _ _ (fun _ _ e => e) (wpAny_holding ?_)))))))
  rw [PySem.F.store_object.slot.bind]
  refine wpAny_bind (wpAny_pure (wpAny_bind (wpAny_call (codeAny_mono (open71 (s := { s with toks := s.toks + 1 }) (R := fun r s' => match r with | .ok (.ret _) => Q () s' | .ok _ => False | .error e => E e s') X hC hx ht fun b => ?_) fun r s' z => ?_))))
  · refine wpAny_bind (wpAny_pure (wpAny_bind (dict71' (s := { s with toks := s.toks + 1 }) X hC hx ?_)))
    exact dict_tail (s := { s with toks := s.toks + 1 }) D hr hz fun tk tk' h2 q1 q2 => h tk tk' h2 q1 q2
  · rcases r with e | (v | _ | _ | _) <;> first | exact z | exact wpAny_pure (wpAny_pure z)
end
end Mine
end

section
open PySem PySem.W PyProof.Rows PySem.Calls
namespace Mine

section
variable {X : Cx} {k : Nat} {env : Env}

theorem Rel.grow {c : FC} {A : Around} {D : DM} {σ : St} {s : Shared} (P : Pre X k c A D σ s) {pre post : List (Addr × MO)} {a d : Addr} {fs fs' : List (Str × V)} (ho : σ.objs = pre ++ (a, .exc none fs) :: post)
    {h' : Heap} {t' : Nat} (hm : MOR D h' a (.exc (some d) fs')) (hd : s.heap.get? d = none) (kp : ∀ b o, b ≠ a → s.heap.get? b = some o → h'.get? b = some o) :
    Rel X.g0 c D { σ with objs := pre ++ (a, .exc (some d) fs') :: post } { s with heap := h', toks := t' } := by
  have ho' : σ.objs = pre ++ ([(a, .exc none fs)] ++ post) := ho
  have CP := Rel.cpre P ho'
  have f1 : feet [(a, MO.exc none fs)] = [a] := by simp [feet, footO]
  have f2 : feet [(a, MO.exc (some d) fs')] = [a, d] := by simp [feet, footO]
  obtain ⟨t, he⟩ := fl_of P.rel (a := a) (od := none) (fs := fs) (by rw [ho]; simp)
  have had : a ≠ d := fun q => by rw [← q, he] at hd; cases hd
  have Dd : D d = none := by
    cases q : D d with
    | none => rfl
    | some o => have := P.rel.kD d o q; rw [hd] at this; cases this
  have C : CPost X c.stack D [(a, MO.exc none fs)] s .none .none D [(a, MO.exc (some d) fs')] h' := by
    refine ⟨DM.le_refl D, fun b o e => .inl e, fun b o e => kp b o (fun hb => ?_) (CP.kD b o e), fun b o e n => ?_, fun b hb => ?_, fun p hp => ?_, ?_, fun b hb => ?_, fun b hb => ?_, .none⟩
    · rw [CP.disD b (by rw [f1, hb]; exact List.mem_cons_self)] at e; cases e
    · have := kp b o (fun q => n (by rw [f1, q]; exact List.mem_cons_self)) e; exact ⟨⟨o.slots, this⟩, fun _ => this⟩
    · rw [f1] at hb
      rw [List.mem_singleton.mp hb]
      obtain ⟨⟨t, e⟩, _⟩ := hm
      exact ⟨_, e⟩
    · rw [List.mem_singleton.mp hp]; exact hm
    · rw [f2]; simp [had]
    · rw [f2] at hb
      rcases List.mem_cons.mp hb with rfl | hb
      · exact CP.disD b (by rw [f1]; exact List.mem_cons_self)
      · rw [List.mem_singleton.mp hb]; exact Dd
    · rw [f2] at hb
      rcases List.mem_cons.mp hb with rfl | hb
      · exact .inl (by rw [f1]; exact List.mem_cons_self)
      · rw [List.mem_singleton.mp hb]; exact .inr hd
  exact Rel.after P ho' C

noncomputable def fsOf (od : Option Addr) (fs : List (Str × V)) : List (Str × V) := match od with | none => [] | some _ => fs
noncomputable abbrev fSetE (name : Str) (v ov : V) : W FV := fun QV _ σ => ∃ a od fs pre post, ov = .raw (.ref a) ∧ σ.objs = pre ++ (a, .exc od fs) :: post ∧ fs.length ≤ 100 ∧ ∀ d, QV .next { σ with objs := pre ++ (a, .exc (some d) (putF name v (fsOf od fs))) :: post }
theorem ts_setexc {o e : Expr} {name : Str} {pos pos' : Pos} {de do_ : W V} (he : TE X k env e de) (ho : TE X k env o do_) (hS : ∀ P : Params, findIn (hd.heap_39 P) (.ref 71) "__setattr__" = some (some (.builtin "object.__setattr__")) ∧ takerIn (hd.heap_39 P) 71 name = some none)
    (hs : swapsWith e (some (.Attribute o name pos')) pos.line env = pure false := by rfl) :
    TS1 X k env (.Assign [.Attribute o name pos'] e pos) (wBin de do_ (fSetE name)) :=
  fun c A D σ s QV EV Q E hc P h O OE => by
    refine g_Assign_Attribute (he c A D σ s _ EV _ E hc P h (fun v vv D1 σ1 s1 R1 l1 hv q => ?_) OE) hs
    refine ho c A D1 σ1 s1 _ EV _ E hc (P.to R1) q (fun ov ovv D2 σ2 s2 R2 l2 hov q2 => ?_) OE
    obtain ⟨a, od, fs, pre, post, rfl, hobj, hlen, hq⟩ := q2
    cases hov
    obtain ⟨p1, p2⟩ := hS X.w.params
    have hm := R2.obj (a, .exc od fs) (by rw [hobj]; simp)
    have X2 := kIn (P.to R2)
    cases od with
    | none =>
      obtain ⟨t, hx⟩ := hm
      refine set71 X2 (cls71 X) hx p1 p2 fun tk tk' h' k1 k2 k3 => ?_
      have R3 := Rel.grow (P.to R2) (t' := tk') hobj (h' := h') (d := s2.heap.objs.size) (fs' := putF name v []) ⟨⟨_, k1⟩, _, _, k2, entOf_put (hv.mono l2) (fs := []) (es := []) trivial⟩ (none_at (Nat.le_refl _)) k3
      exact O .next .next D2 _ _ R3 (DM.le_trans l1 l2) rfl (hq _)
    | some d =>
      obtain ⟨⟨t, hx⟩, es, n, e2, e3⟩ := hm
      obtain ⟨g1, g2, g3⟩ := entOf_some (name := name) e3
      refine set71' X2 (cls71 X) hx e2 g3 (by (first | lia | omega)) p1 p2 fun tk tk' h' k1 k2 => ?_
      have had : a ≠ d := fun q => by
        have nd := (Rel.cpre (P.to R2) (O := [(a, .exc (some d) fs)]) hobj).nd
        simp [feet, footO, q] at nd
      have R3 := Rel.turn (P.to R2) (mo' := .exc (some d) (putF name v fs)) (t' := tk') hobj rfl (h' := h') ⟨⟨_, k2 a _ had hx⟩, _, _, k1, entOf_put (hv.mono l2) e3⟩ fun b o hb e => k2 b o (fun q => hb (by simp [footO, q])) e
      exact O .next .next D2 _ _ R3 (DM.le_trans l1 l2) rfl (hq d)

/-- `Exception.__init__(self, what)` -/
noncomputable def wExcInit : List V → W V
  | .raw (.ref a) :: r => fun Q _ σ => r.length ≤ 100 ∧ (∃ od fs, (a, MO.exc od fs) ∈ σ.objs) ∧ Q .none σ
  | _ => wNo
theorem wExcInit_inv {vs : List V} {Q : V → St → Prop} {E : Prop} {σ : St} (h : wExcInit vs Q E σ) : ∃ a r, vs = .raw (.ref a) :: r := by
  rcases vs with _ | ⟨v, vs⟩
  · exact h.elim
  cases v <;> first | exact h.elim | skip
  rename_i v
  cases v <;> first | exact h.elim | exact ⟨_, _, rfl⟩
theorem tf_excInit : TF X k (.builtin "Exception.__init__") wExcInit := ⟨cw_bltn, fun c A D σ s vs vals QV EV Q E P hv h O OE => g_of <| by
    obtain ⟨a, r, rfl⟩ := wExcInit_inv h
    obtain ⟨y, rv, rfl, hy, hr⟩ := hv.cons_inv
    obtain rfl := hy.raw_inv
    obtain ⟨hl, ⟨od, fs, hm⟩, hq⟩ := h
    obtain ⟨t, he⟩ := fl_of P.rel hm
    obtain ⟨pre, post, ho⟩ := List.append_of_mem hm
    refine exc_init (kIn P _ _ (cls71 X)) he (by rw [hr.length]; exact Nat.le_trans hl (by decide)) fun h' k1 k2 => ?_
    have hmo : MOR D h' a (.exc od fs) := by
      have hmr := P.rel.obj _ hm
      cases od with
      | none => exact ⟨_, k1⟩
      | some d =>
        obtain ⟨-, es, n, e2, e3⟩ := hmr
        have had : a ≠ d := fun q => by
          have nd := (Rel.cpre P (O := [(a, .exc (some d) fs)]) ho).nd
          simp [feet, footO, q] at nd
        exact ⟨⟨_, k1⟩, es, n, k2 _ _ (Ne.symm had) e2, e3⟩
    have R2 := Rel.turn P (mo' := .exc od fs) (t' := s.toks) ho rfl (h' := h') hmo fun b o hb e => k2 b o (fun q => hb (by cases od <;> simp [footO, q])) e
    have e : ({ σ with objs := pre ++ (a, .exc od fs) :: post } : St) = σ := by rw [← ho]
    rw [e] at R2
    exact O .none _ D σ _ R2 (DM.le_refl D) .none hq⟩

theorem te_excInit {o : Expr} {apos pos : Pos} {args : List Expr} {da : W (List V)} {pl : Sem Bool} (ho : TE X k env o (wVal (.raw (.type "Exception")))) (ha : TA X k env args da)
    (he : eval (.Call (.Attribute o "__init__" apos) args [] pos) env = (do
      let ov ← eval o env
      standAt apos.atName
      let (f, first) ← holding [ov] (getMethod ov "__init__" pl)
      callWith pos f first (backTo pos (starEach args env)) (backToKw pos (keywordEach [] env))) := by rfl) :
    TE X k env (.Call (.Attribute o "__init__" apos) args [] pos) (wArg da wExcInit) :=
  fun c A D σ s QV EV Q E hc P h O OE => by
    refine g_method (name := "__init__") (pl := pl) (ho c A D σ s (fun v σ1 => v = .raw (.type "Exception") ∧ da (fun vs σ2 => wExcInit vs QV EV σ2) EV σ1) EV _ E hc P ⟨rfl, h⟩ (fun ov vv D1 σ1 s1 R1 l1 hv q => ?_) OE) he
    obtain ⟨rfl, q⟩ := q
    cases hv
    refine getm_excInit (kIn (P.to R1)) ?_
    have hg := tf_excInit (X := X) (k := k)
    have R1' := R1.toks (s1.toks + 1)
    refine hg.1 (ha.1 pos) (g_evalArgs (ha.2 pos c A D1 σ1 _ _ EV _ E hc (P.to R1') q (fun vs vvs D2 σ2 s2 R2 l2 hvs q3 => ⟨kIn (P.to R2), ?_⟩) OE) (ha.1 pos))
    exact hg.2 c A D2 σ2 s2 vs vvs QV EV Q E (P.to R2) hvs q3 (O.le (DM.le_trans l1 l2)) OE
end
end Mine
end

section
open PySem PySem.W PyProof.Rows PySem.Calls
namespace Mine

theorem g_tryStmt {b : Bool} {M : Model} {A : Around} {E : Value → Shared → Prop} {s : Shared} {env : Env} {body orelse : Sem Flow} {h₀ : ExceptHandler} {hs : List ExceptHandler} {Q : Flow → Shared → Prop}
    (h : wpG b M A body (fun f s₁ => match f with | .next => wpG b M A orelse Q E s₁ | f => Q f s₁)
      (fun e s₁ => wpAny M A (noteFrame e env) (fun _ s₂ => wpAny M A (setFlight e none) (fun _ s₃ => wpAny M A (handleBy e env (h₀ :: hs)) Q E s₃) E s₂) E s₁) s) :
    wpG b M A (tryStmt false body (h₀ :: hs) orelse [] env) Q E s := by
  unfold tryStmt
  simp only [List.isEmpty_nil, if_true, List.isEmpty_cons, Bool.false_and, Bool.false_eq_true, if_false]
  refine g_bind (g_attempt (g_mono h (fun f s₁ h₁ => ?_) fun e s₁ h₁ => ?_))
  · cases f <;> first | exact h₁ | exact g_pure h₁
  · exact g_of (wpAny_bind (wpAny_mono h₁ (fun _ _ h₂ => wpAny_bind h₂) fun _ _ x => x))

theorem cellsFrom_none : ∀ (ns : List (Str × NameKind)) (n : Nat) (acc : List (Str × Addr)), (ns.all fun p => !(p.2 == .cell)) = true → cellsFrom n ns acc = acc
  | [], _, _, _ => rfl
  | (x, kd) :: r, n, acc, h => by
    simp only [List.all_cons, Bool.and_eq_true, Bool.not_eq_true'] at h
    unfold cellsFrom
    split
    · rename_i q
      rw [q] at h; simp at h
    · exact cellsFrom_none r n acc h.2

theorem stack_of_frames {h b : Heap} : ∀ {l : List Env}, h.FunFrames b l → StackOK h l
  | [], _ => trivial
  | _ :: _, ⟨hk, ⟨L, o, hf, _, ho, hd⟩, hr⟩ => ⟨hk, ⟨L, o, hf, ho, hd⟩, stack_of_frames hr⟩

/-- what is left of a frame without cells, when a fault was caught in it -/
theorem Rel.caught {g0 : Heap} {c : FC} {D : DM} {σ : St} {s s' : Shared} (R : Rel g0 c D σ s) (H : Head c D σ) (ho : σ.objs = []) (hc : (c.env.scope.names.all fun p => !(p.2 == .cell) && !(p.2 == .free)) = true) {e : Value} (F : FlightIn c e s') : Rel g0 c D ⟨[], []⟩ s' := by
  obtain ⟨ea, a0, b, h, t, rfl, rfl, f1, f2, f3, f4, f5, f6, f7⟩ := F
  have hown : c.own = [] := by
    obtain ⟨n, hn⟩ := H.cells
    rw [H.own, hn, cellsFrom_none]
    · rfl
    · refine List.all_eq_true.mpr fun p hp => ?_
      have := List.all_eq_true.mp hc p hp
      simp only [Bool.and_eq_true] at this
      exact this.1
  have B1 : ∀ a o, c.base.heap.get? a = some o → c.B a = some o := fun a o e => by rw [H.B, ho]; simp [feet, e]
  have DB : ∀ a o, D a = some o → h.get? a = some o := fun a o e => by
    have e1 := B1 a o (H.D a o e)
    exact f3 a o (f1 a o e1 fun hm => by rw [R.disS a hm] at e; cases e)
  have ff : foot c [] = foot c σ.objs := by rw [ho]
  refine ⟨⟨h, t, rfl⟩, DB, R.gD, R.d0, R.dn, fun a o e => ?_, fun a o e => ⟨f2 a o e, fun hn => f3 a o (f1 a o e hn)⟩, stack_of_frames f5, ⟨?_, fun i x kd e1 e2 => ?_, fun a ha => ?_⟩, (fun _ hp => by cases hp), fun p hp => ?_, fun a ha => R.disB a (ff ▸ ha), fun a ha => R.disD a (ff ▸ ha), R.disS, R.frB, ff ▸ R.nd⟩
  · obtain ⟨sl, q⟩ := f2 a o (B1 a o e); exact ⟨_, q⟩
  · obtain ⟨m, hm⟩ := f6
    exact ⟨m, hm, fun i x v _ h2 => by simp at h2⟩
  · have := List.all_eq_true.mp hc _ (List.mem_of_getElem? e1)
    rcases e2 with rfl | rfl <;> simp at this
  · rw [hown] at ha; cases ha
  · rw [H.hid] at hp; cases hp

section
variable {X : Cx} {k : Nat} {env : Env}
/-- `try: body; except WireFault: return b` ahead of the rest -/
theorem ts_try {body rest : List Stmt} {x : Str} {np hpos pos rpos cpos : Pos} {n : Nat} {b : Bool} {d dr : W FV} (i : Nat) (hx : env.scope.names[i]? = some (x, .globalImplicit)) (e : ∀ P : Params, nsIn (hd.heap_39 P) mainGlobals x = some (some (.ref 71)))
    (hc : (env.scope.names.all fun p => !(p.2 == .cell) && !(p.2 == .free)) = true) (h1 : TS X k env body d) (h2 : TS X k env rest dr) :
    TS0 X k env (.Try body [.ExceptHandler (some (.Name x np)) none [.Return (some (.Constant (.bool b) n cpos)) rpos] hpos] [] [] pos :: rest)
      (fun QV EV σ => σ.objs = [] ∧ ∃ EV', (EV' → QV (.ret (.bool b)) ⟨[], []⟩) ∧ d (wNext dr QV EV) EV' σ) :=
  fun c A D σ s QV EV Q E hcv P H q O OE => by
    obtain ⟨ho, EV', hEV, q⟩ := q
    have hcc : (c.env.scope.names.all fun p => !(p.2 == .cell) && !(p.2 == .free)) = true := by rw [hcv]; exact hc
    refine g_execs_cons ?_
    rw [arm_exec_Try]
    refine g_stand (g_tryStmt (h1 c A D σ s _ EV' _ _ hcv P q (fun f ff D1 σ1 s1 R1 l1 fr q1 => ?_) fun ev ex s1 F => ?_))
    · cases f with
      | next => cases fr; exact g_of (wpAny_execs_nil (h2 c A D1 σ1 s1 QV EV Q E hcv (P.to R1) q1 (O.le l1) OE))
      | ret v => obtain ⟨vv, rfl, hv⟩ := fr; exact O (.ret v) (.ret vv) D1 σ1 s1 R1 l1 ⟨vv, rfl, hv⟩ q1
    · subst hcv
      have hst : OwnFrame c := P.top
      refine fi_noted P.fr hst F fun s2 F2 hT => fi_setFlight F2 hT fun s3 F3 hH => ?_
      have R3 := P.rel.caught H ho hcc F3
      obtain ⟨ea, a0, b0, h, t, rfl, hs3, -, -, -, -, -, tr⟩ := hH
      have hT3 : ∃ ea' a0 b v, (Value.ref ea : Value) = .ref ea' ∧ s3.heap.TracedAtW b ea' (.ref 71) a0 v := ⟨ea, a0, b0, _, rfl, by rw [hs3]; exact tr⟩
      obtain ⟨oe, hoe, hoec⟩ := tr.there
      have hoe3 : s3.heap.get? ea = some oe := by rw [hs3]; exact hoe
      have hk3 : ∀ b o, X.g0.get? b = some o → s3.heap.get? b = some o := fun b o q => R3.kD _ _ (R3.gD _ _ q)
      have hC3 : s3.heap.get? 71 = some o71 := hk3 _ _ (P.G.K _ _ (cls71 X))
      obtain ⟨mg, hg⟩ := P.G.mg
      refine wpAny_handleBy_cons (codeAny_handlers_test ?_) (by intro q; cases q)
      refine Name_function_global P.ok.kind (kind_of P.ok hx) (loadGlobal_global (mg := mg) (P.ok.glob ▸ hg.keeps hk3) (mg_of P.G.K hg (e _)) ?_) (dbg_of P.ok hx)
      refine wpAny_excMatches_sub_self (t := s3.toks) (g := s3.gens) (d := s3.drawn) (os := s3.os) hC3 hoe3 hoec (by decide +kernel) ?_
      refine codeAny_handlers_suite ?_
      refine fi_setFlight F3 hT3 fun s4 F4 _ => ?_
      have R4 := P.rel.caught H ho hcc F4
      refine g_no (g_execs_cons (g_Return (g_pure ?_)))
      exact O (.ret (.bool b)) (.ret (.bool b)) D ⟨[], []⟩ s4 R4 (DM.le_refl D) ⟨_, rfl, .bool b⟩ (hEV ev)
end
end Mine
end

section
open PySem PySem.W PyProof.Rows PySem.Calls
namespace Mine

/-! ### the text's classes -/
theorem attr_data : AttrOK 360 "data" := fun P => ⟨by kernel_rfl, by kernel_rfl, by kernel_rfl⟩
theorem attr_at : AttrOK 360 "at" := fun P => ⟨by kernel_rfl, by kernel_rfl, by kernel_rfl⟩
theorem attr_text : AttrOK 124 "text" := fun P => ⟨by kernel_rfl, by kernel_rfl, by kernel_rfl⟩
theorem set_data : SetOK 360 "data" := fun P => ⟨by kernel_rfl, by kernel_rfl, by kernel_rfl, by kernel_rfl⟩
theorem set_at : SetOK 360 "at" := fun P => ⟨by kernel_rfl, by kernel_rfl, by kernel_rfl, by kernel_rfl⟩
theorem set_text : SetOK 124 "text" := fun P => ⟨by kernel_rfl, by kernel_rfl, by kernel_rfl, by kernel_rfl⟩
theorem set_exc (name : Str) (h : ∀ P : Params, takerIn (hd.heap_39 P) 71 name = some none) : ∀ P : Params, findIn (hd.heap_39 P) (.ref 71) "__setattr__" = some (some (.builtin "object.__setattr__")) ∧ takerIn (hd.heap_39 P) 71 name = some none :=
  fun P => ⟨by kernel_rfl, h P⟩
theorem meth_peek : MethOK 360 "peek" 204 := fun P => ⟨by kernel_rfl, by kernel_rfl, by kernel_rfl⟩
theorem meth_skip : MethOK 360 "skip" 211 := fun P => ⟨by kernel_rfl, by kernel_rfl, by kernel_rfl⟩
theorem meth_need : MethOK 360 "need" 218 := fun P => ⟨by kernel_rfl, by kernel_rfl, by kernel_rfl⟩
theorem meth_space : MethOK 360 "space" 225 := fun P => ⟨by kernel_rfl, by kernel_rfl, by kernel_rfl⟩
theorem meth_run : MethOK 360 "run" 239 := fun P => ⟨by kernel_rfl, by kernel_rfl, by kernel_rfl⟩
theorem meth_fault : MethOK 360 "fault" 197 := fun P => ⟨by kernel_rfl, by kernel_rfl, by kernel_rfl⟩
theorem meth_quoted : MethOK 360 "quoted" 295 := fun P => ⟨by kernel_rfl, by kernel_rfl, by kernel_rfl⟩
theorem meth_literal : MethOK 360 "literal" 302 := fun P => ⟨by kernel_rfl, by kernel_rfl, by kernel_rfl⟩
theorem meth_string : MethOK 360 "string" 309 := fun P => ⟨by kernel_rfl, by kernel_rfl, by kernel_rfl⟩
theorem meth_plain_value : MethOK 360 "plain_value" 349 := fun P => ⟨by kernel_rfl, by kernel_rfl, by kernel_rfl⟩
theorem meth_value : MethOK 360 "value" 357 := fun P => ⟨by kernel_rfl, by kernel_rfl, by kernel_rfl⟩
theorem meth_told : MethOK 124 "told" 121 := fun P => ⟨by kernel_rfl, by kernel_rfl, by kernel_rfl⟩

section
variable {X : Cx} {k : Nat} {env : Env}

/-- a call of the text's own function -/
theorem te_callt {fe : Expr} {args : List Expr} {pos : Pos} {a : Addr} {da : W (List V)} (hf : TE X k env fe (wVal (.raw (.ref a)))) (hcw : CWok X (.ref a)) (ha : TA X k env args da)
    (hs : eval (.Call fe args [] pos) env = (do callWith pos (← eval fe env) [] (backTo pos (starEach args env)) (backToKw pos (keywordEach [] env))) := by rfl) :
    TE X k env (.Call fe args [] pos) (wArg da (wCt X k (.ref a))) :=
  fun c A D σ s QV EV Q E hc P h O OE => by
    rw [hs]
    refine g_bind (hf c A D σ s (fun vf σ1 => vf = .raw (.ref a) ∧ da (fun vs σ2 => wCt X k (.ref a) vs QV EV σ2) EV σ1) EV _ E hc P ⟨rfl, h⟩ (fun vf vv D1 σ1 s1 R1 l1 hvf q => ?_) OE)
    obtain ⟨rfl, q⟩ := q
    cases hvf
    refine hcw (ha.1 pos) (g_evalArgs (ha.2 pos c A D1 σ1 s1 _ EV _ E hc (P.to R1) q (fun vs vvs D2 σ2 s2 R2 l2 hvs q2 => ⟨kIn (P.to R2), ?_⟩) OE) (ha.1 pos))
    obtain ⟨pre, Ob, post, ho, hct⟩ := q2
    exact callV (P.to R2) hvs ho hct (O.le (DM.le_trans l1 l2)) OE

theorem wct0 {f : Value} {vs : List V} {r : V} {QV : V → St → Prop} {EV : Prop} {σ : St} (hct : CT X k f vs [] (fun v O' => v = r ∧ O' = []) False) (h : QV r σ) : wCt X k f vs QV EV σ := by
  refine ⟨σ.objs, [], [], by simp, hct.mono (fun v O' q => ?_) False.elim⟩
  obtain ⟨rfl, rfl⟩ := q
  simpa using h
end
end Mine
end

section
open PySem PySem.W PyProof.Rows PySem.Calls
namespace Mine
section
variable {X : Cx} {k : Nat} {env : Env}
noncomputable abbrev fSSub (a b : V) : W V := fun QV _ σ => ∃ l i c, a = .str l ∧ b = .int i ∧ 0 ≤ i ∧ i < 16777216 ∧ l[i.toNat]? = some c ∧ QV (.str [c]) σ
/-- `text[i]` -/
theorem te_ssub {value slice : Expr} {pos : Pos} {dv di : W V} (hv : TE X k env value dv) (hi : TE X k env slice di) (hs : ∀ o i, subscripted slice false o i = operate [o, i] (getItem o i) := by intro _ _; rfl) :
    TE X k env (.Subscript value slice pos) (wBin dv di fSSub) :=
  fun c A D σ s QV EV Q E hc P h O OE => by
    refine g_Subscript (hv c A D σ s _ EV _ E hc P h (fun a va D1 σ1 s1 R1 l1 v1 h1 => hi c A D1 σ1 s1 _ EV _ E hc (P.to R1) h1 (fun b vb D2 σ2 s2 R2 l2 v2 h2 => ?_) OE) OE)
    obtain ⟨l, i, ch, rfl, rfl, g0, g1, g2, g3⟩ := h2
    cases v1; cases v2
    rename_i t u
    have hlt := (List.getElem?_eq_some_iff.mp g2).1
    have hcat : Txt.charAt (strD l) i = some ch := by
      unfold Txt.charAt
      rw [strD_len, seqIdx g0 hlt]
      simpa using g2
    have hit : Txt.item (strD l) i = strD [ch] := by unfold Txt.item; rw [hcat]; rfl
    refine tail_ok (typeIs_str _ _ _) F.slot_str_getitem.lookup (hs _ _) (SB.getItem (by unfold fitsSsize; simp; (first | lia | omega)) (by rw [hcat]; rfl) ?_)
    rw [hit]
    exact O _ _ D2 σ2 _ (R2.toks _) (DM.le_trans l1 l2) (.str _ _) g3
end
end Mine
end

section
open PySem PySem.W PyProof.Rows PySem.Calls
namespace Mine

theorem len1 {vals : List Value} (h : vals.length = 1) : ∃ a, vals = [a] := List.length_eq_one_iff.mp h
theorem len2 {vals : List Value} (h : vals.length = 2) : ∃ a b, vals = [a, b] := by
  rcases vals with _ | ⟨a, r⟩
  · cases h
  · obtain ⟨b, rfl⟩ := len1 (Nat.succ.inj h)
    exact ⟨a, b, rfl⟩
theorem len3 {vals : List Value} (h : vals.length = 3) : ∃ a b c, vals = [a, b, c] := by
  rcases vals with _ | ⟨a, r⟩
  · cases h
  · obtain ⟨b, c, rfl⟩ := len2 (Nat.succ.inj h)
    exact ⟨a, b, c, rfl⟩
theorem compGo_map {de : W V} {tgt : Nat} {f : V → V} {EV : Prop} {objs : List (Addr × MO)} {loc0 : List (Option V)} : ∀ (items : List V), (∀ v ∈ items, ∀ Q : V → St → Prop, Q (f v) ⟨loc0.set tgt (some v), objs⟩ → de Q EV ⟨loc0.set tgt (some v), objs⟩) →
    ∀ (acc : List V) (loc : List (Option V)) (K : List V → List (Addr × MO) → Prop), (∀ v, loc.set tgt (some v) = loc0.set tgt (some v)) → K (acc ++ items.map f) objs → wCompGo wYes de tgt items acc loc K EV objs
  | [], _, acc, loc, K, _, h => by simpa [wCompGo] using h
  | v :: r, hd, acc, loc, K, hl, h => by
    unfold wCompGo wYes
    dsimp only
    rw [if_pos rfl, hl v]
    refine hd v List.mem_cons_self _ ?_
    refine compGo_map r (fun u hu => hd u (List.mem_cons_of_mem _ hu)) _ _ _ (fun u => by simp) ?_
    simpa using h

theorem compGo_filter {dt : W Bool} {de : W V} {tgt : Nat} {p : V → Bool} {f : V → V} {EV : Prop} {objs : List (Addr × MO)} {loc0 : List (Option V)} : ∀ (items : List V), (∀ v ∈ items, ∀ Q : Bool → St → Prop, Q (p v) ⟨loc0.set tgt (some v), objs⟩ → dt Q EV ⟨loc0.set tgt (some v), objs⟩) →
    (∀ v ∈ items, p v = true → ∀ Q : V → St → Prop, Q (f v) ⟨loc0.set tgt (some v), objs⟩ → de Q EV ⟨loc0.set tgt (some v), objs⟩) →
    ∀ (acc : List V) (loc : List (Option V)) (K : List V → List (Addr × MO) → Prop), (∀ v, loc.set tgt (some v) = loc0.set tgt (some v)) → K (acc ++ (items.filter p).map f) objs → wCompGo dt de tgt items acc loc K EV objs
  | [], _, _, acc, loc, K, _, h => by simpa [wCompGo] using h
  | v :: r, ht, hd, acc, loc, K, hl, h => by
    unfold wCompGo
    rw [hl v]
    refine ht v List.mem_cons_self _ ?_
    have ih := compGo_filter r (fun u hu => ht u (List.mem_cons_of_mem _ hu)) (fun u hu => hd u (List.mem_cons_of_mem _ hu))
    cases hp : p v with
    | true =>
      rw [if_pos rfl]
      refine hd v List.mem_cons_self hp _ ?_
      refine ih _ _ _ (fun u => by simp) ?_
      simpa [List.filter_cons, hp] using h
    | false =>
      rw [if_neg (by simp)]
      refine ih _ _ _ (fun u => by simp) ?_
      simpa [List.filter_cons, hp] using h

theorem wFor_inv {b : V → W FV} {EV : Prop} (I : List V → St → Prop) (hb : ∀ v r σ (Q : FV → St → Prop), I (v :: r) σ → (∀ σ1, I r σ1 → Q .next σ1) → b v Q EV σ) : ∀ (items : List V) (σ : St) (Q : FV → St → Prop), I items σ → (∀ σ1, I [] σ1 → Q .next σ1) → wFor b items Q EV σ
  | [], σ, Q, h, hq => hq σ h
  | v :: r, σ, Q, h, hq => by
    unfold wFor
    refine hb v r σ _ h fun σ1 h1 => ?_
    exact wFor_inv I hb r σ1 Q h1 hq

theorem ret0 {v : V} {objs : List (Addr × MO)} {QV : V → List (Addr × MO) → Prop} (h : QV v []) : ∃ v' O', RetV [] objs v v' O' ∧ QV v' O' := ⟨v, [], .same (List.nil_sublist _), h⟩

theorem bnif_t {α : Type} {x y : W α} {QV : α → St → Prop} {EV : Prop} {σ : St} (h : x QV EV σ) : bOf (kNot (kIf x y QV EV)) (.bool false) σ := h
theorem bnif_f {α : Type} {x y : W α} {QV : α → St → Prop} {EV : Prop} {σ : St} (h : y QV EV σ) : bOf (kNot (kIf x y QV EV)) (.bool true) σ := h
theorem wisd_of {l : List Nat} {b : Bool} {QV : V → St → Prop} {EV : Prop} {σ : St} (e : Txt.isdigit (strD l) = b) (q : QV (.bool b) σ) : wIsdigit [.str l] QV EV σ := by subst e; exact q
theorem fari_i {r : Int → Int → Int} {a b : Int} {QV : V → St → Prop} {EV : Prop} {σ : St} (q : QV (.int (r a b)) σ) : fArith r (.int a) (.int b) QV EV σ := q
theorem wmin_of {a b m : Int} {QV : V → St → Prop} {EV : Prop} {σ : St} (e : (if b < a then b else a) = m) (q : QV (.int m) σ) : wMin [.int a, .int b] QV EV σ := by subst e; exact q
theorem feql_of {x : List V} {b : Bool} {QV : Bool → St → Prop} {EV : Prop} {σ : St} (e : x.isEmpty = b) (q : QV b σ) : fEq (.list x) (.list []) (bOf QV) EV σ := by subst e; exact q
theorem wctF {X : Cx} {k : Nat} {f : Value} {vs : List V} (pre O post : List (Addr × MO)) {P : V → List (Addr × MO) → Prop} {loc : List (Option V)} {QV : V → St → Prop} {EV EV' : Prop} (hct : CT X k f vs O P EV') (he : EV' → EV) (h : ∀ v O', P v O' → QV v ⟨loc, pre ++ (O' ++ post)⟩) : wCt X k f vs QV EV ⟨loc, pre ++ (O ++ post)⟩ :=
  ⟨pre, O, post, rfl, hct.mono h he⟩
theorem word_of {c : Nat} {QV : V → St → Prop} {EV : Prop} {σ : St} (q : QV (.int (c : Int)) σ) : wOrd [.str [c]] QV EV σ := q
theorem fch_i {r1 r2 : Int → Int → Bool} {a b c : Int} {q : Bool} {QV : Bool → St → Prop} {EV : Prop} {σ : St} (e : (r1 a b && r2 b c) = q) (h : QV q σ) : fCh (fCmp r1) (wVal (.int c)) (fT (fCmp r2)) wNay (.int a) (.int b) QV EV σ := by
  subst e
  show kIf (wUn (wVal (.int c)) (fT (fCmp r2) (.int b))) wNay QV EV (r1 a b) σ
  cases e1 : r1 a b with
  | false => rw [e1] at h; exact h
  | true => rw [e1] at h; exact h
theorem fche_i {r1 r2 : Int → Int → Bool} {a b c : Int} {q : Bool} {QV : V → St → Prop} {EV : Prop} {σ : St} (e : (r1 a b && r2 b c) = q) (h : QV (.bool q) σ) : fCh (fCmp r1) (wVal (.int c)) (fCmp r2) (wVal (.bool false)) (.int a) (.int b) QV EV σ := by
  subst e
  show kIf (wUn (wVal (.int c)) (fCmp r2 (.int b))) (wVal (.bool false)) QV EV (r1 a b) σ
  cases e1 : r1 a b with
  | false => rw [e1] at h; exact h
  | true => rw [e1] at h; exact h
theorem fadd_i {a b : Int} {QV : V → St → Prop} {EV : Prop} {σ : St} (q : QV (.int (a + b)) σ) : fAdd (.int a) (.int b) QV EV σ := q
theorem wloc_of {i : Nat} {v : V} {QV : V → St → Prop} {EV : Prop} {σ : St} (h : σ.loc[i]? = some (some v)) (q : QV v σ) : wLoc i QV EV σ := by
  unfold wLoc; rw [h]; exact q
theorem fis_of {a : V} {b : Bool} {QV : Bool → St → Prop} {EV : Prop} {σ : St} (e : isNone a = some b) (q : QV b σ) : fIs a .none (bOf QV) EV σ := by
  show (match isNone a with | some b => bOf QV (.bool b) σ | _ => False)
  rw [e]; exact q
theorem isi_of {v : V} {c : Value} {b : Bool} {QV : V → St → Prop} {EV : Prop} {σ : St} (e : isiOne v c = some b) (q : QV (.bool b) σ) : wIsi [v, .raw c] QV EV σ := by
  show (match isiOne v c with | some b => QV (.bool b) σ | none => False)
  rw [e]; exact q
theorem fne_of {x y : List UInt8} {b : Bool} {QV : Bool → St → Prop} {EV : Prop} {σ : St} (e : (x != y) = b) (q : QV b σ) : fNe (.bytes x) (.bytes y) (bOf QV) EV σ := by
  show QV (x != y) σ; rw [e]; exact q
theorem fnei_of {x y : Int} {b : Bool} {QV : Bool → St → Prop} {EV : Prop} {σ : St} (e : (x != y) = b) (q : QV b σ) : fNe (.int x) (.int y) (bOf QV) EV σ := by
  show QV (x != y) σ; rw [e]; exact q
theorem feqi_of {x y : Int} {b : Bool} {QV : Bool → St → Prop} {EV : Prop} {σ : St} (e : (x == y) = b) (q : QV b σ) : fEq (.int x) (.int y) (bOf QV) EV σ := by
  show QV (x == y) σ; rw [e]; exact q
theorem feqb_of {x y : List UInt8} {b : Bool} {QV : Bool → St → Prop} {EV : Prop} {σ : St} (e : (x == y) = b) (q : QV b σ) : fEq (.bytes x) (.bytes y) (bOf QV) EV σ := by
  show QV (x == y) σ; rw [e]; exact q
theorem feqs_of {x y : List Nat} {b : Bool} {QV : Bool → St → Prop} {EV : Prop} {σ : St} (e : (x == y) = b) (q : QV b σ) : fEq (.str x) (.str y) (bOf QV) EV σ := by
  show QV (x == y) σ; rw [e]; exact q
theorem fcmp_of {r : Int → Int → Bool} {x y : Int} {b : Bool} {QV : Bool → St → Prop} {EV : Prop} {σ : St} (e : r x y = b) (q : QV b σ) : fCmp r (.int x) (.int y) (bOf QV) EV σ := by
  show QV (r x y) σ; rw [e]; exact q
end Mine
end

section
open PySem PySem.W PyProof.Rows PySem.Calls
namespace Mine

noncomputable def lowerI (n : Int) : Int := if 65 ≤ n ∧ n ≤ 90 then n + 32 else n
section
variable {X : Cx} {k : Nat}
theorem ct_lower_code (n : Int) : CT X (k + 1) (.ref 80) [.int n] [] (fun v O => v = .int (lowerI n) ∧ O = []) False := by
  refine ct_def (dargs := []) (dvals := []) [Str.ofString "code"] [0] (fun P => rfl) (fun P => by kernel_rfl) (fun s P vals _ hl => ?bind) .nil (by decide +kernel) (by decide +kernel) rfl ?_
  case bind => obtain ⟨a, rfl⟩ := len1 hl; exact BindsTo.of_eq rfl
  refine ⟨_, fun L cells => ts_cons (ts_ret (te_ifexp (tt_chain te_int (te_loc 0 rfl) te_int tb_le tb_le) (te_bin (te_loc 0 rfl) te_int tb_add) (te_loc 0 rfl))) ts_nil, ?_⟩
  refine wloc_of rfl ?_
  refine fch_i rfl ?_
  unfold lowerI
  by_cases h : 65 ≤ n ∧ n ≤ 90
  · rw [if_pos h, decide_eq_true h.1, decide_eq_true h.2]
    refine kif_t ?_
    refine wloc_of rfl ?_
    exact ret0 ⟨rfl, rfl⟩
  · rw [if_neg h, show (decide (65 ≤ n) && decide (n ≤ 90)) = false by rw [← Bool.decide_and]; exact decide_eq_false h]
    refine kif_f ?_
    refine wloc_of rfl ?_
    exact ret0 ⟨rfl, rfl⟩

noncomputable def lowerB (l : List UInt8) : List UInt8 := l.map fun c => (lowerI (c.toNat : Int)).toNat.toUInt8

theorem ct_lower (l : List UInt8) (hl : l.length ≤ 16777216) : CT X (k + 2) (.ref 85) [.bytes l] [] (fun v O => v = .bytes (lowerB l) ∧ O = []) False := by
  refine ct_def (dargs := []) (dvals := []) [Str.ofString "octets"] [0] (fun P => rfl) (fun P => by kernel_rfl) (fun s P vals _ hl => ?bind) .nil (by decide +kernel) (by decide +kernel) rfl ?_
  case bind => obtain ⟨a, rfl⟩ := len1 hl; exact BindsTo.of_eq rfl
  refine ⟨_, fun L cells => (ts_cons (ts_ret (te_callb (te_bltn 1 rfl (fun P => by kernel_rfl) rfl (by decide)) (ta_cons (te_comp [] 1 (te_loc 0 rfl) (by kernel_rfl) (fun _ hc => tifs_nil) (fun _ hc => te_callt (te_glob 2 (by rw [hc]; rfl) (fun P => by kernel_rfl) (.raw (.ref 80))) (cw_keep fun P => by kernel_rfl) (ta_cons (te_loc 1 (by rw [hc]; rfl)) ta_nil))) ta_nil) tf_bytes)) ts_nil), ?_⟩
  refine ⟨l.map fun c => .int (c.toNat : Int), rfl, by simpa using hl, ?_⟩
  refine compGo_map (loc0 := [none, none, none]) (f := fun v => match v with | .int n => .int (lowerI n) | v => v) _ (fun v hv Q h => ?_) _ _ _ (fun v => rfl) ?_
  · obtain ⟨c, hc, rfl⟩ := List.mem_map.mp hv
    exact wct0 (ct_lower_code _) h
  · refine ⟨l.map fun c => lowerI (c.toNat : Int), by simp, fun n hn => ?_, by simpa using hl, ?_⟩
    · obtain ⟨c, _, rfl⟩ := List.mem_map.mp hn
      have := c.toNat_lt
      unfold lowerI
      split <;> (first | lia | omega)
    · refine ret0 ⟨?_, rfl⟩
      simp [wOf, bytesN, lowerB]
end
end Mine
end

section
open PySem PySem.W PyProof.Rows PySem.Calls
namespace Mine

section
variable {X : Cx} {k : Nat}
theorem ct_is_printable (n : Int) : CT X (k + 1) (.ref 140) [.int n] [] (fun v O => v = .bool (decide (33 ≤ n) && decide (n ≤ 126)) ∧ O = []) False := by
  refine ct_def (dargs := []) (dvals := []) [Str.ofString "code"] [0] (fun P => rfl) (fun P => by kernel_rfl) (fun s P vals _ hl => ?bind) .nil (by decide +kernel) (by decide +kernel) rfl ?_
  case bind => obtain ⟨a, rfl⟩ := len1 hl; exact BindsTo.of_eq rfl
  refine ⟨_, fun L cells => (ts_cons (ts_ret (te_chain (te_int) (te_loc 0 rfl) (te_int) tb_le tb_le)) ts_nil), ?_⟩
  exact wloc_of rfl (fche_i rfl (ret0 ⟨rfl, rfl⟩))

theorem ct_is_figure (n : Int) : CT X (k + 1) (.ref 161) [.int n] [] (fun v O => v = .bool (decide (48 ≤ n) && decide (n ≤ 57)) ∧ O = []) False := by
  refine ct_def (dargs := []) (dvals := []) [Str.ofString "code"] [0] (fun P => rfl) (fun P => by kernel_rfl) (fun s P vals _ hl => ?bind) .nil (by decide +kernel) (by decide +kernel) rfl ?_
  case bind => obtain ⟨a, rfl⟩ := len1 hl; exact BindsTo.of_eq rfl
  refine ⟨_, fun L cells => (ts_cons (ts_ret (te_chain (te_int) (te_loc 0 rfl) (te_int) tb_le tb_le)) ts_nil), ?_⟩
  exact wloc_of rfl (fche_i rfl (ret0 ⟨rfl, rfl⟩))

noncomputable def isValI (n : Int) : Bool := decide (33 ≤ n) && decide (n ≤ 126) && !([40, 41, 123, 34, 93] : List UInt8).contains n.toNat.toUInt8
theorem ct_is_value_code (n : Int) (h0 : 0 ≤ n) (h1 : n < 256) : CT X (k + 2) (.ref 154) [.int n] [] (fun v O => v = .bool (isValI n) ∧ O = []) False := by
  refine ct_def (dargs := []) (dvals := []) [Str.ofString "code"] [0] (fun P => rfl) (fun P => by kernel_rfl) (fun s P vals _ hl => ?bind) .nil (by decide +kernel) (by decide +kernel) rfl ?_
  case bind => obtain ⟨a, rfl⟩ := len1 hl; exact BindsTo.of_eq rfl
  refine ⟨_, fun L cells => (ts_cons (ts_ret (te_and2 (te_callt (te_glob 1 rfl (fun P => by kernel_rfl) (.raw (.ref 140))) (cw_keep fun P => by kernel_rfl) (ta_cons (te_loc 0 rfl) ta_nil)) (te_cmp (te_loc 0 rfl) (te_glob 2 rfl (fun P => by kernel_rfl) (.bytes [40, 41, 123, 34, 93] 319)) tb_notin))) ts_nil), ?_⟩
  refine wct0 (ct_is_printable n) ?_
  unfold isValI
  cases e : decide (33 ≤ n) && decide (n ≤ 126) with
  | false => exact bif_f (ret0 ⟨rfl, rfl⟩)
  | true => exact bif_t (wloc_of rfl ⟨h0, h1, ret0 ⟨rfl, rfl⟩⟩)
end
end Mine
end

section
open PySem PySem.W PyProof.Rows PySem.Calls
namespace Mine

noncomputable def numF (l : List UInt8) : Int := l.foldl (fun n c => n * 10 + (c.toNat : Int) - 48) 0

section
variable {X : Cx} {k : Nat}
theorem ct_number_of_figures (l : List UInt8) : CT X (k + 1) (.ref 168) [.bytes l] [] (fun v O => v = .int (numF l) ∧ O = []) False := by
  refine ct_def (dargs := []) (dvals := []) [Str.ofString "octets"] [0] (fun P => rfl) (fun P => by kernel_rfl) (fun s P vals _ hl => ?bind) .nil (by decide +kernel) (by decide +kernel) rfl ?_
  case bind => obtain ⟨a, rfl⟩ := len1 hl; exact BindsTo.of_eq rfl
  refine ⟨_, fun L cells => (ts_cons (ts_assign (te_int) (st_loc 1 rfl)) (ts_cons (ts_for (te_loc 0 rfl) (st_loc 2 rfl) (ts_cons (ts_assign (te_bin (te_bin (te_bin (te_loc 1 rfl) (te_int) tb_mul) (te_loc 2 rfl) tb_add) (te_int) tb_sub) (st_loc 1 rfl)) ts_nil)) (ts_cons (ts_ret (te_loc 1 rfl)) ts_nil))), ?_⟩
  refine ⟨_, rfl, ?_⟩
  refine wFor_inv (fun r σ => ∃ q : List UInt8, ∃ n : Int, ∃ z, r = q.map (fun c => V.int (c.toNat : Int)) ∧ σ = ⟨[some (.bytes l), some (.int n), z], []⟩ ∧ q.foldl (fun n c => n * 10 + (c.toNat : Int) - 48) n = numF l) (fun v r σ Q hI hQ => ?_) _ _ _ ⟨l, 0, _, rfl, rfl, rfl⟩ fun σ1 hI => ?_
  · obtain ⟨q, n, z, hr, rfl, hn⟩ := hI
    cases q with
    | nil => simp at hr
    | cons c q =>
      simp only [List.map_cons, List.cons.injEq] at hr
      obtain ⟨rfl, rfl⟩ := hr
      refine ⟨.of_right (by decide), ?_⟩
      exact hQ _ ⟨q, _, _, rfl, rfl, hn⟩
  · obtain ⟨q, n, z, hr, rfl, hn⟩ := hI
    have : q = [] := by simpa using hr.symm
    subst this
    exact ret0 ⟨by simpa [wOf] using hn, rfl⟩

end
end Mine
end

section
open PySem PySem.W PyProof.Rows PySem.Calls
namespace Mine

noncomputable def textB (l : List Nat) : List UInt8 := l.map fun c => c.toUInt8

theorem range_items {n : Nat} (h : n ≤ 16777216) : itemsOf (.range 0 (n : Int)) = some ((List.range n).map fun (i : Nat) => V.int ((0 : Int) + (i : Int))) := by
  simp only [itemsOf]
  rw [if_pos ⟨Int.le_refl _, by (first | lia | omega), by (first | lia | omega)⟩]
  simp

section
variable {X : Cx} {k : Nat}
theorem ct_text_octets (l : List Nat) (h : ∀ c ∈ l, c ≤ 127) (hl : l.length ≤ 16777215) : CT X (k + 1) (.ref 100) [.str l] [] (fun v O => v = .bytes (textB l) ∧ O = []) False := by
  refine ct_def (dargs := []) (dvals := []) [Str.ofString "text"] [0] (fun P => rfl) (fun P => by kernel_rfl) (fun s P vals _ hl => ?bind) .nil (by decide +kernel) (by decide +kernel) rfl ?_
  case bind => obtain ⟨a, rfl⟩ := len1 hl; exact BindsTo.of_eq rfl
  refine ⟨_, fun L cells => (ts_cons (ts_for (te_callb (te_bltn 2 rfl (fun P => by kernel_rfl) rfl (by decide)) (ta_cons (te_callb (te_bltn 3 rfl (fun P => by kernel_rfl) rfl (by decide)) (ta_cons (te_loc 0 rfl) ta_nil) tf_len) ta_nil) tf_range) (st_loc 1 rfl) (ts_cons (ts_if (tt_cmp (te_callb (te_bltn 4 rfl (fun P => by kernel_rfl) rfl (by decide)) (ta_cons (te_ssub (te_loc 0 rfl) (te_loc 1 rfl)) ta_nil) tf_ord) (te_int) tb_gt) (ts_cons (ts_raise (te_callt (te_glob 5 rfl (fun P => by kernel_rfl) (.raw (.ref 59))) (cw_keep fun P => by kernel_rfl) (ta_cons (te_str rfl) (ta_cons (te_loc 1 rfl) ta_nil)))) ts_nil) ts_nil) ts_nil)) (ts_cons (ts_ret (te_callb (te_bltn 6 rfl (fun P => by kernel_rfl) rfl (by decide)) (ta_cons (te_comp [] 1 (te_loc 0 rfl) (by kernel_rfl) (fun _ hc => tifs_nil) (fun _ hc => te_callb (te_bltn 2 (by rw [hc]; rfl) (fun P => by kernel_rfl) rfl (by decide)) (ta_cons (te_loc 1 (by rw [hc]; rfl)) ta_nil) tf_ord)) ta_nil) tf_bytes)) ts_nil)), ?_⟩
  refine ⟨by (first | lia | omega), _, range_items (by (first | lia | omega)), ?_⟩
  refine wFor_inv (fun r σ => (∃ z, σ = ⟨[some (.str l), z, none, none, none, none, none], []⟩) ∧ ∀ v ∈ r, ∃ i : Nat, i < l.length ∧ v = .int ((0 : Int) + (i : Int))) (fun v r σ Q hI hQ => ?_) _ _ _ ⟨⟨none, rfl⟩, fun v hv => ?_⟩ fun σ1 hI => ?_
  · obtain ⟨⟨z, rfl⟩, hr⟩ := hI
    obtain ⟨i, hi, rfl⟩ := hr v List.mem_cons_self
    refine ⟨l, _, l[i], rfl, rfl, by (first | lia | omega), by (first | lia | omega), ?_, ?_⟩
    · rw [show ((0 : Int) + (i : Int)).toNat = i by (first | lia | omega)]; exact List.getElem?_eq_getElem hi
    · have h1 := h _ (List.getElem_mem hi)
      have e : decide ((127 : Int) < ((l[i] : Nat) : Int)) = false := by simp; (first | lia | omega)
      refine word_of ?_
      refine fcmp_of (r := fun a b => decide (b < a)) (EV := False) e ?_
      refine kif_f ?_
      exact hQ _ ⟨⟨_, rfl⟩, fun u hu => hr u (List.mem_cons_of_mem _ hu)⟩
  · obtain ⟨i, hi, rfl⟩ := List.mem_map.mp hv
    exact ⟨i, by simpa using hi, rfl⟩
  · obtain ⟨⟨z, rfl⟩, _⟩ := hI
    refine ⟨_, rfl, by simpa using (by (first | lia | omega) : l.length ≤ 16777216), ?_⟩
    refine compGo_map (loc0 := [none, none, none]) (f := fun v => match v with | .str [c] => .int (c : Int) | v => v) _ (fun v hv Q h => ?_) _ _ _ (fun v => rfl) ?_
    · obtain ⟨c, hc, rfl⟩ := List.mem_map.mp hv
      exact h
    · refine ⟨l.map fun c : Nat => (c : Int), by simp, fun n hn => ?_, by simpa using (by (first | lia | omega) : l.length ≤ 16777216), ?_⟩
      · obtain ⟨c, hc, rfl⟩ := List.mem_map.mp hn
        have := h c hc
        (first | lia | omega)
      · refine ret0 ⟨?_, rfl⟩
        simp [wOf, bytesN, textB]
end
end Mine
end

section
open PySem PySem.W PyProof.Rows PySem.Calls
namespace Mine

noncomputable abbrev wireM (d : Addr) (l : List UInt8) (p : Nat) : MO := .inst 360 d [(Str.ofString "data", .bytes l), (Str.ofString "at", .int (p : Int))]
theorem wat_of {i : Nat} {a d : Addr} {l : List UInt8} {p : Nat} {QV : V → St → Prop} {EV EV' : Prop} {σ : St} (h1 : σ.loc[i]? = some (some (.raw (.ref a)))) (h2 : (a, wireM d l p) ∈ σ.objs) (q : QV (.int (p : Int)) σ) : wLoc i (kU (fAttr 360 (Str.ofString "at")) QV EV) EV' σ :=
  wloc_of h1 ⟨a, d, _, _, rfl, h2, rfl, trivial, q⟩
theorem wdata_of {i : Nat} {a d : Addr} {l : List UInt8} {p : Nat} {QV : V → St → Prop} {EV EV' : Prop} {σ : St} (h1 : σ.loc[i]? = some (some (.raw (.ref a)))) (h2 : (a, wireM d l p) ∈ σ.objs) (q : QV (.bytes l) σ) : wLoc i (kU (fAttr 360 (Str.ofString "data")) QV EV) EV' σ :=
  wloc_of h1 ⟨a, d, _, _, rfl, h2, rfl, trivial, q⟩
theorem wmk_of {a C d : Addr} {name : Str} {fs : List (Str × V)} {da : W (List V)} {g : List V → W V} {QV : V → St → Prop} {EV : Prop} {σ : St} (h2 : (a, MO.inst C d fs) ∈ σ.objs) (q : da (kM2 g (.raw (.ref a)) QV EV) EV σ) (h3 : fs.lookup name = none := by rfl) : kM1 (isI C name) da g QV EV (.raw (.ref a)) σ :=
  ⟨⟨a, d, _, rfl, h2, h3⟩, q⟩
theorem wme_of {i : Nat} {a C d : Addr} {name : Str} {fs : List (Str × V)} {da : W (List V)} {g : List V → W V} {QV : V → St → Prop} {EV EV' : Prop} {σ : St} (h1 : σ.loc[i]? = some (some (.raw (.ref a)))) (h2 : (a, MO.inst C d fs) ∈ σ.objs) (q : da (kM2 g (.raw (.ref a)) QV EV) EV σ) (h3 : fs.lookup name = none := by rfl) : wLoc i (kM1 (isI C name) da g QV EV) EV' σ :=
  wloc_of h1 (wmk_of h2 q h3)
noncomputable def peekI (l : List UInt8) (p : Nat) : Int := match l[p]? with | some c => (c.toNat : Int) | none => -1
section
variable {X : Cx} {k : Nat}
theorem ct_peek (a d : Addr) (l : List UInt8) (p : Nat) (hl : l.length ≤ 16777216) : CT X (k + 1) (.ref 204) [.raw (.ref a)] [(a, wireM d l p)] (fun v O => v = .int (peekI l p) ∧ O = [(a, wireM d l p)]) False := by
  refine ct_def (dargs := []) (dvals := []) [Str.ofString "self"] [0] (fun P => rfl) (fun P => by kernel_rfl) (fun s P vals _ hl => ?bind) .nil (by decide +kernel) (by decide +kernel) rfl ?_
  case bind => obtain ⟨a, rfl⟩ := len1 hl; exact BindsTo.of_eq rfl
  refine ⟨_, fun L cells => (ts_cons (ts_ret (te_ifexp (tt_cmp (te_attr 360 (te_loc 0 rfl) attr_at) (te_callb (te_bltn 1 rfl (fun P => by kernel_rfl) rfl (by decide)) (ta_cons (te_attr 360 (te_loc 0 rfl) attr_data) ta_nil) tf_len) tb_lt) (te_sub (te_attr 360 (te_loc 0 rfl) attr_data) (te_attr 360 (te_loc 0 rfl) attr_at)) (te_neg (te_int)))) ts_nil), ?_⟩
  refine wat_of rfl List.mem_cons_self ?_
  refine wdata_of rfl List.mem_cons_self ?_
  refine ⟨hl, ?_⟩
  by_cases h : p < l.length
  · have e : decide ((p : Int) < (l.length : Int)) = true := by simp; (first | lia | omega)
    refine fcmp_of (r := fun a b => decide (a < b)) (EV := False) e ?_
    refine kif_t ?_
    refine wdata_of rfl List.mem_cons_self ?_
    refine wat_of rfl List.mem_cons_self ?_
    refine ⟨l[p], by (first | lia | omega), ?_, hl, ?_⟩
    · rw [show ((p : Int)).toNat = p by (first | lia | omega)]; exact List.getElem?_eq_getElem h
    · refine ⟨_, _, .same (List.Sublist.refl _), ?_, rfl⟩
      simp [wOf, peekI, h]
  · have e : decide ((p : Int) < (l.length : Int)) = false := by simp; (first | lia | omega)
    refine fcmp_of (r := fun a b => decide (a < b)) (EV := False) e ?_
    refine kif_f ?_
    refine ⟨_, _, .same (List.Sublist.refl _), ?_, rfl⟩
    have : l[p]? = none := List.getElem?_eq_none (by (first | lia | omega))
    simp [wOf, peekI, this]
end
end Mine
end

section
open PySem PySem.W PyProof.Rows PySem.Calls
namespace Mine

theorem put_at {v w u : V} : putF (Str.ofString "at") u [(Str.ofString "data", v), (Str.ofString "at", w)] = [(Str.ofString "data", v), (Str.ofString "at", u)] := rfl
noncomputable def skipB (l : List UInt8) (p : Nat) (o : List UInt8) : Bool := (l.drop p).take o.length == o

theorem slice_at (l : List UInt8) (p n : Nat) : sliceB l (p : Int) ((p : Int) + (n : Int)) = (l.drop p).take n := by
  unfold sliceB
  rw [show ((p : Int)).toNat = p by (first | lia | omega), show ((p : Int) + (n : Int)).toNat - p = n by (first | lia | omega)]

section
variable {X : Cx} {k : Nat}
theorem ct_skip (a d : Addr) (l : List UInt8) (p : Nat) (o : List UInt8) (hl : l.length ≤ 16777216) (ho : o.length ≤ 16777216) :
    CT X (k + 1) (.ref 211) [.raw (.ref a), .bytes o] [(a, wireM d l p)] (fun v O => v = .bool (skipB l p o) ∧ O = [(a, wireM d l (if skipB l p o then p + o.length else p))]) False := by
  refine ct_def (dargs := []) (dvals := []) [Str.ofString "self", Str.ofString "octets"] [0, 1] (fun P => rfl) (fun P => by kernel_rfl) (fun s P vals _ hl => ?bind) .nil (by decide +kernel) (by decide +kernel) rfl ?_
  case bind => obtain ⟨a, b, rfl⟩ := len2 hl; exact BindsTo.of_eq rfl
  refine ⟨_, fun L cells => (ts_cons (ts_if (tt_cmp (te_bslice (te_attr 360 (te_loc 0 rfl) attr_data) (te_attr 360 (te_loc 0 rfl) attr_at) (te_bin (te_attr 360 (te_loc 0 rfl) attr_at) (te_callb (te_bltn 2 rfl (fun P => by kernel_rfl) rfl (by decide)) (ta_cons (te_loc 1 rfl) ta_nil) tf_len) tb_add)) (te_loc 1 rfl) tb_ne) (ts_cons (ts_ret (te_bool)) ts_nil) ts_nil) (ts_cons (ts_setattr 360 (te_bin (te_attr 360 (te_loc 0 rfl) attr_at) (te_callb (te_bltn 2 rfl (fun P => by kernel_rfl) rfl (by decide)) (ta_cons (te_loc 1 rfl) ta_nil) tf_len) tb_add) (te_loc 0 rfl) set_at) (ts_cons (ts_ret (te_bool)) ts_nil))), ?_⟩
  refine wdata_of rfl List.mem_cons_self ?_
  refine wat_of rfl List.mem_cons_self ?_
  refine wat_of rfl List.mem_cons_self ?_
  refine ⟨ho, ?_⟩
  refine ⟨l, _, _, rfl, rfl, rfl, by (first | lia | omega), by (first | lia | omega), hl, ?_⟩
  have e1 : ((p : Int) + (o.length : Int)) = ((p + o.length : Nat) : Int) := by (first | lia | omega)
  by_cases h : skipB l p o = true
  · have e : (sliceB l (p : Int) ((p : Int) + (o.length : Int)) != o) = false := by
      rw [slice_at]; unfold skipB at h; unfold bne; rw [h]; rfl
    refine wloc_of rfl (fne_of e (kif_f ?_))
    refine wat_of rfl List.mem_cons_self ?_
    refine ⟨ho, ?_⟩
    refine ⟨a, d, _, [], [], rfl, rfl, by simp, ?_⟩
    refine ⟨_, _, .same (List.Sublist.refl _), ?_, ?_⟩
    · simp [wOf, h]
    · rw [put_at, e1, if_pos h]; rfl
  · have e : (sliceB l (p : Int) ((p : Int) + (o.length : Int)) != o) = true := by
      rw [slice_at]; unfold skipB at h; unfold bne; simpa using h
    refine wloc_of rfl (fne_of e ?_)
    refine ⟨_, _, .same (List.Sublist.refl _), ?_, ?_⟩
    · simp [wOf, h]
    · rw [if_neg h]
end
end Mine
end

section
open PySem PySem.W PyProof.Rows PySem.Calls
namespace Mine

section
variable {X : Cx} {k : Nat}
theorem wct1 {f : Value} {vs : List V} {r : V} {O O1 : List (Addr × MO)} {loc : List (Option V)} {QV : V → St → Prop} {EV : Prop} (hct : CT X k f vs O (fun v O' => v = r ∧ O' = O1) False) (h : QV r ⟨loc, O1⟩) : wCt X k f vs QV EV ⟨loc, O⟩ := by
  refine ⟨[], O, [], by simp, hct.mono (fun v O' q => ?_) False.elim⟩
  obtain ⟨rfl, rfl⟩ := q
  simpa using h
theorem ret1 {v : V} {O objs : List (Addr × MO)} {QV : V → List (Addr × MO) → Prop} (h : QV v objs) : ∃ v' O', RetV O objs v v' O' ∧ QV v' O' := ⟨v, objs, .same (List.Sublist.refl _), h⟩

theorem ct_need (a d : Addr) (l : List UInt8) (p : Nat) (o : List UInt8) (w : V) (hl : l.length ≤ 16777216) (ho : o.length ≤ 16777216) (h : skipB l p o = true) :
    CT X (k + 2) (.ref 218) [.raw (.ref a), .bytes o, w] [(a, wireM d l p)] (fun v O => v = .none ∧ O = [(a, wireM d l (p + o.length))]) False := by
  refine ct_def (dargs := []) (dvals := []) [Str.ofString "self", Str.ofString "octets", Str.ofString "what"] [0, 1, 2] (fun P => rfl) (fun P => by kernel_rfl) (fun s P vals _ hl => ?bind) .nil (by decide +kernel) (by decide +kernel) rfl ?_
  case bind => obtain ⟨a, b, c, rfl⟩ := len3 hl; exact BindsTo.of_eq rfl
  refine ⟨_, fun L cells => (ts_cons (ts_if (tt_not (tt_val (te_methi 360 211 (te_loc 0 rfl) meth_skip (cw_keep fun P => by kernel_rfl) (ta_cons (te_loc 1 rfl) ta_nil)))) (ts_cons (ts_raise (te_methi 360 197 (te_loc 0 rfl) meth_fault (cw_keep fun P => by kernel_rfl) (ta_cons (te_loc 2 rfl) ta_nil))) ts_nil) ts_nil) ts_nil), ?_⟩
  first | refine wme_of rfl List.mem_cons_self ?_ | refine wmk_of List.mem_cons_self ?_
  refine wloc_of rfl ?_
  have hct := ct_skip (X := X) (k := k) a d l p o hl ho
  rw [h] at hct
  refine wct1 hct ?_
  exact ret1 ⟨rfl, rfl⟩

theorem ct_space (a d : Addr) (l : List UInt8) (p : Nat) (hl : l.length ≤ 16777216) (h : skipB l p [32] = true) :
    CT X (k + 3) (.ref 225) [.raw (.ref a)] [(a, wireM d l p)] (fun v O => v = .none ∧ O = [(a, wireM d l (p + 1))]) False := by
  refine ct_def (dargs := []) (dvals := []) [Str.ofString "self"] [0] (fun P => rfl) (fun P => by kernel_rfl) (fun s P vals _ hl => ?bind) .nil (by decide +kernel) (by decide +kernel) rfl ?_
  case bind => obtain ⟨a, rfl⟩ := len1 hl; exact BindsTo.of_eq rfl
  refine ⟨_, fun L cells => (ts_cons (ts_expr (te_methi 360 218 (te_loc 0 rfl) meth_need (cw_keep fun P => by kernel_rfl) (ta_cons (te_bytes) (ta_cons (te_str rfl) ta_nil)))) ts_nil), ?_⟩
  first | refine wme_of rfl List.mem_cons_self ?_ | refine wmk_of List.mem_cons_self ?_
  refine wct1 (ct_need a d l p [32] _ hl (by decide) h) ?_
  exact ret1 ⟨rfl, rfl⟩
end
end Mine
end

section
open PySem PySem.W PyProof.Rows PySem.Calls
namespace Mine

theorem wWhile_up {dt : W Bool} {db : W FV} {EV : Prop} {QV : FV → St → Prop} (S : Nat → St) (m : Nat) (ht : ∀ i, i < m → ∀ Q : Bool → St → Prop, Q true (S i) → dt Q EV (S i)) (hb : ∀ i, i < m → ∀ Q : FV → St → Prop, Q .next (S (i + 1)) → db Q EV (S i))
    (he : ∀ Q : Bool → St → Prop, Q false (S m) → dt Q EV (S m)) (hq : QV .next (S m)) : ∀ j i, i + j = m → wWhile dt db (j + 1) QV EV (S i)
  | 0, i, e => by
    have : i = m := by (first | lia | omega)
    subst this
    unfold wWhile
    refine he _ ?_
    refine kif_f ?_; exact hq
  | j + 1, i, e => by
    unfold wWhile
    refine ht i (by (first | lia | omega)) _ ?_
    refine kif_t ?_
    refine hb i (by (first | lia | omega)) _ ?_
    exact wWhile_up S m ht hb he hq j (i + 1) (by (first | lia | omega))

noncomputable def runN (q : UInt8 → Bool) (l : List UInt8) (p : Nat) : Nat := ((l.drop p).takeWhile q).length

theorem runN_in {q : UInt8 → Bool} {l : List UInt8} {p i : Nat} (h : i < runN q l p) : ∃ c, l[p + i]? = some c ∧ q c = true := by
  unfold runN at h
  have h1 : i < ((l.drop p).takeWhile q).length := h
  have h2 : ((l.drop p).takeWhile q)[i] ∈ (l.drop p).takeWhile q := List.getElem_mem h1
  have h4 := List.takeWhile_prefix (p := q) (l := l.drop p)
  have h5 := h4.getElem h1
  refine ⟨((l.drop p).takeWhile q)[i], ?_, ?_⟩
  · rw [h5]
    have : i < (l.drop p).length := Nat.lt_of_lt_of_le h1 h4.length_le
    rw [← List.getElem?_drop]
    exact List.getElem?_eq_getElem this
  · have := List.all_takeWhile (p := q) (l := l.drop p)
    exact List.all_eq_true.mp this _ h2

theorem runN_end {q : UInt8 → Bool} {l : List UInt8} {p : Nat} : ∀ c, l[p + runN q l p]? = some c → q c = false := by
  intro c hc
  unfold runN at hc
  rw [← List.getElem?_drop] at hc
  generalize l.drop p = r at hc
  induction r with
  | nil => simp at hc
  | cons x r ih =>
    rw [List.takeWhile_cons] at hc
    cases hx : q x with
    | true => rw [hx] at hc; simp at hc; exact ih hc
    | false => rw [hx] at hc; simp at hc; subst hc; exact hx

section
variable {X : Cx} {k : Nat}
theorem wcv0 {f : Value} {vs : List V} {r : V} {QV : V → St → Prop} {EV : Prop} {σ : St} (hcw : CWok X f) (hct : CT X k f vs [] (fun v O' => v = r ∧ O' = []) False) (h : QV r σ) : wCallV X k (.raw f) vs QV EV σ := ⟨f, rfl, hcw, wct0 hct h⟩
theorem ct_run (a d : Addr) (l : List UInt8) (p : Nat) (f : Addr) (q : UInt8 → Bool) (hl : l.length ≤ 16777216) (hcw : CWok X (.ref f)) (hf : ∀ c : UInt8, CT X k (.ref f) [.int (c.toNat : Int)] [] (fun v O => v = .bool (q c) ∧ O = []) False) :
    CT X (k + 1) (.ref 239) [.raw (.ref a), .raw (.ref f)] [(a, wireM d l p)] (fun v O => v = .bytes ((l.drop p).takeWhile q) ∧ O = [(a, wireM d l (p + runN q l p))]) False := by
  refine ct_def (dargs := []) (dvals := []) [Str.ofString "self", Str.ofString "fits"] [0, 1] (fun P => rfl) (fun P => by kernel_rfl) (fun s P vals _ hl => ?bind) .nil (by decide +kernel) (by decide +kernel) rfl ?_
  case bind => obtain ⟨a, b, rfl⟩ := len2 hl; exact BindsTo.of_eq rfl
  refine ⟨_, fun L cells => (ts_cons (ts_assign (te_attr 360 (te_loc 0 rfl) attr_at) (st_loc 2 rfl)) (ts_cons (ts_while (tt_bool (tts_and (tt_cmp (te_attr 360 (te_loc 0 rfl) attr_at) (te_callb (te_bltn 3 rfl (fun P => by kernel_rfl) rfl (by decide)) (ta_cons (te_attr 360 (te_loc 0 rfl) attr_data) ta_nil) tf_len) tb_lt) (tts_and (tt_val (te_call (te_loc 1 rfl) (ta_cons (te_sub (te_attr 360 (te_loc 0 rfl) attr_data) (te_attr 360 (te_loc 0 rfl) attr_at)) ta_nil))) tts_and_nil))) (ts_cons (ts_setattr 360 (te_bin (te_attr 360 (te_loc 0 rfl) attr_at) (te_int) tb_add) (te_loc 0 rfl) set_at) ts_nil)) (ts_cons (ts_ret (te_bslice (te_attr 360 (te_loc 0 rfl) attr_data) (te_loc 2 rfl) (te_attr 360 (te_loc 0 rfl) attr_at))) ts_nil))), ?_⟩
  refine wat_of rfl List.mem_cons_self ?_
  refine ⟨runN q l p + 1, ?_⟩
  refine wWhile_up (fun i => ⟨[some (.raw (.ref a)), some (.raw (.ref f)), some (.int (p : Int)), none], [(a, wireM d l (p + i))]⟩) (runN q l p) (fun i hi Q h => ?_) (fun i hi Q h => ?_) (fun Q h => ?_) ?_ _ 0 (by (first | lia | omega))
  · obtain ⟨c, h1, h2⟩ := runN_in hi
    have hlt := (List.getElem?_eq_some_iff.mp h1).1
    refine wat_of rfl List.mem_cons_self ?_
    refine wdata_of rfl List.mem_cons_self ?_
    refine ⟨hl, ?_⟩
    refine fcmp_of (b := true) (by simp; (first | lia | omega)) ?_
    refine kif_t ?_
    refine ⟨⟨_, rfl, hcw⟩, ?_⟩
    refine wdata_of rfl List.mem_cons_self ?_
    refine wat_of rfl List.mem_cons_self ?_
    refine ⟨c, by (first | lia | omega), ?_, hl, ?_⟩
    · rw [show (((p + i : Nat) : Int)).toNat = p + i by (first | lia | omega)]; exact h1
    · refine wcv0 hcw (hf c) ?_
      rw [h2]
      exact h
  · refine wat_of rfl List.mem_cons_self ?_
    refine ⟨a, d, _, [], [], rfl, rfl, by simp, ?_⟩
    rw [put_at, show (((p + i : Nat) : Int) + 1) = ((p + (i + 1) : Nat) : Int) by (first | lia | omega)]
    exact h
  · refine wat_of rfl List.mem_cons_self ?_
    refine wdata_of rfl List.mem_cons_self ?_
    refine ⟨hl, ?_⟩
    cases hc : l[p + runN q l p]? with
    | none =>
      have := List.getElem?_eq_none_iff.mp hc
      refine fcmp_of (b := false) (by simp; (first | lia | omega)) ?_
      refine kif_f ?_
      exact h
    | some c =>
      have h2 := runN_end c hc
      have hlt := (List.getElem?_eq_some_iff.mp hc).1
      refine fcmp_of (b := true) (by simp; (first | lia | omega)) ?_
      refine kif_t ?_
      refine ⟨⟨_, rfl, hcw⟩, ?_⟩
      refine wdata_of rfl List.mem_cons_self ?_
      refine wat_of rfl List.mem_cons_self ?_
      refine ⟨c, by (first | lia | omega), ?_, hl, ?_⟩
      · rw [show (((p + runN q l p : Nat) : Int)).toNat = p + runN q l p by (first | lia | omega)]; exact hc
      · refine wcv0 hcw (hf c) ?_
        rw [h2]
        exact h
  · refine wdata_of rfl List.mem_cons_self ?_
    refine wloc_of rfl ?_
    refine wat_of rfl List.mem_cons_self ?_
    refine ⟨l, _, _, rfl, rfl, rfl, by (first | lia | omega), by (first | lia | omega), hl, ?_⟩
    refine ret1 ⟨?_, rfl⟩
    show V.bytes (sliceB l (p : Int) ((p + runN q l p : Nat) : Int)) = _
    rw [show ((p + runN q l p : Nat) : Int) = (p : Int) + (runN q l p : Int) by (first | lia | omega), slice_at]
    unfold runN
    rw [← List.prefix_iff_eq_take.mp (List.takeWhile_prefix (p := q) (l := l.drop p))]
end
end Mine
end

section
open PySem PySem.W PyProof.Rows PySem.Calls
namespace Mine

noncomputable def byteT (l : List UInt8) : List Nat := l.map (·.toNat)
theorem flat_single {α : Type} : ∀ l : List α, (l.map fun c => [c]).flatten = l
  | [] => rfl
  | a :: r => by simp [flat_single r]

section
variable {X : Cx} {k : Nat}
theorem ct_ascii_text (l : List UInt8) (h : ∀ c ∈ l, c.toNat ≤ 127) (hl : l.length ≤ 16777215) : CT X (k + 1) (.ref 95) [.bytes l] [] (fun v O => v = .str (byteT l) ∧ O = []) False := by
  refine ct_def (dargs := []) (dvals := []) [Str.ofString "octets"] [0] (fun P => rfl) (fun P => by kernel_rfl) (fun s P vals _ hl => ?bind) .nil (by decide +kernel) (by decide +kernel) rfl ?_
  case bind => obtain ⟨a, rfl⟩ := len1 hl; exact BindsTo.of_eq rfl
  refine ⟨_, fun L cells => (ts_cons (ts_for (te_callb (te_bltn 2 rfl (fun P => by kernel_rfl) rfl (by decide)) (ta_cons (te_callb (te_bltn 3 rfl (fun P => by kernel_rfl) rfl (by decide)) (ta_cons (te_loc 0 rfl) ta_nil) tf_len) ta_nil) tf_range) (st_loc 1 rfl) (ts_cons (ts_if (tt_cmp (te_sub (te_loc 0 rfl) (te_loc 1 rfl)) (te_int) tb_gt) (ts_cons (ts_raise (te_callt (te_glob 4 rfl (fun P => by kernel_rfl) (.raw (.ref 59))) (cw_keep fun P => by kernel_rfl) (ta_cons (te_str rfl) (ta_cons (te_loc 1 rfl) ta_nil)))) ts_nil) ts_nil) ts_nil)) (ts_cons (ts_ret (te_methb (te_str rfl) (tm_str F.slot_str_join rfl) (ta_cons (te_comp [] 1 (te_loc 0 rfl) (by kernel_rfl) (fun _ hc => tifs_nil) (fun _ hc => te_callb (te_bltn 2 (by rw [hc]; rfl) (fun P => by kernel_rfl) rfl (by decide)) (ta_cons (te_loc 1 (by rw [hc]; rfl)) ta_nil) tf_chr)) ta_nil) tf_join0)) ts_nil)), ?_⟩
  refine ⟨by (first | lia | omega), _, range_items (by (first | lia | omega)), ?_⟩
  refine wFor_inv (fun r σ => (∃ z, σ = ⟨[some (.bytes l), z, none, none, none], []⟩) ∧ ∀ v ∈ r, ∃ i : Nat, i < l.length ∧ v = .int ((0 : Int) + (i : Int))) (fun v r σ Q hI hQ => ?_) _ _ _ ⟨⟨none, rfl⟩, fun v hv => ?_⟩ fun σ1 hI => ?_
  · obtain ⟨⟨z, rfl⟩, hr⟩ := hI
    obtain ⟨i, hi, rfl⟩ := hr v List.mem_cons_self
    refine ⟨l[i], by (first | lia | omega), ?_, by (first | lia | omega), ?_⟩
    · rw [show ((0 : Int) + (i : Int)).toNat = i by (first | lia | omega)]; exact List.getElem?_eq_getElem hi
    · have h1 := h _ (List.getElem_mem hi)
      refine fcmp_of (b := false) (decide_eq_false (by (first | lia | omega))) ?_
      refine kif_f ?_
      exact hQ _ ⟨⟨_, rfl⟩, fun u hu => hr u (List.mem_cons_of_mem _ hu)⟩
  · obtain ⟨i, hi, rfl⟩ := List.mem_map.mp hv
    exact ⟨i, by simpa using hi, rfl⟩
  · obtain ⟨⟨z, rfl⟩, _⟩ := hI
    refine ⟨trivial, _, rfl, by simpa using (by (first | lia | omega) : l.length ≤ 16777216), ?_⟩
    refine compGo_map (loc0 := [none, none, none]) (f := fun v => match v with | .int n => .str [n.toNat] | v => v) _ (fun v hv Q h => ?_) _ _ _ (fun v => rfl) ?_
    · obtain ⟨c, hc, rfl⟩ := List.mem_map.mp hv
      have := c.toNat_lt
      exact ⟨by (first | lia | omega), by (first | lia | omega), h⟩
    · refine ⟨(byteT l).map fun c => [c], by simp [byteT], by rw [flat_single]; simpa [byteT] using (by (first | lia | omega) : l.length ≤ 16777216), ?_⟩
      refine ret0 ⟨?_, rfl⟩
      rw [flat_single]; rfl

noncomputable def quotableB (l : List UInt8) : Bool := decide (l.length ≤ 72) && l.all fun c => decide (32 ≤ c.toNat) && decide (c.toNat ≤ 126)
theorem ct_is_quotable (l : List UInt8) (hl : l.length ≤ 16777216) : CT X (k + 1) (.ref 369) [.bytes l] [] (fun v O => v = .bool (quotableB l) ∧ O = []) False := by
  refine ct_def (dargs := []) (dvals := []) [Str.ofString "octets"] [0] (fun P => rfl) (fun P => by kernel_rfl) (fun s P vals _ hl => ?bind) .nil (by decide +kernel) (by decide +kernel) rfl ?_
  case bind => obtain ⟨a, rfl⟩ := len1 hl; exact BindsTo.of_eq rfl
  refine ⟨_, fun L cells => (ts_cons (ts_ret (te_and2 (te_cmp (te_callb (te_bltn 1 rfl (fun P => by kernel_rfl) rfl (by decide)) (ta_cons (te_loc 0 rfl) ta_nil) tf_len) (te_glob 2 rfl (fun P => by kernel_rfl) (.int 72 315)) tb_le) (te_callb (te_bltn 3 rfl (fun P => by kernel_rfl) rfl (by decide)) (ta_cons (te_comp [] 1 (te_loc 0 rfl) (by kernel_rfl) (fun _ hc => tifs_nil) (fun _ hc => te_chain (te_int) (te_loc 1 (by rw [hc]; rfl)) (te_int) tb_le tb_le)) ta_nil) tf_all))) ts_nil), ?_⟩
  refine ⟨hl, ?_⟩
  by_cases h : l.length ≤ 72
  · refine fcmp_of (b := true) (decide_eq_true (by omega)) ?_
    refine kif_t ?_
    refine ⟨_, rfl, by simpa using hl, ?_⟩
    refine compGo_map (loc0 := [none, none]) (f := fun v => match v with | .int n => .bool (decide (32 ≤ n) && decide (n ≤ 126)) | v => v) _ (fun v hv Q h => ?_) _ _ _ (fun v => rfl) ?_
    · obtain ⟨c, hc, rfl⟩ := List.mem_map.mp hv
      refine wloc_of rfl ?_
      exact fche_i rfl h
    · refine ⟨l.map fun c => decide ((32 : Int) ≤ (c.toNat : Int)) && decide ((c.toNat : Int) ≤ 126), by simp, ?_⟩
      refine ret0 ⟨?_, rfl⟩
      have e1 : ∀ c : UInt8, (decide ((32 : Int) ≤ (c.toNat : Int)) && decide ((c.toNat : Int) ≤ 126)) = (decide (32 ≤ c.toNat) && decide (c.toNat ≤ 126)) := fun c => by
        congr 1 <;> exact decide_eq_decide.mpr (by omega)
      show V.bool _ = V.bool _
      simp only [quotableB, h, decide_true, Bool.true_and, List.all_map, Function.comp_def, id, e1]
  · refine fcmp_of (b := false) (decide_eq_false (by omega)) ?_
    refine kif_f ?_
    refine ret0 ⟨?_, rfl⟩
    simp [wOf, quotableB, h]
end
end Mine
end

section
open PySem PySem.W PyProof.Rows PySem.Calls
namespace Mine

section
variable {X : Cx} {k : Nat}
theorem ct_figures_of (n : Nat) (h : n.log2 < 1920) (hd : ∀ c ∈ figs n, c ≤ 127) (hl : (figs n).length ≤ 16777215) : CT X (k + 2) (.ref 175) [.int (n : Int)] [] (fun v O => v = .bytes (textB (figs n)) ∧ O = []) False := by
  refine ct_def (dargs := []) (dvals := []) [Str.ofString "number"] [0] (fun P => rfl) (fun P => by kernel_rfl) (fun s P vals _ hl => ?bind) .nil (by decide +kernel) (by decide +kernel) rfl ?_
  case bind => obtain ⟨a, rfl⟩ := len1 hl; exact BindsTo.of_eq rfl
  refine ⟨_, fun L cells => (ts_cons (ts_if (tt_cmp (te_loc 0 rfl) (te_int) tb_lt) (ts_cons (ts_raise (te_callt (te_glob 1 rfl (fun P => by kernel_rfl) (.raw (.ref 71))) (cw_keep fun P => by kernel_rfl) (ta_cons (te_str rfl) ta_nil))) ts_nil) ts_nil) (ts_cons (ts_ret (te_callt (te_glob 2 rfl (fun P => by kernel_rfl) (.raw (.ref 100))) (cw_keep fun P => by kernel_rfl) (ta_cons (te_callb (te_bltn 3 rfl (fun P => by kernel_rfl) rfl (by decide)) (ta_cons (te_loc 0 rfl) ta_nil) tf_str) ta_nil))) ts_nil)), ?_⟩
  refine wloc_of rfl ?_
  refine fcmp_of (b := false) (decide_eq_false (by (first | lia | omega))) ?_
  refine kif_f ?_
  refine wloc_of rfl ?_
  refine ⟨by (first | lia | omega), by simpa using h, ?_⟩
  refine wct0 (ct_text_octets _ (by simpa using hd) (by simpa using hl)) ?_
  exact ret0 ⟨by simp [wOf], rfl⟩
end
end Mine
end

section
open PySem PySem.W PyProof.Rows PySem.Calls
namespace Mine

noncomputable def qBody : List UInt8 → List UInt8
  | [] => []
  | c :: r => (if c == 34 || c == 92 then [92, c] else [c]) ++ qBody r
noncomputable def quotedB (l : List UInt8) : List UInt8 := 34 :: (qBody l ++ [34])

section
variable {X : Cx} {k : Nat}
theorem ct_quoted_octets (hb : X.b = true) (l : List UInt8) (hl : l.length ≤ 1000000) : CT X (k + 1) (.ref 376) [.bytes l] [] (fun v O => v = .bytes (quotedB l) ∧ O = []) False := by
  refine ct_def (dargs := []) (dvals := []) [Str.ofString "octets"] [0] (fun P => rfl) (fun P => by kernel_rfl) (fun s P vals _ hl => ?bind) .nil (by decide +kernel) (by decide +kernel) rfl ?_
  case bind => obtain ⟨a, rfl⟩ := len1 hl; exact BindsTo.of_eq rfl
  refine ⟨_, fun L cells => (ts_cons (ts_assign (te_callb (te_bltn 3 rfl (fun P => by kernel_rfl) rfl (by decide)) (ta_cons (te_bytes) ta_nil) (tf_ba hb)) (st_loc 1 rfl)) (ts_cons (ts_for (te_loc 0 rfl) (st_loc 2 rfl) (ts_cons (ts_if (tt_bool (tts_or (tt_cmp (te_loc 2 rfl) (te_glob 4 rfl (fun P => by kernel_rfl) (.int 34 305)) tb_eq) (tts_or (tt_cmp (te_loc 2 rfl) (te_glob 5 rfl (fun P => by kernel_rfl) (.int 92 307)) tb_eq) tts_or_nil))) (ts_cons (ts_expr (te_methb (te_loc 1 rfl) tm_ba_append (ta_cons (te_glob 5 rfl (fun P => by kernel_rfl) (.int 92 307)) ta_nil) (tf_ba_append hb))) ts_nil) ts_nil) (ts_cons (ts_expr (te_methb (te_loc 1 rfl) tm_ba_append (ta_cons (te_loc 2 rfl) ta_nil) (tf_ba_append hb))) ts_nil))) (ts_cons (ts_expr (te_methb (te_loc 1 rfl) tm_ba_append (ta_cons (te_glob 4 rfl (fun P => by kernel_rfl) (.int 34 305)) ta_nil) (tf_ba_append hb))) (ts_cons (ts_ret (te_callb (te_bltn 6 rfl (fun P => by kernel_rfl) rfl (by decide)) (ta_cons (te_loc 1 rfl) ta_nil) tf_bytes)) ts_nil)))), ?_⟩
  refine ⟨by decide, fun a => ⟨_, rfl, ?_⟩⟩
  refine wFor_inv (fun r σ => ∃ q : List UInt8, ∃ acc : List UInt8, ∃ z, r = q.map (fun c => V.int (c.toNat : Int)) ∧ σ = ⟨[some (.bytes l), some (.raw (.ref a)), z, none, none, none, none], [(a, .ba acc)]⟩ ∧ acc ++ qBody q = 34 :: qBody l ∧ acc.length + 2 * q.length ≤ 2 * l.length + 1) (fun v r σ Q hI hQ => ?_) _ _ _ ⟨l, [34], _, rfl, rfl, rfl, by simp; (first | lia | omega)⟩ fun σ1 hI => ?_
  · obtain ⟨q, acc, z, hr, rfl, hn, hlen⟩ := hI
    cases q with
    | nil => simp at hr
    | cons c q =>
      simp only [List.map_cons, List.cons.injEq] at hr
      obtain ⟨rfl, rfl⟩ := hr
      simp only [List.length_cons] at hlen
      have hc := c.toNat_lt
      have push : ∀ acc' : List UInt8, acc' ++ (c :: qBody q) = 34 :: qBody l → acc'.length + 2 * q.length ≤ 2 * l.length → _ := fun acc' e1 e2 => hQ ⟨[some (.bytes l), some (.raw (.ref a)), some (.int (c.toNat : Int)), none, none, none, none], [(a, .ba (acc' ++ [((c.toNat : Int)).toNat.toUInt8]))]⟩ ⟨q, _, _, rfl, rfl, by simpa using e1, by simp; (first | lia | omega)⟩
      have ec : ((c.toNat : Int)).toNat.toUInt8 = c := by simp
      rw [ec] at push
      have last : ∀ acc' : List UInt8, acc' ++ (c :: qBody q) = 34 :: qBody l → acc'.length + 2 * q.length ≤ 2 * l.length → _ := fun acc' e1 e2 => (⟨⟨acc', List.mem_cons_self⟩, [], [], acc', rfl, by (first | lia | omega), by (first | lia | omega), by (first | lia | omega), by rw [ec]; exact push acc' e1 e2⟩ : (∃ l_1, (a, MO.ba l_1) ∈ [(a, MO.ba acc')]) ∧ ∃ pre post l_1, [(a, MO.ba acc')] = pre ++ (a, MO.ba l_1) :: post ∧ (0 : Int) ≤ (c.toNat : Int) ∧ (c.toNat : Int) < 256 ∧ l_1.length < 16777216 ∧ Q .next ⟨[some (.bytes l), some (.raw (.ref a)), some (.int (c.toNat : Int)), none, none, none, none], pre ++ (a, .ba (l_1 ++ [((c.toNat : Int)).toNat.toUInt8])) :: post⟩)
      by_cases h : c = 34 ∨ c = 92
      · have hq : qBody (c :: q) = 92 :: c :: qBody q := by
          rcases h with rfl | rfl <;> simp [qBody]
        rw [hq] at hn
        have z1 := last (acc ++ [92]) (by simpa using hn) (by simp; (first | lia | omega))
        rcases h with rfl | rfl
        · exact ⟨⟨acc, List.mem_cons_self⟩, [], [], acc, rfl, by (first | lia | omega), by (first | lia | omega), by (first | lia | omega), z1⟩
        · exact ⟨⟨acc, List.mem_cons_self⟩, [], [], acc, rfl, by (first | lia | omega), by (first | lia | omega), by (first | lia | omega), z1⟩
      · have h1 : (c == 34) = false := by simp; exact fun e => h (.inl e)
        have h2 : (c == 92) = false := by simp; exact fun e => h (.inr e)
        have hq : qBody (c :: q) = c :: qBody q := by
          rw [qBody, h1, h2]; rfl
        rw [hq] at hn
        have z1 := last acc hn (by (first | lia | omega))
        have n1 : ((c.toNat : Int) == 34) = false := by
          refine beq_eq_false_iff_ne.mpr fun e => h (.inl ?_)
          have : c.toNat = 34 := by (first | lia | omega)
          exact UInt8.toNat_inj.mp this
        have n2 : ((c.toNat : Int) == 92) = false := by
          refine beq_eq_false_iff_ne.mpr fun e => h (.inr ?_)
          have : c.toNat = 92 := by (first | lia | omega)
          exact UInt8.toNat_inj.mp this
        refine wloc_of rfl ?_
        refine feqi_of n1 ?_
        refine kif_f ?_
        refine wloc_of rfl ?_
        refine feqi_of n2 ?_
        refine kif_f ?_
        exact z1
  · obtain ⟨q, acc, z, hr, rfl, hn, hlen⟩ := hI
    have : q = [] := by simpa using hr.symm
    subst this
    refine ⟨⟨acc, List.mem_cons_self⟩, [], [], acc, rfl, by (first | lia | omega), by (first | lia | omega), by simp at hlen; (first | lia | omega), ?_⟩
    refine ⟨_, List.mem_cons_self, by simp at hlen ⊢; (first | lia | omega), ?_⟩
    refine ⟨_, [], .same (List.nil_sublist _), ?_, rfl⟩
    show V.bytes (acc ++ [34]) = V.bytes (quotedB l)
    have : acc = 34 :: qBody l := by simpa [qBody] using hn
    rw [this]; rfl
end
end Mine
end

section
open PySem PySem.W PyProof.Rows PySem.Calls
namespace Mine

noncomputable def litB (l : List UInt8) : List UInt8 := 123 :: (textB (figs l.length) ++ [125] ++ [13, 10] ++ l)
noncomputable def figsOK (n : Nat) : Prop := (∀ c ∈ figs n, c ≤ 127) ∧ (figs n).length ≤ 1000

section
variable {X : Cx} {k : Nat}
theorem ct_literal_octets (l : List UInt8) (hl : l.length ≤ 1000000) (hf : figsOK l.length) : CT X (k + 3) (.ref 384) [.bytes l, .bool false] [] (fun v O => v = .bytes (litB l) ∧ O = []) False := by
  refine ct_def (dargs := []) (dvals := []) [Str.ofString "octets", Str.ofString "is_plus"] [0, 1] (fun P => rfl) (fun P => by kernel_rfl) (fun s P vals hK hl => ?bind) .nil (by decide +kernel) (by decide +kernel) rfl ?_
  case bind => obtain ⟨a, b, rfl⟩ := len2 hl; exact binds_K (o := { cls := .type "tuple", data := .seq #[.bool false] }) (items := #[.bool false]) hK rfl (by kernel_rfl) rfl rfl rfl
  refine ⟨_, fun L cells => (ts_cons (ts_ret (te_bin (te_bin (te_bin (te_bin (te_bytes) (te_callt (te_glob 2 rfl (fun P => by kernel_rfl) (.raw (.ref 175))) (cw_keep fun P => by kernel_rfl) (ta_cons (te_callb (te_bltn 3 rfl (fun P => by kernel_rfl) rfl (by decide)) (ta_cons (te_loc 0 rfl) ta_nil) tf_len) ta_nil)) tb_add) (te_ifexp (tt_val (te_loc 1 rfl)) (te_bytes) (te_bytes)) tb_add) (te_glob 4 rfl (fun P => by kernel_rfl) (.bytes [13, 10] 270)) tb_add) (te_callb (te_bltn 5 rfl (fun P => by kernel_rfl) rfl (by decide)) (ta_cons (te_loc 0 rfl) ta_nil) tf_bytes) tb_add)) ts_nil), ?_⟩
  have hlog : l.length.log2 < 1920 := by
    have : l.length.log2 ≤ l.length := Nat.log2_le_self _
    have h2 : l.length < 2 ^ 20 := by (first | lia | omega)
    rcases Nat.eq_zero_or_pos l.length with h0 | h0
    · rw [h0]; decide
    · exact Nat.lt_of_lt_of_le ((Nat.log2_lt (by (first | lia | omega))).mpr h2) (by decide)
  refine ⟨by (first | lia | omega), ?_⟩
  refine wct0 (ct_figures_of l.length hlog hf.1 (by have := hf.2; (first | lia | omega))) ?_
  have hz : (textB (figs l.length)).length ≤ 1000 := by simpa [textB] using hf.2
  refine ⟨by simp; (first | lia | omega), ?_⟩
  refine ⟨by simp; (first | lia | omega), ?_⟩
  refine ⟨by simp; (first | lia | omega), ?_⟩
  refine ⟨by simp; (first | lia | omega), ?_⟩
  refine ret0 ⟨?_, rfl⟩
  simp [wOf, litB]

noncomputable def strB (l : List UInt8) : List UInt8 := if quotableB l then quotedB l else litB l
theorem ct_string_octets (hb : X.b = true) (l : List UInt8) (hl : l.length ≤ 1000000) (hf : figsOK l.length) : CT X (k + 4) (.ref 392) [.bytes l] [] (fun v O => v = .bytes (strB l) ∧ O = []) False := by
  refine ct_def (dargs := [.bool false]) (dvals := [.bool false]) [Str.ofString "octets", Str.ofString "is_plus"] [0, 1] (fun P => rfl) (fun P => by kernel_rfl) (fun s P vals hK hl => ?bind) (.cons (.bool _) .nil) (by decide +kernel) (by decide +kernel) rfl ?_
  case bind => obtain ⟨a, rfl⟩ := len1 hl; exact binds_K (o := { cls := .type "tuple", data := .seq #[.bool false] }) (items := #[.bool false]) hK rfl (by kernel_rfl) rfl rfl rfl
  refine ⟨_, fun L cells => (ts_cons (ts_if (tt_val (te_callt (te_glob 2 rfl (fun P => by kernel_rfl) (.raw (.ref 369))) (cw_keep fun P => by kernel_rfl) (ta_cons (te_loc 0 rfl) ta_nil))) (ts_cons (ts_ret (te_callt (te_glob 3 rfl (fun P => by kernel_rfl) (.raw (.ref 376))) (cw_keep fun P => by kernel_rfl) (ta_cons (te_loc 0 rfl) ta_nil))) ts_nil) ts_nil) (ts_cons (ts_ret (te_callt (te_glob 4 rfl (fun P => by kernel_rfl) (.raw (.ref 384))) (cw_keep fun P => by kernel_rfl) (ta_cons (te_loc 0 rfl) (ta_cons (te_loc 1 rfl) ta_nil)))) ts_nil)), ?_⟩
  refine wct0 (ct_is_quotable (k := k + 2) l (by (first | lia | omega))) ?_
  cases h : quotableB l with
  | true =>
    refine wct0 (ct_quoted_octets (k := k + 2) hb l hl) ?_
    exact ret0 ⟨by simp [wOf, strB, h], rfl⟩
  | false =>
    refine wct0 (ct_literal_octets (k := k) l hl hf) ?_
    exact ret0 ⟨by simp [wOf, strB, h], rfl⟩
end
end Mine
end

section
open PySem PySem.W PyProof.Rows PySem.Calls
namespace Mine

/-- the data of the law -/
inductive T where
  | nil
  | num (n : Nat)
  | str (l : List UInt8)
  | atom (l : List Nat)
  | list (ts : List T)

mutual
noncomputable def T.toV : T → V
  | .nil => .none
  | .num n => .int (n : Int)
  | .str l => .bytes l
  | .atom l => .atom l
  | .list ts => .list (T.toVs ts)
noncomputable def T.toVs : List T → List V
  | [] => []
  | t :: r => t.toV :: T.toVs r
end
mutual
noncomputable def T.wr : T → List UInt8
  | .nil => [78, 73, 76]
  | .num n => textB (figs n)
  | .str l => strB l
  | .atom l => textB l
  | .list ts => 40 :: (joinB [32] (T.wrs ts) ++ [41])
noncomputable def T.wrs : List T → List (List UInt8)
  | [] => []
  | t :: r => t.wr :: T.wrs r
end
mutual
noncomputable def T.dep : T → Nat
  | .list ts => T.deps ts + 1
  | _ => 0
noncomputable def T.deps : List T → Nat
  | [] => 0
  | t :: r => max t.dep (T.deps r)
end

theorem CT.up {X : Cx} {k k' : Nat} {f : Value} {args : List V} {O : List (Addr × MO)} {QV : V → List (Addr × MO) → Prop} {EV : Prop} (h : CT X k f args O QV EV) (hk : k ≤ k') : CT X k' f args O QV EV :=
  fun A l D s vals Q E P => h A l D s vals Q E { P with room := ⟨by have := P.room.depth; (first | lia | omega), by have := P.room.units; (first | lia | omega)⟩ }
end Mine
end

section
open PySem PySem.W PyProof.Rows PySem.Calls
namespace Mine

theorem T.toVs_map : ∀ ts, T.toVs ts = ts.map T.toV
  | [] => rfl
  | t :: r => by rw [T.toVs, T.toVs_map r]; rfl
theorem T.wrs_map : ∀ ts, T.wrs ts = ts.map T.wr
  | [] => rfl
  | t :: r => by rw [T.wrs, T.wrs_map r]; rfl

mutual
noncomputable def T.OK : T → Prop
  | .nil => True
  | .num n => n.log2 < 1920 ∧ (∀ c ∈ figs n, c ≤ 127) ∧ (figs n).length ≤ 16777215
  | .str l => l.length ≤ 1000000 ∧ figsOK l.length
  | .atom l => (∀ c ∈ l, c ≤ 127) ∧ l.length ≤ 16777215
  | .list ts => (T.toVs ts).length ≤ 16777216 ∧ (joinB [32] (T.wrs ts)).length ≤ 16777000 ∧ T.OKs ts
noncomputable def T.OKs : List T → Prop
  | [] => True
  | t :: r => t.OK ∧ T.OKs r
end

theorem compGo_rel {de : W V} {tgt : Nat} {EV : Prop} {objs : List (Addr × MO)} {loc0 : List (Option V)} : ∀ (ps : List (V × V)), (∀ p ∈ ps, ∀ Q : V → St → Prop, Q p.2 ⟨loc0.set tgt (some p.1), objs⟩ → de Q EV ⟨loc0.set tgt (some p.1), objs⟩) →
    ∀ (acc : List V) (loc : List (Option V)) (K : List V → List (Addr × MO) → Prop), (∀ v, loc.set tgt (some v) = loc0.set tgt (some v)) → K (acc ++ ps.map (·.2)) objs → wCompGo wYes de tgt (ps.map (·.1)) acc loc K EV objs
  | [], _, acc, loc, K, _, h => by simpa [wCompGo] using h
  | p :: r, hd, acc, loc, K, hl, h => by
    rw [List.map_cons]
    unfold wCompGo wYes
    dsimp only
    rw [if_pos rfl, hl p.1]
    refine hd p List.mem_cons_self _ ?_
    refine compGo_rel r (fun u hu => hd u (List.mem_cons_of_mem _ hu)) _ _ _ (fun u => by simp) ?_
    simpa using h

section
variable {X : Cx} {k : Nat}
set_option maxHeartbeats 2000000 in
theorem write_def {args dargs : List V} {dvals : List Value} (hb : X.b = true) (t : T) (d : Nat) (hok : t.OK) (hd : t.dep + d ≤ 30) (hc : (args = [t.toV, .int (d : Int)] ∧ dargs = [] ∧ dvals = []) ∨ (d = 0 ∧ args = [t.toV] ∧ dargs = [.int (d : Int)] ∧ dvals = [.int 0 658]))
    (ih : ∀ ts, t = .list ts → ∀ u ∈ ts, CT X (k + 4) (.ref 398) [u.toV, .int ((d : Int) + 1)] [] (fun v O => v = .bytes u.wr ∧ O = []) False) : CT X (k + 5) (.ref 398) args [] (fun v O => v = .bytes t.wr ∧ O = []) False := by
  refine ct_def (dargs := dargs) (dvals := dvals) [Str.ofString "value", Str.ofString "depth"] [0, 1] (fun P => rfl) (fun P => by kernel_rfl) (fun s P vals hK hl => ?bind) ?dv (by decide +kernel) (by decide +kernel) rfl ?_
  case dv => rcases hc with ⟨-, rfl, rfl⟩ | ⟨rfl, -, rfl, rfl⟩; exact .nil; exact .cons (.int _ _) .nil
  case bind =>
    rcases hc with ⟨rfl, rfl, rfl⟩ | ⟨-, rfl, rfl, rfl⟩
    · obtain ⟨a, b, rfl⟩ := len2 hl; exact binds_K (o := { cls := .type "tuple", data := .seq #[.int 0 658] }) (items := #[.int 0 658]) hK rfl (by kernel_rfl) rfl rfl rfl
    · obtain ⟨a, rfl⟩ := len1 hl; exact binds_K (o := { cls := .type "tuple", data := .seq #[.int 0 658] }) (items := #[.int 0 658]) hK rfl (by kernel_rfl) rfl rfl rfl
  rw [show args ++ dargs = [t.toV, .int (d : Int)] by rcases hc with ⟨rfl, rfl, -⟩ | ⟨-, rfl, rfl, -⟩ <;> rfl]
  refine ⟨_, fun L cells => (ts_cons (ts_if (tt_cmp (te_loc 0 rfl) (te_none) tb_isnone) (ts_cons (ts_ret (te_bytes)) ts_nil) ts_nil) (ts_cons (ts_if (tt_val (te_callb (te_bltn 2 rfl (fun P => by kernel_rfl) rfl (by decide)) (ta_cons (te_loc 0 rfl) (ta_cons (te_glob 3 rfl (fun P => by kernel_rfl) (.raw (.ref 124))) ta_nil)) tf_isi)) (ts_cons (ts_ret (te_callt (te_glob 4 rfl (fun P => by kernel_rfl) (.raw (.ref 100))) (cw_keep fun P => by kernel_rfl) (ta_cons (te_atext (te_loc 0 rfl) attr_text) ta_nil))) ts_nil) ts_nil) (ts_cons (ts_if (tt_val (te_callb (te_bltn 2 rfl (fun P => by kernel_rfl) rfl (by decide)) (ta_cons (te_loc 0 rfl) (ta_cons (te_bltn 5 rfl (fun P => by kernel_rfl) rfl (by decide)) ta_nil)) tf_isi)) (ts_cons (ts_ret (te_callt (te_glob 6 rfl (fun P => by kernel_rfl) (.raw (.ref 392))) (cw_keep fun P => by kernel_rfl) (ta_cons (te_loc 0 rfl) ta_nil))) ts_nil) ts_nil) (ts_cons (ts_if (tt_val (te_callb (te_bltn 2 rfl (fun P => by kernel_rfl) rfl (by decide)) (ta_cons (te_loc 0 rfl) (ta_cons (te_tuple (ta_cons (te_bltn 7 rfl (fun P => by kernel_rfl) rfl (by decide)) (ta_cons (te_bltn 8 rfl (fun P => by kernel_rfl) rfl (by decide)) ta_nil))) ta_nil)) tf_isi)) (ts_cons (ts_if (tt_cmp (te_cell 1 rfl) (te_glob 9 rfl (fun P => by kernel_rfl) (.int 30 309)) tb_eq) (ts_cons (ts_raise (te_callt (te_glob 10 rfl (fun P => by kernel_rfl) (.raw (.ref 71))) (cw_keep fun P => by kernel_rfl) (ta_cons (te_str rfl) ta_nil))) ts_nil) ts_nil) (ts_cons (ts_ret (te_bin (te_bin (te_bytes) (te_methb (te_bytes) (tm_bytes FBA.slot_join FBA.type_join) (ta_cons (te_comp [(3, 1)] 1 (te_loc 0 rfl) (by kernel_rfl) (fun _ hc => tifs_nil) (fun _ hc => te_callt (te_glob 2 (by rw [hc]; rfl) (fun P => by kernel_rfl) (.raw (.ref 398))) (cw_keep fun P => by kernel_rfl) (ta_cons (te_loc 1 (by rw [hc]; rfl)) (ta_cons (te_bin (te_cell 3 (by rw [hc]; rfl)) (te_int) tb_add) ta_nil)))) ta_nil) tf_bjoin) tb_add) (te_bytes) tb_add)) ts_nil)) ts_nil) (ts_cons (ts_ret (te_callt (te_glob 11 rfl (fun P => by kernel_rfl) (.raw (.ref 175))) (cw_keep fun P => by kernel_rfl) (ta_cons (te_loc 0 rfl) ta_nil))) ts_nil))))), ?_⟩
  cases t with
  | nil => exact ret0 ⟨rfl, rfl⟩
  | num n =>
    refine wloc_of rfl ?_
    refine fis_of (b := false) rfl ?_
    refine kif_f ?_
    refine wloc_of rfl ?_
    refine isi_of (b := false) rfl ?_
    refine bif_f ?_
    refine wloc_of rfl ?_
    refine isi_of (c := .type "bytes") (b := false) rfl ?_
    refine bif_f ?_
    refine wloc_of rfl ?_
    refine ⟨by decide, rfl, ?_⟩
    refine bif_f ?_
    refine wloc_of rfl ?_
    refine wct0 (k := k + 4) ((ct_figures_of (k := k) n hok.1 hok.2.1 hok.2.2).up (by (first | lia | omega))) ?_
    exact ret0 ⟨rfl, rfl⟩
  | str l =>
    refine wloc_of rfl ?_
    refine fis_of (b := false) rfl ?_
    refine kif_f ?_
    refine wloc_of rfl ?_
    refine isi_of (b := false) rfl ?_
    refine bif_f ?_
    refine wloc_of rfl ?_
    refine isi_of (c := .type "bytes") (b := true) rfl ?_
    refine bif_t ?_
    refine wloc_of rfl ?_
    refine wct0 (k := k + 4) (ct_string_octets (k := k) hb l hok.1 hok.2) ?_
    exact ret0 ⟨rfl, rfl⟩
  | atom l =>
    refine wloc_of rfl ?_
    refine fis_of (b := false) rfl ?_
    refine kif_f ?_
    refine wloc_of rfl ?_
    refine isi_of (b := true) rfl ?_
    refine bif_t ?_
    refine wloc_of rfl ?_
    refine ⟨l, rfl, ?_⟩
    refine wct0 (k := k + 4) ((ct_text_octets (k := k + 3) l hok.1 hok.2).up (by (first | lia | omega))) ?_
    exact ret0 ⟨rfl, rfl⟩
  | list ts =>
    refine wloc_of rfl ?_
    refine fis_of (b := false) rfl ?_
    refine kif_f ?_
    refine wloc_of rfl ?_
    refine isi_of (b := false) rfl ?_
    refine bif_f ?_
    refine wloc_of rfl ?_
    refine isi_of (c := .type "bytes") (b := false) rfl ?_
    refine bif_f ?_
    refine wloc_of rfl ?_
    refine ⟨by decide, rfl, ?_⟩
    refine bif_t ?_
    refine wloc_of rfl ?_
    have h30 : ((d : Int) == 30) = false := by
      have : T.deps ts + 1 + d ≤ 30 := hd
      exact beq_eq_false_iff_ne.mpr (by (first | lia | omega))
    refine feqi_of h30 ?_
    refine kif_f ?_
    refine ⟨trivial, ?_⟩
    refine wloc_of rfl ?_
    refine ⟨(ts.map fun u => (u.toV, V.bytes u.wr)).map (·.1), ?_, ?_, ?_⟩
    · show some (T.toVs ts) = _
      rw [T.toVs_map]; simp
    · have := hok.1
      rw [T.toVs_map] at this
      simpa using this
    · refine compGo_rel (loc0 := [none, none, none, some (.int (d : Int))]) _ (fun p hp Q h => ?_) _ _ _ (fun v => rfl) ?_
      · obtain ⟨u, hu, rfl⟩ := List.mem_map.mp hp
        refine wloc_of rfl ?_
        refine wloc_of rfl ?_
        refine wct0 (k := k + 4) (ih ts rfl u hu) ?_
        exact h
      · refine ⟨T.wrs ts, ?_, ?_, ?_⟩
        · rw [T.wrs_map]; simp
        · have := hok.2.1; (first | lia | omega)
        · have := hok.2.1
          refine ⟨by simp; (first | lia | omega), by simp; (first | lia | omega), ret0 ⟨?_, rfl⟩⟩
          simp [wOf, T.wr]
end
end Mine
end

section
open PySem PySem.W PyProof.Rows PySem.Calls
namespace Mine

theorem T.deps_mem : ∀ {ts : List T} {u : T}, u ∈ ts → u.dep ≤ T.deps ts
  | t :: r, u, h => by
    rw [T.deps]
    rcases List.mem_cons.mp h with rfl | h
    · exact Nat.le_max_left _ _
    · exact Nat.le_trans (T.deps_mem h) (Nat.le_max_right _ _)
theorem T.OKs_mem : ∀ {ts : List T} {u : T}, T.OKs ts → u ∈ ts → u.OK
  | t :: r, u, h, hm => by
    rw [T.OKs] at h
    rcases List.mem_cons.mp hm with rfl | hm
    · exact h.1
    · exact T.OKs_mem h.2 hm

theorem T.ind {P : T → Prop} (h : ∀ t, (∀ ts, t = .list ts → ∀ u ∈ ts, P u) → P t) (t : T) : P t :=
  h t fun ts e u hu => T.ind h u
termination_by sizeOf t
decreasing_by
  have := List.sizeOf_lt_of_mem hu
  rw [e]; simp; omega

theorem ct_write {X : Cx} {k : Nat} (hb : X.b = true) (t : T) (d : Nat) (hok : t.OK) (hd : t.dep + d ≤ 30) : CT X (k + 5 + t.dep) (.ref 398) [t.toV, .int (d : Int)] [] (fun v O => v = .bytes t.wr ∧ O = []) False := by
  induction t using T.ind generalizing d with
  | h t ih =>
    refine (write_def (k := k + t.dep) hb t d hok hd (.inl ⟨rfl, rfl, rfl⟩) fun ts e u hu => ?_).up (by (first | lia | omega))
    have h1 := T.deps_mem hu
    have h2 : t.dep = T.deps ts + 1 := by rw [e, T.dep]
    have h3 : T.OKs ts := by rw [e, T.OK] at hok; exact hok.2.2
    have := ih ts e u hu (d + 1) (T.OKs_mem h3 hu) (by (first | lia | omega))
    have e1 : (((d + 1 : Nat) : Int)) = (d : Int) + 1 := by (first | lia | omega)
    rw [e1] at this
    exact this.up (by (first | lia | omega))
end Mine
end

section
open PySem PySem.W PyProof.Rows PySem.Calls
namespace Mine
section
variable {X : Cx} {k : Nat}
theorem ct_write0 (hb : X.b = true) (t : T) (hok : t.OK) (hd : t.dep ≤ 30) : CT X (k + 6 + t.dep) (.ref 398) [t.toV] [] (fun v O => v = .bytes t.wr ∧ O = []) False := by
  refine (write_def (k := k + t.dep + 1) hb t 0 hok (by (first | lia | omega)) (.inr ⟨rfl, rfl, rfl, rfl⟩) fun ts e u hu => ?_).up (by (first | lia | omega))
  have h1 := T.deps_mem hu
  have h2 : t.dep = T.deps ts + 1 := by rw [e, T.dep]
  have h3 : T.OKs ts := by rw [e, T.OK] at hok; exact hok.2.2
  have := ct_write (k := k) hb u 1 (T.OKs_mem h3 hu) (by (first | lia | omega))
  exact this.up (by (first | lia | omega))
end
end Mine
end

section
open PySem PySem.W PyProof.Rows PySem.Calls
namespace Mine
section
variable {X : Cx} {k : Nat} {env : Env}

noncomputable abbrev fMa (da : W (List V)) (g : List V → W V) (ov : V) : W V := fun QV EV σ => ∃ l, ov = .atom l ∧ da (kM2 g (.atom l) QV EV) EV σ
/-- a method of an atom -/
theorem te_metha (f : Addr) {o : Expr} {name : Str} {apos pos : Pos} {args : List Expr} {do_ : W V} {da : W (List V)} {pl : Sem Bool} (ho : TE X k env o do_) (hm : MethOK 124 name f) (hn : (Str.ofString "text" == name) = false) (hf : CWok X (.ref f)) (ha : TA X k env args da)
    (he : eval (.Call (.Attribute o name apos) args [] pos) env = (do
      let ov ← eval o env
      standAt apos.atName
      let (f, first) ← holding [ov] (getMethod ov name pl)
      callWith pos f first (backTo pos (starEach args env)) (backToKw pos (keywordEach [] env))) := by rfl) :
    TE X k env (.Call (.Attribute o name apos) args [] pos) (wUn do_ (fMa da (wCt X k (.ref f)))) :=
  fun c A D σ s QV EV Q E hc P h O OE => by
    refine g_method (name := name) (pl := pl) (ho c A D σ s _ EV _ E hc P h (fun ov vv D1 σ1 s1 R1 l1 hv q => ?_) OE) he
    obtain ⟨l, rfl, q2⟩ := q
    have hv0 := hv
    cases hv
    rename_i a d t t' n hash h1 h2
    obtain ⟨p1, p2, p3⟩ := hm X.w.params
    have X1 := kIn (P.to R1)
    have hgl : getL name [⟨hash, .str (Str.ofString "text") t', .str (strD l) t⟩] = some none := by
      unfold getL; rw [List.find?_cons]
      have : (⟨hash, .str (Str.ofString "text") t', .str (strD l) t⟩ : DictEntry).key.isStr name = false := hn
      rw [this]; simp [DictEntry.refKey]
    refine method_fn X1 (⟨R1.kD _ _ h1, rfl, rfl, R1.kD _ _ h2⟩ : InstAt s1.heap a (instObj 124 d) 124 (some (dictOf _ n))) (plainGet_of p1).1 (plainGet_of p1).2 p2 (beq_iff_eq.mp p3) (by show (lookIn name (dictOf _ n)).map _ = _; rw [lookIn_dict, hgl]; rfl) ?_
    refine hf (ha.1 pos) (g_evalArgs (ha.2 pos c A D1 σ1 s1 _ EV _ E hc (P.to R1) q2 (fun vs vvs D2 σ2 s2 R2 l2 hvs q3 => ⟨kIn (P.to R2), ?_⟩) OE) (ha.1 pos))
    obtain ⟨pre, Ob, post, hoo, hct⟩ := q3
    exact callV (P.to R2) (.cons (hv0.mono l2) hvs) hoo hct (O.le (DM.le_trans l1 l2)) OE

/-- `Atom(text)` -/
theorem ct_atom {l : List Nat} (h : ∀ x dx, CT { X with b := false } k (.ref 114) [.raw (.ref x), .str l] [(x, .inst 124 dx [])] (fun v O' => v = .none ∧ O' = [(x, .inst 124 dx [(Str.ofString "text", .str l)])]) False) : CT X (k + 1) (.ref 124) [.str l] [] (fun v O' => v = .atom l ∧ O' = []) False := by
  intro A L D s vals Q E P hv O1 O2
  have hmk : CT X (k + 1) (.ref 124) [.str l] [] (fun v O' => ∃ x dx, v = .raw (.ref x) ∧ O' = [(x, .inst 124 dx [(Str.ofString "text", .str l)])]) False :=
    ct_make (C := 124) (fI := 114) (fun P => by kernel_rfl) (fun P => by kernel_rfl) (fun P => by kernel_rfl) fun x dx => (h x dx).mono (fun v O' q => ⟨q.1, fun _ => ⟨x, dx, rfl, q.2⟩⟩) False.elim
  refine hmk A L D s vals Q E P hv ?_ O2
  · rintro v vv D' O' h' t' C ⟨x, dx, rfl, rfl⟩
    obtain ⟨D'', C'⟩ := C.atom (fun h => by simp [feet] at h) (fun h => by simp [feet] at h)
    exact O1 _ _ D'' _ h' t' C' ⟨rfl, rfl⟩
end
end Mine
end

section
open PySem PySem.W PyProof.Rows PySem.Calls
namespace Mine
section
variable {X : Cx} {k : Nat} {env : Env}

/-! `tuple(found)`, `bytes(found)` of a list that may change -/
noncomputable def wTupM : List V → W V
  | [.raw (.ref a)] => fun Q _ σ => ∃ vs, (a, MO.list vs) ∈ σ.objs ∧ vs.length ≤ 16777216 ∧ Q (.tup vs) σ
  | _ => wNo
theorem wTupM_inv {vs : List V} {Q : V → St → Prop} {E : Prop} {σ : St} (h : wTupM vs Q E σ) : ∃ a, vs = [.raw (.ref a)] := by
  rcases vs with _ | ⟨v, vs⟩
  · exact h.elim
  cases v <;> first | exact h.elim | skip
  rename_i v; cases v <;> first | exact h.elim | skip
  rcases vs with _ | ⟨v, vs⟩
  case cons => exact h.elim
  exact ⟨_, rfl⟩
theorem tf_tuplem : TF X k (.type "tuple") wTupM := ⟨cw_type, fun c A D σ s vs vals QV EV Q E P hv h O OE => g_of <| by
    obtain ⟨a, rfl⟩ := wTupM_inv h
    obtain ⟨x, rfl, hx⟩ := hv.one
    obtain rfl := hx.raw_inv
    obtain ⟨us, hm, hz, hq⟩ := h
    obtain ⟨vals', n, hl, hus⟩ := P.rel.obj _ hm
    refine call_tuple_list (items := vals'.toArray) ⟨_, hl, rfl, _, rfl⟩ (fun h' hk => ?_) (by simp; rw [hus.length]; exact Nat.le_trans hz (by decide))
    have R1 := P.rel.keep (h' := h') (t' := s.toks) hk
    obtain ⟨R2, l2⟩ := Rel.newD (P.to R1) (t' := s.toks) (pushed h' { cls := .type "tuple", data := .seq vals'.toArray } rfl) (none_at (Nat.le_refl _)) fun b o e => Heap.get?_push_of_some _ e
    exact O (.tup us) _ _ σ _ R2 l2 (.tup (DM.put_same _ _ _) (hus.mono l2)) hq⟩

noncomputable def wBytesM : List V → W V
  | [.raw (.ref a)] => fun Q _ σ => ∃ ns : List Int, (a, MO.list (ns.map V.int)) ∈ σ.objs ∧ (∀ n ∈ ns, 0 ≤ n ∧ n < 256) ∧ ns.length ≤ 16777216 ∧ Q (.bytes (bytesN ns)) σ
  | _ => wNo
theorem wBytesM_inv {vs : List V} {Q : V → St → Prop} {E : Prop} {σ : St} (h : wBytesM vs Q E σ) : ∃ a, vs = [.raw (.ref a)] := by
  rcases vs with _ | ⟨v, vs⟩
  · exact h.elim
  cases v <;> first | exact h.elim | skip
  rename_i v; cases v <;> first | exact h.elim | skip
  rcases vs with _ | ⟨v, vs⟩
  case cons => exact h.elim
  exact ⟨_, rfl⟩
theorem tf_bytesm : TF X k (.type "bytes") wBytesM := ⟨cw_type, fun c A D σ s vs vals QV EV Q E P hv h O OE => g_of <| by
    obtain ⟨a, rfl⟩ := wBytesM_inv h
    obtain ⟨x, rfl, hx⟩ := hv.one
    obtain rfl := hx.raw_inv
    obtain ⟨ns, hm, hr, hz, hq⟩ := h
    obtain ⟨vals', n, hl, hus⟩ := P.rel.obj _ hm
    have hi := hus.ints
    refine call_bytes_ints ⟨_, hl, rfl, _, rfl⟩ hi hr (by rw [hi.length]; exact hz) P.hh fun h' t kk hk => ?_
    exact O (.bytes (bytesN ns)) _ D σ _ (P.rel.keep hk) (DM.le_refl D) (.bytes _ _) hq⟩
end
end Mine
end

section
open PySem PySem.W PyProof.Rows PySem.Calls
namespace Mine

/-! figures of a number, plain -/
theorem figs_dig {n c : Nat} (h : c ∈ figs n) : 48 ≤ c ∧ c ≤ 57 := by
  obtain ⟨d, hd, rfl⟩ := List.mem_map.mp h
  have := Nat.isDigit_of_mem_toDigits (by decide) (by decide) hd
  unfold Char.isDigit at this
  simp only [Bool.and_eq_true, decide_eq_true_eq] at this
  obtain ⟨h1, h2⟩ := this
  exact ⟨by simpa using UInt32.le_iff_toNat_le.mp h1, by simpa using UInt32.le_iff_toNat_le.mp h2⟩
theorem figs_len {n k : Nat} (hk : 0 < k) : (figs n).length ≤ k ↔ n < 10 ^ k := by
  unfold figs; rw [List.length_map]; exact Nat.length_toDigits_le_iff (by decide) hk
theorem figs_ne (n : Nat) : figs n ≠ [] := by
  unfold figs; simp [Nat.toDigits_ne_nil]
theorem figs_pos (n : Nat) : 0 < (figs n).length := List.length_pos_iff.mpr (figs_ne n)
theorem numF_fold (l : List Nat) (h : ∀ c ∈ l, 48 ≤ c ∧ c ≤ 57) : ∀ init : Int, (textB l).foldl (fun n c => n * 10 + (c.toNat : Int) - 48) init = l.foldl (fun (n : Int) (c : Nat) => n * 10 + ((c : Int) - 48)) init := by
  induction l with
  | nil => intro init; rfl
  | cons c r ih =>
    intro init
    have hc := h c List.mem_cons_self
    have e : (c.toUInt8.toNat : Int) = c := by simp; (first | lia | omega)
    simp only [textB, List.map_cons, List.foldl_cons]
    rw [e]
    have := ih (fun d hd => h d (List.mem_cons_of_mem _ hd)) (init * 10 + ((c : Int) - 48))
    rw [← this]
    unfold textB
    congr 1; (first | lia | omega)
theorem numF_figs (n : Nat) : numF (textB (figs n)) = (n : Int) := by
  unfold numF
  rw [numF_fold _ (fun c hc => figs_dig hc)]
  have h := Nat.ofDigitChars_ten_toDigits (n := n)
  have hd : ∀ c ∈ Nat.toDigits 10 n, 48 ≤ c.toNat := fun c hc => (figs_dig (n := n) (List.mem_map.mpr ⟨c, hc, rfl⟩)).1
  have gen : ∀ (l : List Char) (init : Nat), (∀ c ∈ l, 48 ≤ c.toNat) → (l.map Char.toNat).foldl (fun (n : Int) (c : Nat) => n * 10 + ((c : Int) - 48)) (init : Int) = ((Nat.ofDigitChars 10 l init : Nat) : Int) := by
    intro l
    induction l with
    | nil => intro init _; rfl
    | cons c r ih =>
      intro init h
      have hc := h c List.mem_cons_self
      have := ih (10 * init + (c.toNat - '0'.toNat)) fun d hd => h d (List.mem_cons_of_mem _ hd)
      rw [List.map_cons, List.foldl_cons]
      have e : (init : Int) * 10 + ((c.toNat : Int) - 48) = ((10 * init + (c.toNat - '0'.toNat) : Nat) : Int) := by
        have : '0'.toNat = 48 := rfl
        (first | lia | omega)
      rw [e, this]; rfl
  have := gen (Nat.toDigits 10 n) 0 hd
  rw [h] at this
  exact this
theorem numF_zero (z : Nat) (l : List UInt8) : numF (List.replicate z 48 ++ l) = numF l := by
  unfold numF
  rw [List.foldl_append]
  congr 1
  induction z with
  | zero => rfl
  | succ z ih => rw [List.replicate_succ, List.foldl_cons]; exact ih
theorem textB_dig {l : List Nat} (h : ∀ c ∈ l, 48 ≤ c ∧ c ≤ 57) : ∀ c ∈ textB l, 48 ≤ c.toNat ∧ c.toNat ≤ 57 := by
  intro c hc
  obtain ⟨d, hd, rfl⟩ := List.mem_map.mp hc
  have := h d hd
  simp; (first | lia | omega)
noncomputable def isFigB (c : UInt8) : Bool := decide (48 ≤ (c.toNat : Int)) && decide ((c.toNat : Int) ≤ 57)
theorem isFig_iff (c : UInt8) : isFigB c = true ↔ 48 ≤ c.toNat ∧ c.toNat ≤ 57 := by
  unfold isFigB; simp; omega
theorem takeWhile_pre {q : UInt8 → Bool} {x y : List UInt8} (hx : ∀ c ∈ x, q c = true) (hy : ∀ c, y.head? = some c → q c = false) : (x ++ y).takeWhile q = x := by
  induction x with
  | nil =>
    cases y with
    | nil => rfl
    | cons c r => simp [hy c rfl]
  | cons c r ih => 
    rw [List.cons_append, List.takeWhile_cons, hx c List.mem_cons_self]
    simp [ih fun d hd => hx d (List.mem_cons_of_mem _ hd)]
end Mine
end

section
open PySem PySem.W PyProof.Rows PySem.Calls
namespace Mine

theorem qBody_append : ∀ a b : List UInt8, qBody (a ++ b) = qBody a ++ qBody b
  | [], _ => rfl
  | c :: r, b => by rw [List.cons_append, qBody, qBody, qBody_append r b, List.append_assoc]
noncomputable def okQ (s : List UInt8) : Prop := ∀ c ∈ s, 1 ≤ c.toNat ∧ c.toNat ≤ 127 ∧ c ≠ 10 ∧ c ≠ 13
theorem peek_drop {l : List UInt8} {q : Nat} {c : UInt8} {r : List UInt8} (h : l.drop q = c :: r) : peekI l q = (c.toNat : Int) := by
  have : l[q]? = some c := by
    have := List.getElem?_drop (xs := l) (i := q) (j := 0)
    rw [h] at this; simpa using this.symm
  unfold peekI; rw [this]
theorem drop_more {l x y : List UInt8} {q n : Nat} (h : l.drop q = x ++ y) (e : x.length = n) : l.drop (q + n) = y := by
  rw [← List.drop_drop, h, ← e]; simp
theorem drop_one {l y : List UInt8} {q : Nat} {c : UInt8} (h : l.drop q = c :: y) : l.drop (q + 1) = y := drop_more (x := [c]) h rfl
theorem drop_len {l x y : List UInt8} {q : Nat} (h : l.drop q = x ++ y) (hx : x ≠ []) : q + x.length ≤ l.length := by
  have := congrArg List.length h
  rw [List.length_drop, List.length_append] at this
  have : 0 < x.length := List.length_pos_iff.mpr hx
  omega
theorem ne_int {c : UInt8} {n : Nat} (hn : n < 256) (h : c ≠ n.toUInt8) : ((c.toNat : Int) == (n : Int)) = false := by
  refine beq_eq_false_iff_ne.mpr fun e => h ?_
  have h1 : c.toNat = n := by (first | lia | omega)
  apply UInt8.toNat_inj.mp
  rw [h1]; simp; (first | lia | omega)

section
variable {X : Cx} {k : Nat}
theorem wct2 {f : Value} {vs : List V} {r : V} {p q q1 : Addr × MO} {loc : List (Option V)} {QV : V → St → Prop} {EV : Prop} (hct : CT X k f vs [q] (fun v O' => v = r ∧ O' = [q1]) False) (h : QV r ⟨loc, [p, q1]⟩) : wCt X k f vs QV EV ⟨loc, [p, q]⟩ := by
  refine wctF [p] [q] [] (hct) False.elim fun v O' z => ?_
  obtain ⟨rfl, rfl⟩ := z
  exact h

set_option maxHeartbeats 2000000 in
theorem ct_quoted (hb : X.b = true) (a d : Addr) (l : List UInt8) (p : Nat) (s post : List UInt8) (hl : l.length ≤ 1000000) (hs : okQ s) (h : l.drop p = quotedB s ++ post) :
    CT X (k + 3) (.ref 295) [.raw (.ref a)] [(a, wireM d l p)] (fun v O => v = .bytes s ∧ O = [(a, wireM d l (p + (quotedB s).length))]) False := by
  have hlen : p + (quotedB s).length ≤ l.length := drop_len h (by simp [quotedB])
  have hql : (quotedB s).length = (qBody s).length + 2 := by simp [quotedB]
  have qlen : ∀ s : List UInt8, s.length ≤ (qBody s).length := by
    intro s; induction s with
    | nil => simp [qBody]
    | cons c r ih => rw [qBody]; split <;> simp <;> (first | lia | omega)
  have hsl := qlen s
  have h1 : l.drop (p + 1) = qBody s ++ 34 :: post := by
    refine drop_one (c := 34) ?_
    rw [h]; simp [quotedB]
  have hd : ∀ i, i ≤ s.length → l.drop (p + 1 + (qBody (s.take i)).length) = qBody (s.drop i) ++ 34 :: post := fun i hi => by
    refine drop_more (x := qBody (s.take i)) ?_ rfl
    rw [h1, ← List.append_assoc, ← qBody_append, List.take_append_drop]
  have hL : l.length ≤ 16777216 := by (first | lia | omega)
  refine ct_def (dargs := []) (dvals := []) [Str.ofString "self"] [0] (fun P => rfl) (fun P => by kernel_rfl) (fun s P vals _ hl => ?bind) .nil (by decide +kernel) (by decide +kernel) rfl ?_
  case bind => obtain ⟨a, rfl⟩ := len1 hl; exact BindsTo.of_eq rfl
  refine ⟨_, fun L cells => (ts_cons (ts_expr (te_methi 360 218 (te_loc 0 rfl) meth_need (cw_keep fun P => by kernel_rfl) (ta_cons (te_bytes) (ta_cons (te_str rfl) ta_nil)))) (ts_cons (ts_assign (te_callb (te_bltn 2 rfl (fun P => by kernel_rfl) rfl (by decide)) ta_nil (tf_ba hb)) (st_loc 1 rfl)) (ts_cons (ts_while (tt_cmp (te_methi 360 204 (te_loc 0 rfl) meth_peek (cw_keep fun P => by kernel_rfl) ta_nil) (te_glob 3 rfl (fun P => by kernel_rfl) (.int 34 305)) tb_ne) (ts_cons (ts_if (tt_cmp (te_methi 360 204 (te_loc 0 rfl) meth_peek (cw_keep fun P => by kernel_rfl) ta_nil) (te_glob 4 rfl (fun P => by kernel_rfl) (.int 92 307)) tb_eq) (ts_cons (ts_setattr 360 (te_bin (te_attr 360 (te_loc 0 rfl) attr_at) (te_int) tb_add) (te_loc 0 rfl) set_at) (ts_cons (ts_if (tt_bool (tts_and (tt_cmp (te_methi 360 204 (te_loc 0 rfl) meth_peek (cw_keep fun P => by kernel_rfl) ta_nil) (te_glob 3 rfl (fun P => by kernel_rfl) (.int 34 305)) tb_ne) (tts_and (tt_cmp (te_methi 360 204 (te_loc 0 rfl) meth_peek (cw_keep fun P => by kernel_rfl) ta_nil) (te_glob 4 rfl (fun P => by kernel_rfl) (.int 92 307)) tb_ne) tts_and_nil))) (ts_cons (ts_raise (te_methi 360 197 (te_loc 0 rfl) meth_fault (cw_keep fun P => by kernel_rfl) (ta_cons (te_str rfl) ta_nil))) ts_nil) ts_nil) ts_nil)) ts_nil) (ts_cons (ts_if (tt_bool (tts_or (tt_cmp (te_methi 360 204 (te_loc 0 rfl) meth_peek (cw_keep fun P => by kernel_rfl) ta_nil) (te_int) tb_lt) (tts_or (tt_cmp (te_methi 360 204 (te_loc 0 rfl) meth_peek (cw_keep fun P => by kernel_rfl) ta_nil) (te_int) tb_gt) (tts_or (tt_cmp (te_methi 360 204 (te_loc 0 rfl) meth_peek (cw_keep fun P => by kernel_rfl) ta_nil) (te_glob 5 rfl (fun P => by kernel_rfl) (.bytes [13, 10] 270)) tb_in) tts_or_nil)))) (ts_cons (ts_raise (te_methi 360 197 (te_loc 0 rfl) meth_fault (cw_keep fun P => by kernel_rfl) (ta_cons (te_str rfl) ta_nil))) ts_nil) ts_nil) (ts_cons (ts_expr (te_methb (te_loc 1 rfl) tm_ba_append (ta_cons (te_methi 360 204 (te_loc 0 rfl) meth_peek (cw_keep fun P => by kernel_rfl) ta_nil) ta_nil) (tf_ba_append hb))) (ts_cons (ts_setattr 360 (te_bin (te_attr 360 (te_loc 0 rfl) attr_at) (te_int) tb_add) (te_loc 0 rfl) set_at) ts_nil))))) (ts_cons (ts_setattr 360 (te_bin (te_attr 360 (te_loc 0 rfl) attr_at) (te_int) tb_add) (te_loc 0 rfl) set_at) (ts_cons (ts_ret (te_callb (te_bltn 6 rfl (fun P => by kernel_rfl) rfl (by decide)) (ta_cons (te_loc 1 rfl) ta_nil) tf_bytes)) ts_nil))))), ?_⟩
  first | refine wme_of rfl List.mem_cons_self ?_ | refine wmk_of List.mem_cons_self ?_
  refine wct1 (ct_need (k := k) a d l p [34] _ hL (by decide) (by unfold skipB; rw [h]; simp [quotedB])) ?_
  intro f
  refine ⟨s.length + 1, ?_⟩
  have pk : ∀ q, _ := fun q => ct_peek (X := X) (k := k + 1) a d l q hL
  refine wWhile_up (fun i => ⟨[some (.raw (.ref a)), some (.raw (.ref f)), none, none, none, none, none], [(f, .ba (s.take i)), (a, wireM d l (p + 1 + (qBody (s.take i)).length))]⟩) s.length (fun i hi Q hQ => ?_) (fun i hi Q hQ => ?_) (fun Q hQ => ?_) ?_ _ 0 (by (first | lia | omega))
  · have hdi := hd i (by (first | lia | omega))
    have hdr : s.drop i = s[i] :: s.drop (i + 1) := List.drop_eq_getElem_cons hi
    rw [hdr, qBody] at hdi
    first | refine wme_of rfl (List.mem_cons_of_mem _ List.mem_cons_self) ?_ | refine wmk_of (List.mem_cons_of_mem _ List.mem_cons_self) ?_
    refine wct2 (pk _) ?_
    refine fnei_of (EV := False) (b := true) ?_ hQ
    split at hdi
    · rw [peek_drop (c := 92) (r := s[i] :: (qBody (s.drop (i+1)) ++ 34 :: post)) (by rw [hdi]; simp)]; rfl
    · rename_i hn
      rw [peek_drop (c := s[i]) (r := (qBody (s.drop (i+1)) ++ 34 :: post)) (by rw [hdi]; simp)]
      have : ((s[i].toNat : Int) == ((34 : Nat) : Int)) = false := ne_int (by decide) fun e => hn (by simp [e])
      unfold bne; rw [show (34 : Int) = ((34 : Nat) : Int) from rfl, this]; rfl
  · have hdi := hd i (by (first | lia | omega))
    have hdr : s.drop i = s[i] :: s.drop (i + 1) := List.drop_eq_getElem_cons hi
    have htk : s.take (i + 1) = s.take i ++ [s[i]] := by rw [List.take_add_one, List.getElem?_eq_getElem hi]; rfl
    rw [hdr, qBody] at hdi
    obtain ⟨c1, c2, c3, c4⟩ := hs s[i] (List.getElem_mem hi)
    have htl : (s.take i).length ≤ 16777000 := by rw [List.length_take]; (first | lia | omega)
    first | refine wme_of rfl (List.mem_cons_of_mem _ List.mem_cons_self) ?_ | refine wmk_of (List.mem_cons_of_mem _ List.mem_cons_self) ?_
    refine wct2 (pk _) ?_
    have ec : ((s[i].toNat : Int)).toNat.toUInt8 = s[i] := by simp
    have hnl : ([13, 10] : List UInt8).contains s[i] = false := by simp [c3, c4]
    by_cases hsp : s[i] = 34 ∨ s[i] = 92
    · have hq : l.drop (p + 1 + (qBody (s.take i)).length) = 92 :: s[i] :: (qBody (s.drop (i + 1)) ++ 34 :: post) := by
        rw [hdi, if_pos (by rcases hsp with e | e <;> simp [e])]; simp
      have hq1 := drop_one hq
      have he : p + 1 + (qBody (s.take i)).length + 1 + 1 = p + 1 + (qBody (s.take (i + 1))).length := by
        rw [htk, qBody_append, qBody, if_pos (by rcases hsp with e | e <;> simp [e])]; simp [qBody]; (first | lia | omega)
      generalize p + 1 + (qBody (s.take i)).length = q0 at hq hq1 he ⊢
      rw [peek_drop hq]
      refine feqi_of (EV := False) (b := true) rfl ?_
      refine kif_t ?_
      refine wat_of rfl (List.mem_cons_of_mem _ List.mem_cons_self) ?_
      refine ⟨a, d, _, [(f, .ba (s.take i))], [], rfl, rfl, by simp, ?_⟩
      rw [put_at, show ((q0 : Nat) : Int) + 1 = ((q0 + 1 : Nat) : Int) by (first | lia | omega)]; try rfl
      have pk1 := pk (q0 + 1)
      rw [peek_drop hq1] at pk1
      first | refine wme_of rfl (List.mem_cons_of_mem _ List.mem_cons_self) ?_ | refine wmk_of (List.mem_cons_of_mem _ List.mem_cons_self) ?_
      refine wct2 pk1 ?_
      generalize q0 + 1 = q at hq1 he pk1 ⊢
      rcases hsp with e34 | e92
      · have e1 : ((s[i].toNat : Int) != 34) = false := by rw [e34]; rfl
        refine fnei_of (EV := False) e1 ?_
        refine kif_f ?_
        first | refine wme_of rfl (List.mem_cons_of_mem _ List.mem_cons_self) ?_ | refine wmk_of (List.mem_cons_of_mem _ List.mem_cons_self) ?_
        refine wct2 pk1 ?_
        refine fcmp_of (r := fun a b => decide (a < b)) (x := (s[i].toNat : Int)) (y := 1) (EV := False) (b := false) (decide_eq_false (by (first | lia | omega))) ?_
        refine kif_f ?_
        first | refine wme_of rfl (List.mem_cons_of_mem _ List.mem_cons_self) ?_ | refine wmk_of (List.mem_cons_of_mem _ List.mem_cons_self) ?_
        refine wct2 pk1 ?_
        refine fcmp_of (r := fun a b => decide (b < a)) (x := (s[i].toNat : Int)) (y := 127) (EV := False) (b := false) (decide_eq_false (by (first | lia | omega))) ?_
        refine kif_f ?_
        first | refine wme_of rfl (List.mem_cons_of_mem _ List.mem_cons_self) ?_ | refine wmk_of (List.mem_cons_of_mem _ List.mem_cons_self) ?_
        refine wct2 pk1 ?_
        refine ⟨by (first | lia | omega), by (first | lia | omega), ?_⟩
        simp only [ec, hnl, bOf, Bool.false_eq_true, if_false]
        refine ⟨⟨_, List.mem_cons_self⟩, ?_⟩
        first | refine wme_of rfl (List.mem_cons_of_mem _ List.mem_cons_self) ?_ | refine wmk_of (List.mem_cons_of_mem _ List.mem_cons_self) ?_
        refine wct2 pk1 ?_
        refine ⟨[], [(a, wireM d l q)], _, rfl, by (first | lia | omega), by (first | lia | omega), by (first | lia | omega), ?_⟩
        refine wat_of rfl (List.mem_cons_of_mem _ List.mem_cons_self) ?_
        refine ⟨a, d, _, [(f, _)], [], rfl, rfl, by simp, ?_⟩
        rw [put_at, show ((q : Nat) : Int) + 1 = ((q + 1 : Nat) : Int) by (first | lia | omega), he, ec, ← htk]
        exact hQ
      · have e1 : ((s[i].toNat : Int) != 34) = true := by rw [e92]; rfl
        have e2 : ((s[i].toNat : Int) != 92) = false := by rw [e92]; rfl
        refine fnei_of (EV := False) e1 ?_
        refine kif_t ?_
        first | refine wme_of rfl (List.mem_cons_of_mem _ List.mem_cons_self) ?_ | refine wmk_of (List.mem_cons_of_mem _ List.mem_cons_self) ?_
        refine wct2 pk1 ?_
        refine fnei_of (EV := False) e2 ?_
        refine kif_f ?_
        first | refine wme_of rfl (List.mem_cons_of_mem _ List.mem_cons_self) ?_ | refine wmk_of (List.mem_cons_of_mem _ List.mem_cons_self) ?_
        refine wct2 pk1 ?_
        refine fcmp_of (r := fun a b => decide (a < b)) (x := (s[i].toNat : Int)) (y := 1) (EV := False) (b := false) (decide_eq_false (by (first | lia | omega))) ?_
        refine kif_f ?_
        first | refine wme_of rfl (List.mem_cons_of_mem _ List.mem_cons_self) ?_ | refine wmk_of (List.mem_cons_of_mem _ List.mem_cons_self) ?_
        refine wct2 pk1 ?_
        refine fcmp_of (r := fun a b => decide (b < a)) (x := (s[i].toNat : Int)) (y := 127) (EV := False) (b := false) (decide_eq_false (by (first | lia | omega))) ?_
        refine kif_f ?_
        first | refine wme_of rfl (List.mem_cons_of_mem _ List.mem_cons_self) ?_ | refine wmk_of (List.mem_cons_of_mem _ List.mem_cons_self) ?_
        refine wct2 pk1 ?_
        refine ⟨by (first | lia | omega), by (first | lia | omega), ?_⟩
        simp only [ec, hnl, bOf, Bool.false_eq_true, if_false]
        refine ⟨⟨_, List.mem_cons_self⟩, ?_⟩
        first | refine wme_of rfl (List.mem_cons_of_mem _ List.mem_cons_self) ?_ | refine wmk_of (List.mem_cons_of_mem _ List.mem_cons_self) ?_
        refine wct2 pk1 ?_
        refine ⟨[], [(a, wireM d l q)], _, rfl, by (first | lia | omega), by (first | lia | omega), by (first | lia | omega), ?_⟩
        refine wat_of rfl (List.mem_cons_of_mem _ List.mem_cons_self) ?_
        refine ⟨a, d, _, [(f, _)], [], rfl, rfl, by simp, ?_⟩
        rw [put_at, show ((q : Nat) : Int) + 1 = ((q + 1 : Nat) : Int) by (first | lia | omega), he, ec, ← htk]
        exact hQ
    · have hn : (s[i] == 34 || s[i] == 92) = false := by simpa using hsp
      have hq1 : l.drop (p + 1 + (qBody (s.take i)).length) = s[i] :: (qBody (s.drop (i + 1)) ++ 34 :: post) := by
        rw [hdi, if_neg (by rw [hn]; decide)]; simp
      have he : p + 1 + (qBody (s.take i)).length + 1 = p + 1 + (qBody (s.take (i + 1))).length := by
        rw [htk, qBody_append, qBody, if_neg (by rw [hn]; decide)]; simp [qBody]; (first | lia | omega)
      generalize p + 1 + (qBody (s.take i)).length = q at hq1 he ⊢
      have pk1 := pk q
      rw [peek_drop hq1] at pk1 ⊢
      have e1 : ((s[i].toNat : Int) == 92) = false := ne_int (n := 92) (by decide) fun e => hsp (.inr e)
      refine feqi_of (EV := False) e1 ?_
      refine kif_f ?_
      first | refine wme_of rfl (List.mem_cons_of_mem _ List.mem_cons_self) ?_ | refine wmk_of (List.mem_cons_of_mem _ List.mem_cons_self) ?_
      refine wct2 pk1 ?_
      refine fcmp_of (r := fun a b => decide (a < b)) (x := (s[i].toNat : Int)) (y := 1) (EV := False) (b := false) (decide_eq_false (by (first | lia | omega))) ?_
      refine kif_f ?_
      first | refine wme_of rfl (List.mem_cons_of_mem _ List.mem_cons_self) ?_ | refine wmk_of (List.mem_cons_of_mem _ List.mem_cons_self) ?_
      refine wct2 pk1 ?_
      refine fcmp_of (r := fun a b => decide (b < a)) (x := (s[i].toNat : Int)) (y := 127) (EV := False) (b := false) (decide_eq_false (by (first | lia | omega))) ?_
      refine kif_f ?_
      first | refine wme_of rfl (List.mem_cons_of_mem _ List.mem_cons_self) ?_ | refine wmk_of (List.mem_cons_of_mem _ List.mem_cons_self) ?_
      refine wct2 pk1 ?_
      refine ⟨by (first | lia | omega), by (first | lia | omega), ?_⟩
      simp only [ec, hnl, bOf, Bool.false_eq_true, if_false]
      refine ⟨⟨_, List.mem_cons_self⟩, ?_⟩
      first | refine wme_of rfl (List.mem_cons_of_mem _ List.mem_cons_self) ?_ | refine wmk_of (List.mem_cons_of_mem _ List.mem_cons_self) ?_
      refine wct2 pk1 ?_
      refine ⟨[], [(a, wireM d l q)], _, rfl, by (first | lia | omega), by (first | lia | omega), by (first | lia | omega), ?_⟩
      refine wat_of rfl (List.mem_cons_of_mem _ List.mem_cons_self) ?_
      refine ⟨a, d, _, [(f, _)], [], rfl, rfl, by simp, ?_⟩
      rw [put_at, show ((q : Nat) : Int) + 1 = ((q + 1 : Nat) : Int) by (first | lia | omega), he, ec, ← htk]
      exact hQ
  · have hdi := hd s.length (Nat.le_refl _)
    rw [List.drop_length] at hdi
    first | refine wme_of rfl (List.mem_cons_of_mem _ List.mem_cons_self) ?_ | refine wmk_of (List.mem_cons_of_mem _ List.mem_cons_self) ?_
    have pk1 := pk (p + 1 + (qBody (s.take s.length)).length)
    rw [peek_drop hdi] at pk1
    refine wct2 pk1 ?_
    exact fnei_of (EV := False) (b := false) rfl hQ
  · refine wat_of rfl (List.mem_cons_of_mem _ List.mem_cons_self) ?_
    refine ⟨a, d, _, [(f, _)], [], rfl, rfl, by simp, ?_⟩
    refine ⟨_, List.mem_cons_self, by rw [List.take_length]; (first | lia | omega), ?_⟩
    refine ⟨_, _, .same (List.Sublist.cons _ (List.Sublist.refl _)), ?_, ?_⟩
    · show V.bytes (s.take s.length) = _
      rw [List.take_length]
    · rw [put_at, List.take_length, hql, show (((p + 1 + (qBody s).length : Nat) : Int) + 1) = ((p + ((qBody s).length + 2) : Nat) : Int) by (first | lia | omega)]; try rfl
end
end Mine
end

section
open PySem PySem.W PyProof.Rows PySem.Calls
namespace Mine

/-- a literal, with or without its plus -/
noncomputable def litS (plus : Bool) (s : List UInt8) : List UInt8 := 123 :: (textB (figs s.length) ++ ((if plus then [43] else []) ++ ([125, 13, 10] ++ s)))
theorem litS_len (plus : Bool) (s : List UInt8) : (litS plus s).length = (figs s.length).length + (if plus then 1 else 0) + s.length + 4 := by
  unfold litS; cases plus <;> simp [textB] <;> (first | lia | omega)

section
variable {X : Cx} {k : Nat}
set_option maxHeartbeats 2000000 in
theorem ct_literal (a d : Addr) (l : List UInt8) (p : Nat) (plus : Bool) (s post : List UInt8) (hl : l.length ≤ 1000000) (hs : s.length < 10 ^ 10) (h : l.drop p = litS plus s ++ post) :
    CT X (k + 3) (.ref 302) [.raw (.ref a)] [(a, wireM d l p)] (fun v O => v = .bytes s ∧ O = [(a, wireM d l (p + (litS plus s).length))]) False := by
  have hL : l.length ≤ 16777216 := by (first | lia | omega)
  have hlen : p + (litS plus s).length ≤ l.length := drop_len h (by simp [litS])
  have hfp := figs_pos s.length
  have hfl : (figs s.length).length ≤ 10 := (figs_len (by decide)).mpr hs
  have hll := litS_len plus s
  have tl : (textB (figs s.length)).length = (figs s.length).length := by simp [textB]
  have hd1 : l.drop (p + 1) = textB (figs s.length) ++ ((if plus then [43] else []) ++ ([125, 13, 10] ++ (s ++ post))) := by
    refine drop_one (c := 123) ?_
    rw [h]; simp [litS]
  have htw : (l.drop (p + 1)).takeWhile isFigB = textB (figs s.length) := by
    rw [hd1]
    refine takeWhile_pre (fun c hc => (isFig_iff c).mpr (textB_dig (fun c hc => figs_dig hc) c hc)) (fun c hc => ?_)
    cases plus <;> simp at hc <;> subst hc <;> decide
  have hrn : runN isFigB l (p + 1) = (figs s.length).length := by unfold runN; rw [htw, tl]
  have hd2 : l.drop (p + 1 + (figs s.length).length) = (if plus then [43] else []) ++ ([125, 13, 10] ++ (s ++ post)) := drop_more hd1 tl
  have hsk : skipB l (p + 1 + (figs s.length).length) [43] = plus := by
    unfold skipB; rw [hd2]; cases plus <;> rfl
  have hd3 : l.drop (p + 1 + (figs s.length).length + (if plus then 1 else 0)) = [125, 13, 10] ++ (s ++ post) := drop_more hd2 (by cases plus <;> rfl)
  have hd4 := drop_more hd3 (n := 3) rfl
  generalize hq : p + 1 + (figs s.length).length + (if plus then 1 else 0) = q at hd3 hd4
  refine ct_def (dargs := []) (dvals := []) [Str.ofString "self"] [0] (fun P => rfl) (fun P => by kernel_rfl) (fun s P vals _ hl => ?bind) .nil (by decide +kernel) (by decide +kernel) rfl ?_
  case bind => obtain ⟨a, rfl⟩ := len1 hl; exact BindsTo.of_eq rfl
  refine ⟨_, fun L cells => (ts_cons (ts_expr (te_methi 360 218 (te_loc 0 rfl) meth_need (cw_keep fun P => by kernel_rfl) (ta_cons (te_bytes) (ta_cons (te_str rfl) ta_nil)))) (ts_cons (ts_assign (te_methi 360 239 (te_loc 0 rfl) meth_run (cw_keep fun P => by kernel_rfl) (ta_cons (te_glob 4 rfl (fun P => by kernel_rfl) (.raw (.ref 161))) ta_nil)) (st_loc 1 rfl)) (ts_cons (ts_if (tt_bool (tts_or (tt_cmp (te_callb (te_bltn 5 rfl (fun P => by kernel_rfl) rfl (by decide)) (ta_cons (te_loc 1 rfl) ta_nil) tf_len) (te_int) tb_eq) (tts_or (tt_cmp (te_callb (te_bltn 5 rfl (fun P => by kernel_rfl) rfl (by decide)) (ta_cons (te_loc 1 rfl) ta_nil) tf_len) (te_glob 6 rfl (fun P => by kernel_rfl) (.int 10 313)) tb_gt) tts_or_nil))) (ts_cons (ts_raise (te_methi 360 197 (te_loc 0 rfl) meth_fault (cw_keep fun P => by kernel_rfl) (ta_cons (te_str rfl) ta_nil))) ts_nil) ts_nil) (ts_cons (ts_expr (te_methi 360 211 (te_loc 0 rfl) meth_skip (cw_keep fun P => by kernel_rfl) (ta_cons (te_bytes) ta_nil))) (ts_cons (ts_expr (te_methi 360 218 (te_loc 0 rfl) meth_need (cw_keep fun P => by kernel_rfl) (ta_cons (te_bin (te_bytes) (te_glob 7 rfl (fun P => by kernel_rfl) (.bytes [13, 10] 270)) tb_add) (ta_cons (te_str rfl) ta_nil)))) (ts_cons (ts_assign (te_bin (te_attr 360 (te_loc 0 rfl) attr_at) (te_callt (te_glob 8 rfl (fun P => by kernel_rfl) (.raw (.ref 168))) (cw_keep fun P => by kernel_rfl) (ta_cons (te_loc 1 rfl) ta_nil)) tb_add) (st_loc 2 rfl)) (ts_cons (ts_if (tt_cmp (te_loc 2 rfl) (te_callb (te_bltn 5 rfl (fun P => by kernel_rfl) rfl (by decide)) (ta_cons (te_attr 360 (te_loc 0 rfl) attr_data) ta_nil) tf_len) tb_gt) (ts_cons (ts_raise (te_methi 360 197 (te_loc 0 rfl) meth_fault (cw_keep fun P => by kernel_rfl) (ta_cons (te_str rfl) ta_nil))) ts_nil) ts_nil) (ts_cons (ts_assign (te_bslice (te_attr 360 (te_loc 0 rfl) attr_data) (te_attr 360 (te_loc 0 rfl) attr_at) (te_loc 2 rfl)) (st_loc 3 rfl)) (ts_cons (ts_setattr 360 (te_loc 2 rfl) (te_loc 0 rfl) set_at) (ts_cons (ts_ret (te_callb (te_bltn 9 rfl (fun P => by kernel_rfl) rfl (by decide)) (ta_cons (te_loc 3 rfl) ta_nil) tf_bytes)) ts_nil)))))))))), ?_⟩
  first | refine wme_of rfl List.mem_cons_self ?_ | refine wmk_of List.mem_cons_self ?_
  refine wct1 (ct_need (k := k) a d l p [123] _ hL (by decide) (by unfold skipB; rw [h]; simp [litS])) ?_
  first | refine wme_of rfl List.mem_cons_self ?_ | refine wmk_of List.mem_cons_self ?_
  have hrun := ct_run (X := X) (k := k + 1) a d l (p + 1) 161 isFigB hL (cw_keep fun P => by kernel_rfl) (fun c => ct_is_figure (c.toNat : Int))
  rw [htw, hrn] at hrun
  refine wct1 hrun ?_
  refine wloc_of rfl ?_
  refine ⟨by rw [tl]; (first | lia | omega), ?_⟩
  refine feqi_of (EV := False) (b := false) (beq_eq_false_iff_ne.mpr (by rw [tl]; (first | lia | omega))) ?_
  refine kif_f ?_
  refine wloc_of rfl ?_
  refine ⟨by rw [tl]; (first | lia | omega), ?_⟩
  refine fcmp_of (r := fun a b => decide (b < a)) (EV := False) (b := false) (decide_eq_false (by rw [tl]; (first | lia | omega))) ?_
  refine kif_f ?_
  first | refine wme_of rfl List.mem_cons_self ?_ | refine wmk_of List.mem_cons_self ?_
  have hskip := ct_skip (X := X) (k := k + 1) a d l (p + 1 + (figs s.length).length) [43] hL (by decide)
  rw [hsk] at hskip
  refine wct1 hskip ?_
  have ep : (if plus = true then p + 1 + (figs s.length).length + [(43 : UInt8)].length else p + 1 + (figs s.length).length) = q := by
    rw [← hq]; cases plus <;> rfl
  rw [ep]
  first | refine wme_of rfl List.mem_cons_self ?_ | refine wmk_of List.mem_cons_self ?_
  refine ⟨by decide, ?_⟩
  refine wct1 (ct_need (k := k) a d l q ([125] ++ [13, 10]) _ hL (by decide) (by unfold skipB; rw [hd3]; simp)) ?_
  refine wat_of rfl List.mem_cons_self ?_
  refine wloc_of rfl ?_
  refine wct0 ((ct_number_of_figures (k := k) _).up (by (first | lia | omega))) ?_
  rw [numF_figs]
  refine fadd_i ?_
  refine wloc_of rfl ?_
  refine wdata_of rfl List.mem_cons_self ?_
  refine ⟨hL, ?_⟩
  have eend : (((q + ([125] ++ [13, 10] : List UInt8).length : Nat) : Int) + (s.length : Int)) = ((q + 3 + s.length : Nat) : Int) := by simp
  have hle : q + 3 + s.length = p + (litS plus s).length := by rw [hll, ← hq]; cases plus <;> simp <;> (first | lia | omega)
  refine fcmp_of (r := fun a b => decide (b < a)) (EV := False) (b := false) (decide_eq_false (by rw [eend]; (first | lia | omega))) ?_
  refine kif_f ?_
  refine wdata_of rfl List.mem_cons_self ?_
  refine wat_of rfl List.mem_cons_self ?_
  refine wloc_of rfl ?_
  refine ⟨l, _, _, rfl, rfl, rfl, by (first | lia | omega), by rw [eend]; (first | lia | omega), hL, ?_⟩
  refine wloc_of rfl ?_
  refine ⟨a, d, _, [], [], rfl, rfl, by simp, ?_⟩
  refine wloc_of rfl ?_
  refine ret1 ⟨?_, ?_⟩
  · show V.bytes (sliceB l _ _) = _
    rw [show (((q + ([125] ++ [13, 10] : List UInt8).length : Nat) : Int)) = ((q + 3 : Nat) : Int) from rfl, slice_at, hd4]
    simp
  · rw [put_at, eend, hle]; rfl
end
end Mine
end

section
open PySem PySem.W PyProof.Rows PySem.Calls
namespace Mine

section
variable {X : Cx} {k : Nat}
/-- `Wire.string`, at a quote -/
theorem ct_string_q (hb : X.b = true) (a d : Addr) (l : List UInt8) (p : Nat) (s post : List UInt8) (hl : l.length ≤ 1000000) (hs : okQ s) (h : l.drop p = quotedB s ++ post) :
    CT X (k + 4) (.ref 309) [.raw (.ref a)] [(a, wireM d l p)] (fun v O => v = .bytes s ∧ O = [(a, wireM d l (p + (quotedB s).length))]) False := by
  refine ct_def (dargs := []) (dvals := []) [Str.ofString "self"] [0] (fun P => rfl) (fun P => by kernel_rfl) (fun s P vals _ hl => ?bind) .nil (by decide +kernel) (by decide +kernel) rfl ?_
  case bind => obtain ⟨a, rfl⟩ := len1 hl; exact BindsTo.of_eq rfl
  refine ⟨_, fun L cells => (ts_cons (ts_ret (te_ifexp (tt_cmp (te_methi 360 204 (te_loc 0 rfl) meth_peek (cw_keep fun P => by kernel_rfl) ta_nil) (te_int) tb_eq) (te_methi 360 302 (te_loc 0 rfl) meth_literal (cw_keep fun P => by kernel_rfl) ta_nil) (te_methi 360 295 (te_loc 0 rfl) meth_quoted (cw_keep fun P => by kernel_rfl) ta_nil))) ts_nil), ?_⟩
  first | refine wme_of rfl List.mem_cons_self ?_ | refine wmk_of List.mem_cons_self ?_
  have pk := ct_peek (X := X) (k := k + 2) a d l p (by (first | lia | omega))
  rw [peek_drop (c := 34) (r := qBody s ++ [34] ++ post) (by rw [h]; simp [quotedB])] at pk
  refine wct1 pk ?_
  refine feqi_of (EV := False) (b := false) rfl ?_
  refine kif_f ?_
  first | refine wme_of rfl List.mem_cons_self ?_ | refine wmk_of List.mem_cons_self ?_
  refine wct1 (ct_quoted (k := k) hb a d l p s post hl hs h) ?_
  exact ret1 ⟨rfl, rfl⟩
/-- `Wire.string`, at a literal -/
theorem ct_string_l (a d : Addr) (l : List UInt8) (p : Nat) (plus : Bool) (s post : List UInt8) (hl : l.length ≤ 1000000) (hs : s.length < 10 ^ 10) (h : l.drop p = litS plus s ++ post) :
    CT X (k + 4) (.ref 309) [.raw (.ref a)] [(a, wireM d l p)] (fun v O => v = .bytes s ∧ O = [(a, wireM d l (p + (litS plus s).length))]) False := by
  refine ct_def (dargs := []) (dvals := []) [Str.ofString "self"] [0] (fun P => rfl) (fun P => by kernel_rfl) (fun s P vals _ hl => ?bind) .nil (by decide +kernel) (by decide +kernel) rfl ?_
  case bind => obtain ⟨a, rfl⟩ := len1 hl; exact BindsTo.of_eq rfl
  refine ⟨_, fun L cells => (ts_cons (ts_ret (te_ifexp (tt_cmp (te_methi 360 204 (te_loc 0 rfl) meth_peek (cw_keep fun P => by kernel_rfl) ta_nil) (te_int) tb_eq) (te_methi 360 302 (te_loc 0 rfl) meth_literal (cw_keep fun P => by kernel_rfl) ta_nil) (te_methi 360 295 (te_loc 0 rfl) meth_quoted (cw_keep fun P => by kernel_rfl) ta_nil))) ts_nil), ?_⟩
  first | refine wme_of rfl List.mem_cons_self ?_ | refine wmk_of List.mem_cons_self ?_
  have pk := ct_peek (X := X) (k := k + 2) a d l p (by (first | lia | omega))
  rw [peek_drop (c := 123) (r := textB (figs s.length) ++ ((if plus then [43] else []) ++ ([125, 13, 10] ++ s)) ++ post) (by rw [h]; simp [litS])] at pk
  refine wct1 pk ?_
  refine feqi_of (EV := False) (b := true) rfl ?_
  refine kif_t ?_
  first | refine wme_of rfl List.mem_cons_self ?_ | refine wmk_of List.mem_cons_self ?_
  refine wct1 (ct_literal (k := k) a d l p plus s post hl hs h) ?_
  exact ret1 ⟨rfl, rfl⟩

theorem ct_atom_init (x dx : Addr) (l : List Nat) : CT X (k + 1) (.ref 114) [.raw (.ref x), .str l] [(x, .inst 124 dx [])] (fun v O' => v = .none ∧ O' = [(x, .inst 124 dx [(Str.ofString "text", .str l)])]) False := by
  refine ct_def (dargs := []) (dvals := []) [Str.ofString "self", Str.ofString "text"] [0, 1] (fun P => rfl) (fun P => by kernel_rfl) (fun s P vals _ hl => ?bind) .nil (by decide +kernel) (by decide +kernel) rfl ?_
  case bind => obtain ⟨a, b, rfl⟩ := len2 hl; exact BindsTo.of_eq rfl
  refine ⟨_, fun L cells => (ts_cons (ts_setattr 124 (te_loc 1 rfl) (te_loc 0 rfl) set_text) ts_nil), ?_⟩
  refine wloc_of rfl ?_
  refine ⟨x, dx, _, [], [], rfl, rfl, by simp, ?_⟩
  exact ret1 ⟨rfl, rfl⟩
theorem ct_Atom (l : List Nat) : CT X (k + 2) (.ref 124) [.str l] [] (fun v O' => v = .atom l ∧ O' = []) False := ct_atom fun x dx => ct_atom_init x dx l

noncomputable def nilB : List UInt8 := [110, 105, 108]
noncomputable def isValB (c : UInt8) : Bool := isValI (c.toNat : Int)
noncomputable def plainT (t : T) (s : List UInt8) : Prop :=
  (lowerB s = nilB ∧ t = .nil) ∨ (lowerB s ≠ nilB ∧ s.all isFigB = true ∧ s.length ≤ 19 ∧ ∃ n : Nat, t = .num n ∧ numF s = (n : Int)) ∨ (lowerB s ≠ nilB ∧ s.all isFigB = false ∧ t = .atom (byteT s))
theorem isVal_lt {c : UInt8} (h : isValB c = true) : c.toNat ≤ 126 := by
  unfold isValB isValI at h; simp at h; omega

set_option maxHeartbeats 2000000 in
theorem ct_plain_value (a d : Addr) (l : List UInt8) (p : Nat) (t : T) (s post : List UInt8) (hl : l.length ≤ 1000000) (hne : s ≠ []) (hs : ∀ c ∈ s, isValB c = true) (hp : ∀ c, post.head? = some c → isValB c = false) (ht : plainT t s) (h : l.drop p = s ++ post) :
    CT X (k + 4) (.ref 349) [.raw (.ref a)] [(a, wireM d l p)] (fun v O => v = t.toV ∧ O = [(a, wireM d l (p + s.length))]) False := by
  have hL : l.length ≤ 16777216 := by (first | lia | omega)
  have hlen := drop_len h hne
  have hpos : 0 < s.length := List.length_pos_iff.mpr hne
  have htw : (l.drop p).takeWhile isValB = s := by rw [h]; exact takeWhile_pre hs hp
  have hrn : runN isValB l p = s.length := by unfold runN; rw [htw]
  refine ct_def (dargs := []) (dvals := []) [Str.ofString "self"] [0] (fun P => rfl) (fun P => by kernel_rfl) (fun s P vals _ hl => ?bind) .nil (by decide +kernel) (by decide +kernel) rfl ?_
  case bind => obtain ⟨a, rfl⟩ := len1 hl; exact BindsTo.of_eq rfl
  refine ⟨_, fun L cells => (ts_cons (ts_assign (te_attr 360 (te_loc 0 rfl) attr_at) (st_loc 1 rfl)) (ts_cons (ts_assign (te_methi 360 239 (te_loc 0 rfl) meth_run (cw_keep fun P => by kernel_rfl) (ta_cons (te_glob 3 rfl (fun P => by kernel_rfl) (.raw (.ref 154))) ta_nil)) (st_loc 2 rfl)) (ts_cons (ts_if (tt_cmp (te_callb (te_bltn 4 rfl (fun P => by kernel_rfl) rfl (by decide)) (ta_cons (te_loc 2 rfl) ta_nil) tf_len) (te_int) tb_eq) (ts_cons (ts_raise (te_methi 360 197 (te_loc 0 rfl) meth_fault (cw_keep fun P => by kernel_rfl) (ta_cons (te_str rfl) ta_nil))) ts_nil) ts_nil) (ts_cons (ts_if (tt_cmp (te_callt (te_glob 5 rfl (fun P => by kernel_rfl) (.raw (.ref 85))) (cw_keep fun P => by kernel_rfl) (ta_cons (te_loc 2 rfl) ta_nil)) (te_bytes) tb_eq) (ts_cons (ts_ret (te_none)) ts_nil) ts_nil) (ts_cons (ts_if (tt_val (te_callb (te_bltn 6 rfl (fun P => by kernel_rfl) rfl (by decide)) (ta_cons (te_comp [] 1 (te_loc 2 rfl) (by kernel_rfl) (fun _ hc => tifs_nil) (fun _ hc => te_callt (te_glob 2 (by rw [hc]; rfl) (fun P => by kernel_rfl) (.raw (.ref 161))) (cw_keep fun P => by kernel_rfl) (ta_cons (te_loc 1 (by rw [hc]; rfl)) ta_nil))) ta_nil) tf_all)) (ts_cons (ts_if (tt_cmp (te_callb (te_bltn 4 rfl (fun P => by kernel_rfl) rfl (by decide)) (ta_cons (te_loc 2 rfl) ta_nil) tf_len) (te_glob 7 rfl (fun P => by kernel_rfl) (.int 19 311)) tb_gt) (ts_cons (ts_raise (te_callt (te_glob 8 rfl (fun P => by kernel_rfl) (.raw (.ref 71))) (cw_keep fun P => by kernel_rfl) (ta_cons (te_str rfl) (ta_cons (te_loc 1 rfl) ta_nil)))) ts_nil) ts_nil) (ts_cons (ts_ret (te_callt (te_glob 9 rfl (fun P => by kernel_rfl) (.raw (.ref 168))) (cw_keep fun P => by kernel_rfl) (ta_cons (te_loc 2 rfl) ta_nil))) ts_nil)) ts_nil) (ts_cons (ts_ret (te_callt (te_glob 10 rfl (fun P => by kernel_rfl) (.raw (.ref 124))) (cw_keep fun P => by kernel_rfl) (ta_cons (te_callt (te_glob 11 rfl (fun P => by kernel_rfl) (.raw (.ref 95))) (cw_keep fun P => by kernel_rfl) (ta_cons (te_loc 2 rfl) ta_nil)) ta_nil))) ts_nil)))))), ?_⟩
  refine wat_of rfl List.mem_cons_self ?_
  first | refine wme_of rfl List.mem_cons_self ?_ | refine wmk_of List.mem_cons_self ?_
  have hrun := ct_run (X := X) (k := k + 2) a d l p 154 isValB hL (cw_keep fun P => by kernel_rfl) (fun c => by
    have := c.toNat_lt
    exact ct_is_value_code (k := k) (c.toNat : Int) (by (first | lia | omega)) (by (first | lia | omega)))
  rw [htw, hrn] at hrun
  refine wct1 hrun ?_
  refine wloc_of rfl ?_
  refine ⟨by (first | lia | omega), ?_⟩
  refine feqi_of (EV := False) (b := false) (beq_eq_false_iff_ne.mpr (by (first | lia | omega))) ?_
  refine kif_f ?_
  refine wloc_of rfl ?_
  refine wct0 ((ct_lower (k := k + 1) s (by (first | lia | omega)))) ?_
  rcases ht with ⟨h1, rfl⟩ | ⟨h1, h2, h3, n, rfl, h4⟩ | ⟨h1, h2, rfl⟩
  · refine feqb_of (EV := False) (b := true) (by rw [h1]; rfl) ?_
    refine kif_t ?_
    exact ret1 ⟨rfl, rfl⟩
  · refine feqb_of (EV := False) (b := false) (beq_eq_false_iff_ne.mpr h1) ?_
    refine kif_f ?_
    refine wloc_of rfl ?_
    refine ⟨_, rfl, by simpa using (by (first | lia | omega) : s.length ≤ 16777216), ?_⟩
    refine compGo_map (loc0 := [none, none, none]) (f := fun v => match v with | .int n => .bool (decide (48 ≤ n) && decide (n ≤ 57)) | v => v) _ (fun v hv Q h => ?_) _ _ _ (fun v => rfl) ?_
    · obtain ⟨c, hc, rfl⟩ := List.mem_map.mp hv
      refine wloc_of rfl ?_
      refine wct0 ((ct_is_figure (k := k) _).up (by (first | lia | omega))) ?_
      exact h
    refine ⟨s.map isFigB, by simp [isFigB], ?_⟩
    have eall : (s.map isFigB).all id = s.all isFigB := by rw [List.all_map]; rfl
    rw [eall, h2]
    refine bif_t ?_
    refine wloc_of rfl ?_
    refine ⟨by (first | lia | omega), ?_⟩
    refine fcmp_of (r := fun a b => decide (b < a)) (EV := False) (b := false) (decide_eq_false (by (first | lia | omega))) ?_
    refine kif_f ?_
    refine wloc_of rfl ?_
    refine wct0 ((ct_number_of_figures (k := k) _).up (by (first | lia | omega))) ?_
    rw [h4]
    exact ret1 ⟨rfl, rfl⟩
  · refine feqb_of (EV := False) (b := false) (beq_eq_false_iff_ne.mpr h1) ?_
    refine kif_f ?_
    refine wloc_of rfl ?_
    refine ⟨_, rfl, by simpa using (by (first | lia | omega) : s.length ≤ 16777216), ?_⟩
    refine compGo_map (loc0 := [none, none, none]) (f := fun v => match v with | .int n => .bool (decide (48 ≤ n) && decide (n ≤ 57)) | v => v) _ (fun v hv Q h => ?_) _ _ _ (fun v => rfl) ?_
    · obtain ⟨c, hc, rfl⟩ := List.mem_map.mp hv
      refine wloc_of rfl ?_
      refine wct0 ((ct_is_figure (k := k) _).up (by (first | lia | omega))) ?_
      exact h
    refine ⟨s.map isFigB, by simp [isFigB], ?_⟩
    have eall : (s.map isFigB).all id = s.all isFigB := by rw [List.all_map]; rfl
    rw [eall, h2]
    refine bif_f ?_
    refine wloc_of rfl ?_
    refine wct0 ((ct_ascii_text (k := k) s (fun c hc => by have := isVal_lt (hs c hc); (first | lia | omega)) (by (first | lia | omega))).up (by (first | lia | omega))) ?_
    refine wct0 ((ct_Atom (k := k) _).up (by (first | lia | omega))) ?_
    exact ret1 ⟨rfl, rfl⟩
end
end Mine
end

section
open PySem PySem.W PyProof.Rows PySem.Calls
namespace Mine

theorem tk_what : ∀ P : Params, takerIn (hd.heap_39 P) 71 "what" = some none := fun P => by kernel_rfl
theorem tk_at : ∀ P : Params, takerIn (hd.heap_39 P) 71 "at" = some none := fun P => by kernel_rfl
section
variable {X : Cx} {k : Nat}
theorem ct_post_init (x : Addr) (w : V) (n : Int) : CT X (k + 1) (.ref 36) [.raw (.ref x), w, .int n] [(x, .exc none [])] (fun v O => v = .none ∧ ∃ od fs, O = [(x, .exc od fs)]) False := by
  refine ct_def (dargs := []) (dvals := []) [Str.ofString "self", Str.ofString "what", Str.ofString "at"] [0, 1, 2] (fun P => rfl) (fun P => by kernel_rfl) (fun s P vals hK hl => ?bind) .nil (by decide +kernel) (by decide +kernel) rfl ?_
  case bind => obtain ⟨a, b, c, rfl⟩ := len3 hl; exact binds_K (o := { cls := .type "tuple", data := .seq #[.int (-1) 209] }) (items := #[.int (-1) 209]) hK rfl (by kernel_rfl) rfl rfl rfl
  refine ⟨_, fun L cells => (ts_cons (ts_expr (te_excInit (te_bltn 3 rfl (fun P => by kernel_rfl) rfl (by decide)) (ta_cons (te_loc 0 rfl) (ta_cons (te_loc 1 rfl) ta_nil)))) (ts_cons (ts_setexc (te_loc 1 rfl) (te_loc 0 rfl) (set_exc _ tk_what)) (ts_cons (ts_setexc (te_loc 2 rfl) (te_loc 0 rfl) (set_exc _ tk_at)) ts_nil))), ?_⟩
  refine wloc_of rfl ?_
  refine wloc_of rfl ?_
  first | refine ⟨Nat.le_of_ble_eq_true rfl, ⟨none, [], List.mem_cons_self⟩, ?_⟩ | refine ⟨by simp, ⟨none, [], List.mem_cons_self⟩, ?_⟩
  refine wloc_of rfl ?_
  refine wloc_of rfl ?_
  refine ⟨x, none, [], [], [], rfl, rfl, by simp, fun d => ?_⟩
  refine wloc_of rfl ?_
  refine wloc_of rfl ?_
  refine ⟨x, _, _, [], [], rfl, rfl, by simp [fsOf, putF], fun d => ?_⟩
  exact ret1 ⟨rfl, _, _, rfl⟩
theorem ct_post_init0 (x : Addr) (w : V) : CT X (k + 1) (.ref 36) [.raw (.ref x), w] [(x, .exc none [])] (fun v O => v = .none ∧ ∃ od fs, O = [(x, .exc od fs)]) False := by
  refine ct_def (dargs := [.int (-1)]) (dvals := [.int (-1) 209]) [Str.ofString "self", Str.ofString "what", Str.ofString "at"] [0, 1, 2] (fun P => rfl) (fun P => by kernel_rfl) (fun s P vals hK hl => ?bind) (.cons (.int _ _) .nil) (by decide +kernel) (by decide +kernel) rfl ?_
  case bind => obtain ⟨a, b, rfl⟩ := len2 hl; exact binds_K (o := { cls := .type "tuple", data := .seq #[.int (-1) 209] }) (items := #[.int (-1) 209]) hK rfl (by kernel_rfl) rfl rfl rfl
  refine ⟨_, fun L cells => (ts_cons (ts_expr (te_excInit (te_bltn 3 rfl (fun P => by kernel_rfl) rfl (by decide)) (ta_cons (te_loc 0 rfl) (ta_cons (te_loc 1 rfl) ta_nil)))) (ts_cons (ts_setexc (te_loc 1 rfl) (te_loc 0 rfl) (set_exc _ tk_what)) (ts_cons (ts_setexc (te_loc 2 rfl) (te_loc 0 rfl) (set_exc _ tk_at)) ts_nil))), ?_⟩
  refine wloc_of rfl ?_
  refine wloc_of rfl ?_
  first | refine ⟨Nat.le_of_ble_eq_true rfl, ⟨none, [], List.mem_cons_self⟩, ?_⟩ | refine ⟨by simp, ⟨none, [], List.mem_cons_self⟩, ?_⟩
  refine wloc_of rfl ?_
  refine wloc_of rfl ?_
  refine ⟨x, none, [], [], [], rfl, rfl, by simp, fun d => ?_⟩
  refine wloc_of rfl ?_
  refine wloc_of rfl ?_
  refine ⟨x, _, _, [], [], rfl, rfl, by simp [fsOf, putF], fun d => ?_⟩
  exact ret1 ⟨rfl, _, _, rfl⟩
/-- `WireFault(what)`, `WireFault(what, at)` -/
theorem ct_WireFault0 (w : V) : CT X (k + 2) (.ref 71) [w] [] (fun v O => ∃ x od fs, v = .raw (.ref x) ∧ O = [(x, .exc od fs)]) False :=
  ct_exc (k := k + 1) (fI := 36) (fun P => by kernel_rfl) (fun P => by kernel_rfl) (by simp) fun x => (ct_post_init0 x w).mono (fun v O ⟨h1, od, fs, h2⟩ => ⟨h1, fun _ => ⟨x, od, fs, rfl, h2⟩⟩) False.elim
theorem ct_WireFault (w : V) (n : Int) : CT X (k + 2) (.ref 71) [w, .int n] [] (fun v O => ∃ x od fs, v = .raw (.ref x) ∧ O = [(x, .exc od fs)]) False :=
  ct_exc (k := k + 1) (fI := 36) (fun P => by kernel_rfl) (fun P => by kernel_rfl) (by simp) fun x => (ct_post_init x w n).mono (fun v O ⟨h1, od, fs, h2⟩ => ⟨h1, fun _ => ⟨x, od, fs, rfl, h2⟩⟩) False.elim
theorem ct_fault (a d : Addr) (l : List UInt8) (p : Nat) (w : V) : CT X (k + 3) (.ref 197) [.raw (.ref a), w] [(a, wireM d l p)] (fun v O => ∃ x od fs, v = .raw (.ref x) ∧ O = [(a, wireM d l p), (x, .exc od fs)]) False := by
  refine ct_def (dargs := []) (dvals := []) [Str.ofString "self", Str.ofString "what"] [0, 1] (fun P => rfl) (fun P => by kernel_rfl) (fun s P vals _ hl => ?bind) .nil (by decide +kernel) (by decide +kernel) rfl ?_
  case bind => obtain ⟨a, b, rfl⟩ := len2 hl; exact BindsTo.of_eq rfl
  refine ⟨_, fun L cells => (ts_cons (ts_ret (te_callt (te_glob 2 rfl (fun P => by kernel_rfl) (.raw (.ref 71))) (cw_keep fun P => by kernel_rfl) (ta_cons (te_loc 1 rfl) (ta_cons (te_attr 360 (te_loc 0 rfl) attr_at) ta_nil)))) ts_nil), ?_⟩
  refine wloc_of rfl ?_
  refine wat_of rfl List.mem_cons_self ?_
  refine wctF [(a, wireM d l p)] [] [] (ct_WireFault (k := k) w _) False.elim fun v O' h => ?_
  obtain ⟨x, od, fs, rfl, rfl⟩ := h
  exact ret1 ⟨x, od, fs, rfl, rfl⟩
/-- `Wire(data)`, `Wire(data, at)` -/
theorem ct_wire_init (x dx : Addr) (l : List UInt8) (n : Nat) : CT X (k + 1) (.ref 190) [.raw (.ref x), .bytes l, .int n] [(x, .inst 360 dx [])] (fun v O => v = .none ∧ O = [(x, wireM dx l n)]) False := by
  refine ct_def (dargs := []) (dvals := []) [Str.ofString "self", Str.ofString "data", Str.ofString "at"] [0, 1, 2] (fun P => rfl) (fun P => by kernel_rfl) (fun s P vals hK hl => ?bind) .nil (by decide +kernel) (by decide +kernel) rfl ?_
  case bind => obtain ⟨a, b, c, rfl⟩ := len3 hl; exact binds_K (o := { cls := .type "tuple", data := .seq #[.int 0 419] }) (items := #[.int 0 419]) hK rfl (by kernel_rfl) rfl rfl rfl
  refine ⟨_, fun L cells => (ts_cons (ts_setattr 360 (te_loc 1 rfl) (te_loc 0 rfl) set_data) (ts_cons (ts_setattr 360 (te_loc 2 rfl) (te_loc 0 rfl) set_at) ts_nil)), ?_⟩
  refine wloc_of rfl ?_
  refine ⟨x, dx, _, [], [], rfl, rfl, by simp, ?_⟩
  refine wloc_of rfl ?_
  refine ⟨x, dx, _, [], [], rfl, rfl, by simp [putF], ?_⟩
  exact ret1 ⟨rfl, rfl⟩
theorem ct_wire_init0 (x dx : Addr) (l : List UInt8) : CT X (k + 1) (.ref 190) [.raw (.ref x), .bytes l] [(x, .inst 360 dx [])] (fun v O => v = .none ∧ O = [(x, wireM dx l 0)]) False := by
  refine ct_def (dargs := [.int 0]) (dvals := [.int 0 419]) [Str.ofString "self", Str.ofString "data", Str.ofString "at"] [0, 1, 2] (fun P => rfl) (fun P => by kernel_rfl) (fun s P vals hK hl => ?bind) (.cons (.int _ _) .nil) (by decide +kernel) (by decide +kernel) rfl ?_
  case bind => obtain ⟨a, b, rfl⟩ := len2 hl; exact binds_K (o := { cls := .type "tuple", data := .seq #[.int 0 419] }) (items := #[.int 0 419]) hK rfl (by kernel_rfl) rfl rfl rfl
  refine ⟨_, fun L cells => (ts_cons (ts_setattr 360 (te_loc 1 rfl) (te_loc 0 rfl) set_data) (ts_cons (ts_setattr 360 (te_loc 2 rfl) (te_loc 0 rfl) set_at) ts_nil)), ?_⟩
  refine wloc_of rfl ?_
  refine ⟨x, dx, _, [], [], rfl, rfl, by simp, ?_⟩
  refine wloc_of rfl ?_
  refine ⟨x, dx, _, [], [], rfl, rfl, by simp [putF], ?_⟩
  exact ret1 ⟨rfl, rfl⟩
theorem ct_Wire (l : List UInt8) (n : Nat) : CT X (k + 2) (.ref 360) [.bytes l, .int n] [] (fun v O => ∃ x dx, v = .raw (.ref x) ∧ O = [(x, wireM dx l n)]) False :=
  ct_make (C := 360) (fI := 190) (fun P => by kernel_rfl) (fun P => by kernel_rfl) (fun P => by kernel_rfl) fun x dx => (ct_wire_init x dx l n).mono (fun v O' q => ⟨q.1, fun _ => ⟨x, dx, rfl, q.2⟩⟩) False.elim
theorem ct_Wire0 (l : List UInt8) : CT X (k + 2) (.ref 360) [.bytes l] [] (fun v O => ∃ x dx, v = .raw (.ref x) ∧ O = [(x, wireM dx l 0)]) False :=
  ct_make (C := 360) (fI := 190) (fun P => by kernel_rfl) (fun P => by kernel_rfl) (fun P => by kernel_rfl) fun x dx => (ct_wire_init0 x dx l).mono (fun v O' q => ⟨q.1, fun _ => ⟨x, dx, rfl, q.2⟩⟩) False.elim
end
end Mine
end

section
open PySem PySem.W PyProof.Rows PySem.Calls
namespace Mine

noncomputable def atomOK (l : List Nat) : Prop := l ≠ [] ∧ l.length ≤ 1000 ∧ (∀ c ∈ l, c < 127 ∧ isValI (c : Int) = true) ∧ (textB l).all isFigB = false ∧ lowerB (textB l) ≠ nilB

mutual
/-- the spellings of a value -/
inductive Sp : T → List UInt8 → Prop where
  | nil {s : List UInt8} : s ∈ ([[78, 73, 76], [110, 105, 108], [78, 105, 108], [110, 73, 76]] : List (List UInt8)) → Sp .nil s
  | num {n z : Nat} : z + (figs n).length ≤ 19 → Sp (.num n) (List.replicate z 48 ++ textB (figs n))
  | quo {s : List UInt8} : okQ s → Sp (.str s) (quotedB s)
  | lit {s : List UInt8} (plus : Bool) : s.length < 10 ^ 10 → Sp (.str s) (litS plus s)
  | atom {l : List Nat} : atomOK l → Sp (.atom l) (textB l)
  | list {ts : List T} {ss : List (List UInt8)} : Sps ts ss → Sp (.list ts) (40 :: (joinB [32] ss ++ [41]))
inductive Sps : List T → List (List UInt8) → Prop where
  | nil : Sps [] []
  | cons {t : T} {ts : List T} {s : List UInt8} {ss : List (List UInt8)} : Sp t s → Sps ts ss → Sps (t :: ts) (s :: ss)
end

noncomputable def isPlain : T → Bool
  | .nil | .num _ | .atom _ => true
  | _ => false

theorem fig_val {c : UInt8} (h : 48 ≤ c.toNat ∧ c.toNat ≤ 57) : isValB c = true := by
  have : ∀ n : Fin 256, 48 ≤ n.val ∧ n.val ≤ 57 → isValI (n.val : Int) = true := by decide
  exact this ⟨c.toNat, c.toNat_lt⟩ h
theorem val_not {c : UInt8} (h : isValB c = true) : c ≠ 34 ∧ c ≠ 123 ∧ c ≠ 40 ∧ c ≠ 41 := by
  refine ⟨?_, ?_, ?_, ?_⟩ <;> · rintro rfl; exact absurd h (by decide)
theorem byteT_textB {l : List Nat} (h : ∀ c ∈ l, c < 256) : byteT (textB l) = l := by
  unfold byteT textB
  rw [List.map_map]
  conv => rhs; rw [← List.map_id l]
  refine List.map_congr_left fun c hc => ?_
  have := h c hc
  simp; omega
theorem lower_dig {s : List UInt8} (h : ∀ c ∈ s, 48 ≤ c.toNat ∧ c.toNat ≤ 57) : lowerB s ≠ nilB := by
  intro e
  have : (110 : UInt8) ∈ lowerB s := by rw [e]; decide
  obtain ⟨c, hc, he⟩ := List.mem_map.mp this
  have := h c hc
  unfold lowerI at he
  rw [if_neg (by (first | lia | omega))] at he
  have : c = 110 := by simpa using he
  subst this
  revert this; simp_all
theorem Sp.plain {t : T} {s : List UInt8} (h : Sp t s) (hp : isPlain t = true) : s ≠ [] ∧ (∀ c ∈ s, isValB c = true) ∧ plainT t s := by
  cases h with
  | nil h =>
    simp only [List.mem_cons, List.not_mem_nil, or_false] at h
    rcases h with rfl | rfl | rfl | rfl <;> exact ⟨by decide, by decide, .inl ⟨by decide +kernel, rfl⟩⟩
  | @num n z h =>
    have hd : ∀ c ∈ List.replicate z 48 ++ textB (figs n), 48 ≤ c.toNat ∧ c.toNat ≤ 57 := fun c hc => by
      rcases List.mem_append.mp hc with hc | hc
      · rw [List.eq_of_mem_replicate hc]; decide
      · exact textB_dig (fun c hc => figs_dig hc) c hc
    refine ⟨?_, fun c hc => fig_val (hd c hc), .inr (.inl ⟨lower_dig hd, ?_, ?_, n, rfl, ?_⟩)⟩
    · have := figs_pos n
      intro e
      have h3 := congrArg List.length e
      rw [List.length_append, textB, List.length_map] at h3
      simp only [List.length_nil] at h3; (first | lia | omega)
    · exact List.all_eq_true.mpr fun c hc => (isFig_iff c).mpr (hd c hc)
    · simp [textB]; (first | lia | omega)
    · rw [numF_zero, numF_figs]
  | @atom l h =>
    obtain ⟨h1, h2, h3, h4, h5⟩ := h
    refine ⟨?_, fun c hc => ?_, .inr (.inr ⟨h5, h4, ?_⟩)⟩
    · unfold textB; simpa using h1
    · obtain ⟨d, hd, rfl⟩ := List.mem_map.mp hc
      have := h3 d hd
      unfold isValB
      have e : (d.toUInt8.toNat : Int) = d := by simp; (first | lia | omega)
      rw [e]; exact this.2
    · rw [byteT_textB fun c hc => by have := h3 c hc; (first | lia | omega)]
  | quo _ => cases hp
  | lit _ _ => cases hp
  | list _ => cases hp
theorem Sp.head {t : T} {s : List UInt8} (h : Sp t s) : ∃ c r, s = c :: r ∧ c ≠ 41 ∧ c ≠ 32 := by
  cases t with
  | nil | num | atom => 
    obtain ⟨h1, h2, _⟩ := h.plain rfl
    cases s with
    | nil => exact absurd rfl h1
    | cons c r =>
      have hv := h2 c List.mem_cons_self
      exact ⟨c, r, rfl, (val_not hv).2.2.2, by rintro rfl; exact absurd hv (by decide)⟩
  | str =>
    cases h with
    | quo h => exact ⟨34, _, rfl, by decide, by decide⟩
    | lit _ _ => exact ⟨123, _, rfl, by decide, by decide⟩
  | list => cases h with | list h => exact ⟨40, _, rfl, by decide, by decide⟩
theorem Sps.length : ∀ {ts : List T} {ss : List (List UInt8)}, Sps ts ss → ts.length = ss.length
  | _, _, .nil => rfl
  | _, _, .cons _ h => by simp [h.length]

theorem wWhile_inv {dt : W Bool} {db : W FV} {EV : Prop} {QV : FV → St → Prop} (I : Nat → St → Prop) (J : St → Prop) (m : Nat)
    (hs : ∀ i σ (z : W FV) (Q : FV → St → Prop), i < m → I i σ → (∀ σ1, I (i + 1) σ1 → z Q EV σ1) → dt (kIf (wSeq db z) wNil Q EV) EV σ)
    (he : ∀ σ (z : W FV) (Q : FV → St → Prop), I m σ → (∀ σ1, J σ1 → Q .next σ1) → dt (kIf (wSeq db z) wNil Q EV) EV σ)
    (hq : ∀ σ, J σ → QV .next σ) : ∀ j i σ, i + j = m → I i σ → wWhile dt db (j + 1) QV EV σ
  | 0, i, σ, e, h => by
    have : i = m := by (first | lia | omega)
    subst this
    unfold wWhile
    exact he σ _ _ h hq
  | j + 1, i, σ, e, h => by
    unfold wWhile
    exact hs i σ _ _ (by (first | lia | omega)) h fun σ1 h1 => wWhile_inv I J m hs he hq j (i + 1) σ1 (by (first | lia | omega)) h1
end Mine
end

section
open PySem PySem.W PyProof.Rows PySem.Calls
namespace Mine

theorem Sps.joinlen {ts : List T} {ss : List (List UInt8)} (h : Sps ts ss) : ss.length ≤ (joinB [32] ss).length := by
  have go : ∀ {ts : List T} {ss : List (List UInt8)}, Sps ts ss → ss.length ≤ (ss.flatMap fun z => [32] ++ z).length := by
    intro ts ss h
    induction ss generalizing ts with
    | nil => simp
    | cons s r ih =>
      cases h with
      | cons h1 h2 =>
        have := ih h2
        simp only [List.flatMap_cons, List.length_append, List.length_cons, List.length_nil] at this ⊢
        (first | lia | omega)
  cases h with
  | nil => simp
  | cons h1 h2 =>
    obtain ⟨c, r, rfl, _⟩ := h1.head
    have := go h2
    unfold joinB
    simp only [List.length_append, List.length_cons] at this ⊢
    (first | lia | omega)

theorem T.deps_le {n : Nat} : ∀ {ts : List T}, (∀ u ∈ ts, u.dep ≤ n) → T.deps ts ≤ n
  | [], _ => Nat.zero_le _
  | t :: r, h => by rw [T.deps]; exact Nat.max_le.mpr ⟨h t List.mem_cons_self, T.deps_le fun u hu => h u (List.mem_cons_of_mem _ hu)⟩
section
variable {X : Cx} {k : Nat} {env : Env}
/-- a list that may change, apart from the others -/
noncomputable abbrev gListF (vs : List V) : W V := fun QV _ σ => vs.length ≤ 1000 ∧ ∀ a, a ∉ feet σ.objs → QV (.raw (.ref a)) { σ with objs := (a, .list vs) :: σ.objs }
theorem te_listf {elts : List Expr} {pos : Pos} {da : W (List V)} (ha : TA X k env elts da) :
    TE X k env (.List elts pos) (wArg da gListF) :=
  fun c A D σ s QV EV Q E hc P h O OE => by
    refine g_List (ha.2 pos c A D σ s _ EV _ E hc P h (fun vs vals D1 σ1 s1 R1 l1 hv q => ⟨?_, ?_⟩) OE)
    · rw [hv.length]; exact Nat.le_trans q.1 (by decide)
    · have hh := pushed s1.heap { cls := .type "list", data := .seq vals.toArray } rfl
      have R2 := Rel.new (P.to R1) (t' := s1.toks) (a := s1.heap.objs.size) (mo := .list vs) (h' := s1.heap.push { cls := .type "list", data := .seq vals.toArray }) ⟨vals, _, hh, hv⟩ (fun b hb => by rw [List.mem_singleton.mp hb]; exact none_at (Nat.le_refl _)) (List.nodup_cons.mpr ⟨List.not_mem_nil, List.nodup_nil⟩) fun b o e => Heap.get?_push_of_some _ e
      refine O _ _ D1 _ _ R2 l1 (.raw _) (q.2 _ fun hm => ?_)
      obtain ⟨o, e⟩ := R1.feet_ex s1.heap.objs.size (by unfold foot; simp [hm])
      exact absurd (Heap.lt_size e) (Nat.lt_irrefl _)
end
section
variable {X : Cx} {k : Nat}
set_option maxHeartbeats 4000000 in
theorem value_def {EV : Prop} {args dargs : List V} {dvals : List Value} (hb : X.b = true) (t : T) (s : List UInt8) (hsp : Sp t s) (a d : Addr) (l : List UInt8) (p dp : Nat) (post : List UInt8) (hl : l.length ≤ 1000000) (hpost : ∀ c, post.head? = some c → isValB c = false) (h : l.drop p = s ++ post) (hdp : dp ≤ 30) (hEV : 30 < t.dep + dp → EV) (hc : (args = [.raw (.ref a), .int (dp : Int)] ∧ dargs = [] ∧ dvals = []) ∨ (dp = 0 ∧ args = [.raw (.ref a)] ∧ dargs = [.int (dp : Int)] ∧ dvals = [.int 0 607]))
    (ih : ∀ ts, t = .list ts → dp < 30 → ∀ u ∈ ts, ∀ (su : List UInt8) (q : Nat) (post' : List UInt8), Sp u su → (∀ c, post'.head? = some c → isValB c = false) → l.drop q = su ++ post' → CT X (k + 4) (.ref 357) [.raw (.ref a), .int ((dp : Int) + 1)] [(a, wireM d l q)] (fun v O => u.dep + (dp + 1) ≤ 30 ∧ v = u.toV ∧ O = [(a, wireM d l (q + su.length))]) (30 < u.dep + (dp + 1))) :
    CT X (k + 5) (.ref 357) args [(a, wireM d l p)] (fun v O => t.dep + dp ≤ 30 ∧ v = t.toV ∧ O = [(a, wireM d l (p + s.length))]) EV := by
  have hL : l.length ≤ 16777216 := by (first | lia | omega)
  refine ct_def (dargs := dargs) (dvals := dvals) [Str.ofString "self", Str.ofString "depth"] [0, 1] (fun P => rfl) (fun P => by kernel_rfl) (fun s P vals hK hl => ?bind) ?dv (by decide +kernel) (by decide +kernel) rfl ?_
  case dv => rcases hc with ⟨-, rfl, rfl⟩ | ⟨rfl, -, rfl, rfl⟩; exact .nil; exact .cons (.int _ _) .nil
  case bind =>
    rcases hc with ⟨rfl, rfl, rfl⟩ | ⟨-, rfl, rfl, rfl⟩
    · obtain ⟨a, b, rfl⟩ := len2 hl; exact binds_K (o := { cls := .type "tuple", data := .seq #[.int 0 607] }) (items := #[.int 0 607]) hK rfl (by kernel_rfl) rfl rfl rfl
    · obtain ⟨a, rfl⟩ := len1 hl; exact binds_K (o := { cls := .type "tuple", data := .seq #[.int 0 607] }) (items := #[.int 0 607]) hK rfl (by kernel_rfl) rfl rfl rfl
  rw [show args ++ dargs = [.raw (.ref a), .int (dp : Int)] by rcases hc with ⟨rfl, rfl, -⟩ | ⟨-, rfl, rfl, -⟩ <;> rfl]
  refine ⟨_, fun L cells => (ts_cons (ts_if (tt_bool (tts_or (tt_cmp (te_methi 360 204 (te_loc 0 rfl) meth_peek (cw_keep fun P => by kernel_rfl) ta_nil) (te_glob 3 rfl (fun P => by kernel_rfl) (.int 34 305)) tb_eq) (tts_or (tt_cmp (te_methi 360 204 (te_loc 0 rfl) meth_peek (cw_keep fun P => by kernel_rfl) ta_nil) (te_int) tb_eq) tts_or_nil))) (ts_cons (ts_ret (te_methi 360 309 (te_loc 0 rfl) meth_string (cw_keep fun P => by kernel_rfl) ta_nil)) ts_nil) ts_nil) (ts_cons (ts_if (tt_cmp (te_methi 360 204 (te_loc 0 rfl) meth_peek (cw_keep fun P => by kernel_rfl) ta_nil) (te_int) tb_ne) (ts_cons (ts_ret (te_methi 360 349 (te_loc 0 rfl) meth_plain_value (cw_keep fun P => by kernel_rfl) ta_nil)) ts_nil) ts_nil) (ts_cons (ts_if (tt_cmp (te_loc 1 rfl) (te_glob 4 rfl (fun P => by kernel_rfl) (.int 30 309)) tb_eq) (ts_cons (ts_raise (te_methi 360 197 (te_loc 0 rfl) meth_fault (cw_keep fun P => by kernel_rfl) (ta_cons (te_str rfl) ta_nil))) ts_nil) ts_nil) (ts_cons (ts_expr (te_methi 360 211 (te_loc 0 rfl) meth_skip (cw_keep fun P => by kernel_rfl) (ta_cons (te_bytes) ta_nil))) (ts_cons (ts_assign (te_listf ta_nil) (st_loc 2 rfl)) (ts_cons (ts_while (tt_not (tt_val (te_methi 360 211 (te_loc 0 rfl) meth_skip (cw_keep fun P => by kernel_rfl) (ta_cons (te_bytes) ta_nil)))) (ts_cons (ts_if (tt_cmp (te_callb (te_bltn 5 rfl (fun P => by kernel_rfl) rfl (by decide)) (ta_cons (te_loc 2 rfl) ta_nil) tf_len) (te_int) tb_gt) (ts_cons (ts_expr (te_methi 360 225 (te_loc 0 rfl) meth_space (cw_keep fun P => by kernel_rfl) ta_nil)) ts_nil) ts_nil) (ts_cons (ts_expr (te_methb (te_loc 2 rfl) tm_append (ta_cons (te_methi 360 357 (te_loc 0 rfl) meth_value (cw_keep fun P => by kernel_rfl) (ta_cons (te_bin (te_loc 1 rfl) (te_int) tb_add) ta_nil)) ta_nil) tf_append)) ts_nil))) (ts_cons (ts_ret (te_loc 2 rfl)) ts_nil))))))), ?_⟩
  first | refine wme_of rfl List.mem_cons_self ?_ | refine wmk_of List.mem_cons_self ?_
  have pk := ct_peek (X := X) (k := k + 3) a d l p hL
  have bpk : ∀ c r, l.drop p = c :: r → isValB c = true → ((c.toNat : Int) == 34) = false ∧ ((c.toNat : Int) == 123) = false ∧ ((c.toNat : Int) != 40) = true := fun c r _ hv => by
    obtain ⟨n1, n2, n3, _⟩ := val_not hv
    refine ⟨ne_int (n := 34) (by decide) n1, ne_int (n := 123) (by decide) n2, ?_⟩
    unfold bne; rw [show (40 : Int) = ((40 : Nat) : Int) from rfl, ne_int (n := 40) (by decide) n3]; rfl
  by_cases hpl : isPlain t = true
  · obtain ⟨h1, h2, h3⟩ := hsp.plain hpl
    have pv := ct_plain_value (X := X) (k := k) a d l p t s post hl h1 h2 hpost h3 h
    obtain ⟨c, r, hcr, hv⟩ : ∃ c r, s = c :: r ∧ isValB c = true := by cases s with | nil => exact absurd rfl h1 | cons c r => exact ⟨c, r, rfl, h2 c List.mem_cons_self⟩
    have hdc : l.drop p = c :: (r ++ post) := by rw [h, hcr]; rfl
    obtain ⟨b1, b2, b3⟩ := bpk c _ hdc hv
    rw [peek_drop hdc] at pk
    have hdep : t.dep = 0 := by cases t <;> first | rfl | cases hpl
    refine wct1 pk ?_
    refine feqi_of (EV := EV) b1 ?_
    refine kif_f ?_
    first | refine wme_of rfl List.mem_cons_self ?_ | refine wmk_of List.mem_cons_self ?_
    refine wct1 pk ?_
    refine feqi_of (EV := EV) b2 ?_
    refine kif_f ?_
    first | refine wme_of rfl List.mem_cons_self ?_ | refine wmk_of List.mem_cons_self ?_
    refine wct1 pk ?_
    refine fnei_of (EV := EV) b3 ?_
    refine kif_t ?_
    first | refine wme_of rfl List.mem_cons_self ?_ | refine wmk_of List.mem_cons_self ?_
    refine wct1 pv ?_
    exact ret1 ⟨by (first | lia | omega), rfl, rfl⟩
  · cases hsp with
    | nil _ => exact absurd rfl hpl
    | num _ => exact absurd rfl hpl
    | atom _ => exact absurd rfl hpl
    | @quo s hq =>
      rw [peek_drop (c := 34) (r := qBody s ++ [34] ++ post) (by rw [h]; simp [quotedB])] at pk
      refine wct1 pk ?_
      refine feqi_of (EV := EV) (b := true) rfl ?_
      refine kif_t ?_
      first | refine wme_of rfl List.mem_cons_self ?_ | refine wmk_of List.mem_cons_self ?_
      refine wct1 (ct_string_q (k := k) hb a d l p s post hl hq h) ?_
      exact ret1 ⟨by simp [T.dep]; (first | lia | omega), rfl, rfl⟩
    | @lit s plus hq =>
      rw [peek_drop (c := 123) (r := textB (figs s.length) ++ ((if plus then [43] else []) ++ ([125, 13, 10] ++ s)) ++ post) (by rw [h]; simp [litS])] at pk
      refine wct1 pk ?_
      refine feqi_of (EV := EV) (b := false) rfl ?_
      refine kif_f ?_
      first | refine wme_of rfl List.mem_cons_self ?_ | refine wmk_of List.mem_cons_self ?_
      refine wct1 pk ?_
      refine feqi_of (EV := EV) (b := true) rfl ?_
      refine kif_t ?_
      first | refine wme_of rfl List.mem_cons_self ?_ | refine wmk_of List.mem_cons_self ?_
      refine wct1 (ct_string_l (k := k) a d l p plus s post hl hq h) ?_
      exact ret1 ⟨by simp [T.dep]; (first | lia | omega), rfl, rfl⟩
    | @list ts ss hss =>
      have hd0 : l.drop p = 40 :: (joinB [32] ss ++ 41 :: post) := by rw [h]; simp
      have hlen : p + (40 :: (joinB [32] ss ++ [41])).length ≤ l.length := drop_len h (by simp)
      simp only [List.length_cons, List.length_append, List.length_nil] at hlen
      have hdt : T.dep (.list ts) = T.deps ts + 1 := rfl
      rw [peek_drop hd0] at pk
      refine wct1 pk ?_
      refine feqi_of (EV := EV) (b := false) rfl ?_
      refine kif_f ?_
      first | refine wme_of rfl List.mem_cons_self ?_ | refine wmk_of List.mem_cons_self ?_
      refine wct1 pk ?_
      refine feqi_of (EV := EV) (b := false) rfl ?_
      refine kif_f ?_
      first | refine wme_of rfl List.mem_cons_self ?_ | refine wmk_of List.mem_cons_self ?_
      refine wct1 pk ?_
      refine fnei_of (EV := EV) (b := false) rfl ?_
      refine kif_f ?_
      refine wloc_of rfl ?_
      by_cases h30 : dp = 30
      · refine feqi_of (EV := EV) (b := true) (by rw [h30]; rfl) ?_
        refine kif_t ?_
        first | refine wme_of rfl List.mem_cons_self ?_ | refine wmk_of List.mem_cons_self ?_
        refine wctF [] [(a, wireM d l p)] [] (ct_fault (k := k + 1) a d l p _) False.elim fun v O' hv => ?_
        obtain ⟨x, od, fs, rfl, rfl⟩ := hv
        exact ⟨hEV (by (first | lia | omega)), x, od, fs, rfl, by simp⟩
      · refine feqi_of (EV := EV) (b := false) (beq_eq_false_iff_ne.mpr (by (first | lia | omega))) ?_
        refine kif_f ?_
        first | refine wme_of rfl List.mem_cons_self ?_ | refine wmk_of List.mem_cons_self ?_
        have hskip := ct_skip (X := X) (k := k + 3) a d l p [40] hL (by decide)
        rw [show skipB l p [40] = true by unfold skipB; rw [hd0]; rfl] at hskip
        refine wct1 hskip ?_
        first | refine ⟨Nat.le_of_ble_eq_true rfl, fun f hf => ?_⟩ | refine ⟨by simp, fun f hf => ?_⟩
        refine ⟨ts.length + 1, ?_⟩
        have hd1 := drop_one hd0
        refine wWhile_inv (fun i σ => ∃ (done todo : List T) (todoS : List (List UInt8)) (q : Nat), ts = done ++ todo ∧ done.length = i ∧ Sps todo todoS ∧
            l.drop q = (if i = 0 then joinB [32] todoS else todoS.flatMap fun z => [32] ++ z) ++ 41 :: post ∧ q + ((if i = 0 then joinB [32] todoS else todoS.flatMap fun z => [32] ++ z)).length = p + 1 + (joinB [32] ss).length ∧
            σ = ⟨[some (.raw (.ref a)), some (.int (dp : Int)), some (.raw (.ref f)), none, none, none], [(f, .list (done.map T.toV)), (a, wireM d l q)]⟩ ∧ ∀ u ∈ done, u.dep + (dp + 1) ≤ 30)
          (fun σ => T.deps ts + (dp + 1) ≤ 30 ∧ σ = ⟨[some (.raw (.ref a)), some (.int (dp : Int)), some (.raw (.ref f)), none, none, none], [(f, .list (ts.map T.toV)), (a, wireM d l (p + (40 :: (joinB [32] ss ++ [41])).length))]⟩) ts.length (fun i σ Q R hi hI hQ => ?_) (fun σ Q R hI hR => ?_) (fun σ hJ => ?_) _ 0 _ (by (first | lia | omega)) ⟨[], ts, ss, p + 1, rfl, rfl, hss, hd1, rfl, rfl, fun u hu => by cases hu⟩
        · obtain ⟨done, todo, todoS, q, hts, hdl, htodo, hdq, hq, rfl, hdone⟩ := hI
          cases htodo with
          | nil => rw [hts, List.append_nil] at hi; (first | lia | omega)
          | @cons u todo su todoS hsu htodo =>
            obtain ⟨c, r, hsc, hc1, hc2⟩ := hsu.head
            first | refine wme_of rfl (List.mem_cons_of_mem _ List.mem_cons_self) ?_ | refine wmk_of (List.mem_cons_of_mem _ List.mem_cons_self) ?_
            have hskq := ct_skip (X := X) (k := k + 3) a d l q [41] hL (by decide)
            have hnq : skipB l q [41] = false := by
              unfold skipB; rw [hdq, hsc]
              by_cases hi0 : i = 0
              · rw [if_pos hi0]; simp [joinB]; exact hc1
              · rw [if_neg hi0]; simp
            rw [hnq] at hskq
            refine wct2 hskq ?_
            refine bnif_t ?_
            refine wloc_of rfl ?_
            have hdn : done.length ≤ 1000000 := by
              have h1 := congrArg List.length hts
              rw [List.length_append] at h1
              have h2 := hss.joinlen
              have h3 := hss.length
              (first | lia | omega)
            refine ⟨_, List.mem_cons_self, by rw [List.length_map]; (first | lia | omega), ?_⟩
            have hu : u ∈ ts := by rw [hts]; simp
            have hud := T.deps_mem hu
            have hpost' : ∀ c, ((todoS.flatMap fun z => [32] ++ z) ++ 41 :: post).head? = some c → isValB c = false := fun c hc => by
              cases todoS with
              | nil => simp at hc; subst hc; decide
              | cons z r => simp at hc; subst hc; decide
            cases done with
            | nil =>
              have hi0 : i = 0 := hdl.symm
              rw [if_pos hi0] at hdq hq
              have hqc : l.drop q = su ++ ((todoS.flatMap fun z => [32] ++ z) ++ 41 :: post) := by rw [hdq]; simp [joinB]
              have hqc2 : q + su.length + (todoS.flatMap fun z => [32] ++ z).length = p + 1 + (joinB [32] ss).length := by
                rw [← hq]; simp only [joinB, List.length_append]; (first | lia | omega)
              refine fcmp_of (r := fun a b => decide (b < a)) (EV := EV) (b := false) (decide_eq_false (by simp)) ?_
              refine kif_f ?_
              generalize q = qc at hqc hqc2 ⊢
              refine wloc_of rfl ?_
              refine ⟨⟨_, List.mem_cons_self⟩, ?_⟩
              first | refine wme_of rfl (List.mem_cons_of_mem _ List.mem_cons_self) ?_ | refine wmk_of (List.mem_cons_of_mem _ List.mem_cons_self) ?_
              refine wloc_of rfl ?_
              refine fadd_i ?_
              refine wctF [(f, _)] [(a, wireM d l qc)] [] (ih ts rfl (by (first | lia | omega)) u hu su qc _ hsu hpost' hqc) (fun ev => hEV (by (first | lia | omega))) fun v O' hv => ?_
              obtain ⟨hv1, rfl, rfl⟩ := hv
              refine ⟨[], _, _, rfl, by rw [List.length_map]; (first | lia | omega), ?_⟩
              refine hQ _ ⟨([] : List T) ++ [u], todo, todoS, qc + su.length, by simp [hts], by rw [List.length_append, hdl]; rfl, htodo, ?_, ?_, ?_, fun w hw => ?_⟩
              · rw [if_neg (by (first | lia | omega))]; exact drop_more hqc rfl
              · rw [if_neg (by (first | lia | omega))]; (first | lia | omega)
              · simp
              · rcases List.mem_append.mp hw with hw | hw
                · exact hdone w hw
                · rw [List.mem_singleton.mp hw]; exact hv1
            | cons w0 done =>
              have hi0 : i ≠ 0 := by rw [← hdl]; simp
              rw [if_neg hi0] at hdq hq
              have hqc : l.drop (q + 1) = su ++ ((todoS.flatMap fun z => [32] ++ z) ++ 41 :: post) := drop_one (c := 32) (by rw [hdq]; simp)
              have hqc2 : q + 1 + su.length + (todoS.flatMap fun z => [32] ++ z).length = p + 1 + (joinB [32] ss).length := by
                rw [← hq]; simp only [List.flatMap_cons, List.length_append, List.length_cons, List.length_nil]; (first | lia | omega)
              refine fcmp_of (r := fun a b => decide (b < a)) (EV := EV) (b := true) (decide_eq_true (by simp)) ?_
              refine kif_t ?_
              first | refine wme_of rfl (List.mem_cons_of_mem _ List.mem_cons_self) ?_ | refine wmk_of (List.mem_cons_of_mem _ List.mem_cons_self) ?_
              refine wct2 ((ct_space (k := k + 1) a d l q hL (by unfold skipB; rw [hdq]; simp))) ?_
              generalize q + 1 = qc at hqc hqc2 ⊢
              refine wloc_of rfl ?_
              refine ⟨⟨_, List.mem_cons_self⟩, ?_⟩
              first | refine wme_of rfl (List.mem_cons_of_mem _ List.mem_cons_self) ?_ | refine wmk_of (List.mem_cons_of_mem _ List.mem_cons_self) ?_
              refine wloc_of rfl ?_
              refine fadd_i ?_
              refine wctF [(f, _)] [(a, wireM d l qc)] [] (ih ts rfl (by (first | lia | omega)) u hu su qc _ hsu hpost' hqc) (fun ev => hEV (by (first | lia | omega))) fun v O' hv => ?_
              obtain ⟨hv1, rfl, rfl⟩ := hv
              refine ⟨[], _, _, rfl, by rw [List.length_map]; (first | lia | omega), ?_⟩
              refine hQ _ ⟨(w0 :: done) ++ [u], todo, todoS, qc + su.length, by simp [hts], by rw [List.length_append, hdl]; rfl, htodo, ?_, ?_, ?_, fun w hw => ?_⟩
              · rw [if_neg (by (first | lia | omega))]; exact drop_more hqc rfl
              · rw [if_neg (by (first | lia | omega))]; (first | lia | omega)
              · simp
              · rcases List.mem_append.mp hw with hw | hw
                · exact hdone w hw
                · rw [List.mem_singleton.mp hw]; exact hv1
        · obtain ⟨done, todo, todoS, q, hts, hdl, htodo, hdq, hq, rfl, hdone⟩ := hI
          have : todo = [] := by
            have := congrArg List.length hts
            rw [List.length_append] at this
            exact List.length_eq_zero_iff.mp (by (first | lia | omega))
          subst this
          cases htodo
          have e0 : (if ts.length = 0 then joinB [32] [] else ([] : List (List UInt8)).flatMap fun z => [32] ++ z) = [] := by split <;> rfl
          rw [e0] at hdq hq
          first | refine wme_of rfl (List.mem_cons_of_mem _ List.mem_cons_self) ?_ | refine wmk_of (List.mem_cons_of_mem _ List.mem_cons_self) ?_
          have hskq := ct_skip (X := X) (k := k + 3) a d l q [41] hL (by decide)
          rw [show skipB l q [41] = true by unfold skipB; rw [hdq]; rfl] at hskq
          refine wct2 hskq ?_
          refine bnif_f ?_
          rw [List.append_nil] at hts
          subst hts
          refine hR _ ⟨?_, ?_⟩
          · have := T.deps_le (n := 30 - (dp + 1)) fun u hu => by have := hdone u hu; (first | lia | omega)
            (first | lia | omega)
          · simp only [if_true]
            rw [show q + [(41 : UInt8)].length = p + (40 :: (joinB [32] ss ++ [41])).length by simp at hq ⊢; (first | lia | omega)]
        · obtain ⟨h1, rfl⟩ := hJ
          refine wloc_of rfl ?_
          refine ⟨_, _, .frz (pre := []) (post := [(a, _)]) hf (List.Sublist.refl _), by rw [hdt]; (first | lia | omega), ?_, rfl⟩
          show V.list _ = V.list (T.toVs ts)
          rw [T.toVs_map]
end
end Mine
end

section
open PySem PySem.W PyProof.Rows PySem.Calls
namespace Mine

/-- `Wire.value(depth)` reads every spelling; lists that nest too deep are refused -/
theorem ct_value {X : Cx} {k : Nat} (hb : X.b = true) (t : T) (s : List UInt8) (hsp : Sp t s) (a d : Addr) (l : List UInt8) (p dp : Nat) (post : List UInt8) (hl : l.length ≤ 1000000) (hpost : ∀ c, post.head? = some c → isValB c = false) (h : l.drop p = s ++ post) (hdp : dp ≤ 30) :
    CT X (k + 5 + t.dep) (.ref 357) [.raw (.ref a), .int (dp : Int)] [(a, wireM d l p)] (fun v O => t.dep + dp ≤ 30 ∧ v = t.toV ∧ O = [(a, wireM d l (p + s.length))]) (30 < t.dep + dp) := by
  induction t using T.ind generalizing s p dp post with
  | h t ih =>
    refine (value_def (k := k + t.dep) (EV := 30 < t.dep + dp) hb t s hsp a d l p dp post hl hpost h hdp id (.inl ⟨rfl, rfl, rfl⟩) fun ts e hlt u hu su q post' hsu hp' hq => ?_).up (by (first | lia | omega))
    have h1 := T.deps_mem hu
    have h2 : t.dep = T.deps ts + 1 := by rw [e, T.dep]
    have := ih ts e u hu su hsu q (dp + 1) post' hp' hq (by (first | lia | omega))
    have e1 : (((dp + 1 : Nat) : Int)) = (dp : Int) + 1 := by (first | lia | omega)
    rw [e1] at this
    exact this.up (by (first | lia | omega))
theorem ct_value0 {X : Cx} {k : Nat} (hb : X.b = true) (t : T) (s : List UInt8) (hsp : Sp t s) (a d : Addr) (l : List UInt8) (p : Nat) (post : List UInt8) (hl : l.length ≤ 1000000) (hpost : ∀ c, post.head? = some c → isValB c = false) (h : l.drop p = s ++ post) :
    CT X (k + 6 + t.dep) (.ref 357) [.raw (.ref a)] [(a, wireM d l p)] (fun v O => t.dep ≤ 30 ∧ v = t.toV ∧ O = [(a, wireM d l (p + s.length))]) (30 < t.dep) := by
  refine (value_def (k := k + t.dep + 1) (dp := 0) (EV := 30 < t.dep) hb t s hsp a d l p post hl hpost h (by (first | lia | omega)) id (.inr ⟨rfl, rfl, rfl, rfl⟩) fun ts e hlt u hu su q post' hsu hp' hq => ?_).up (by (first | lia | omega))
  have h1 := T.deps_mem hu
  have h2 : t.dep = T.deps ts + 1 := by rw [e, T.dep]
  have := ct_value (k := k) hb u su hsu a d l q 1 post' hl hp' hq (by (first | lia | omega))
  exact this.up (by (first | lia | omega))
end Mine
end

section
open PySem PySem.W PyProof.Rows PySem.Calls
namespace Mine
theorem compGo_stop {α : Type} {g : α → V} {P : α → Prop} {de : W V} {tgt : Nat} {EV : Prop} {objs : List (Addr × MO)} {loc0 : List (Option V)} : ∀ (as : List α), (∀ a ∈ as, ∀ Q : V → St → Prop, (P a → ∀ y, Q y ⟨loc0.set tgt (some (g a)), objs⟩) → de Q EV ⟨loc0.set tgt (some (g a)), objs⟩) →
    ∀ (acc : List V) (loc : List (Option V)) (K : List V → List (Addr × MO) → Prop), (∀ v, loc.set tgt (some v) = loc0.set tgt (some v)) → ((∀ a ∈ as, P a) → ∀ acc', K acc' objs) → wCompGo wYes de tgt (as.map g) acc loc K EV objs
  | [], _, acc, loc, K, _, h => h (fun a ha => by cases ha) acc
  | p :: r, hd, acc, loc, K, hl, h => by
    rw [List.map_cons]
    unfold wCompGo wYes
    dsimp only
    rw [if_pos rfl, hl (g p)]
    refine hd p List.mem_cons_self _ fun hp y => ?_
    refine compGo_stop r (fun u hu => hd u (List.mem_cons_of_mem _ hu)) _ _ _ (fun u => by simp) fun hr => ?_
    exact h fun a ha => by
      rcases List.mem_cons.mp ha with rfl | ha
      · exact hp
      · exact hr a ha

section
variable {X : Cx} {k : Nat}
set_option maxHeartbeats 4000000 in
theorem write_bad {EV : Prop} {args dargs : List V} {dvals : List Value} (hEV : EV) (ts : List T) (d : Nat) (hok : (T.list ts).OK) (hd : 30 < (T.list ts).dep + d) (hd1 : d ≤ 30) (hc : (args = [(T.list ts).toV, .int (d : Int)] ∧ dargs = [] ∧ dvals = []) ∨ (d = 0 ∧ args = [(T.list ts).toV] ∧ dargs = [.int (d : Int)] ∧ dvals = [.int 0 658]))
    (ih : ∀ u ∈ ts, d + 1 ≤ 30 → CT X (k + 4) (.ref 398) [u.toV, .int ((d : Int) + 1)] [] (fun v O => u.dep + (d + 1) ≤ 30 ∧ v = .bytes u.wr ∧ O = []) (30 < u.dep + (d + 1))) : CT X (k + 5) (.ref 398) args [] (fun v O => False) EV := by
  refine ct_def (dargs := dargs) (dvals := dvals) [Str.ofString "value", Str.ofString "depth"] [0, 1] (fun P => rfl) (fun P => by kernel_rfl) (fun s P vals hK hl => ?bind) ?dv (by decide +kernel) (by decide +kernel) rfl ?_
  case dv => rcases hc with ⟨-, rfl, rfl⟩ | ⟨rfl, -, rfl, rfl⟩; exact .nil; exact .cons (.int _ _) .nil
  case bind =>
    rcases hc with ⟨rfl, rfl, rfl⟩ | ⟨-, rfl, rfl, rfl⟩
    · obtain ⟨a, b, rfl⟩ := len2 hl; exact binds_K (o := { cls := .type "tuple", data := .seq #[.int 0 658] }) (items := #[.int 0 658]) hK rfl (by kernel_rfl) rfl rfl rfl
    · obtain ⟨a, rfl⟩ := len1 hl; exact binds_K (o := { cls := .type "tuple", data := .seq #[.int 0 658] }) (items := #[.int 0 658]) hK rfl (by kernel_rfl) rfl rfl rfl
  rw [show args ++ dargs = [(T.list ts).toV, .int (d : Int)] by rcases hc with ⟨rfl, rfl, -⟩ | ⟨-, rfl, rfl, -⟩ <;> rfl]
  refine ⟨_, fun L cells => (ts_cons (ts_if (tt_cmp (te_loc 0 rfl) (te_none) tb_isnone) (ts_cons (ts_ret (te_bytes)) ts_nil) ts_nil) (ts_cons (ts_if (tt_val (te_callb (te_bltn 2 rfl (fun P => by kernel_rfl) rfl (by decide)) (ta_cons (te_loc 0 rfl) (ta_cons (te_glob 3 rfl (fun P => by kernel_rfl) (.raw (.ref 124))) ta_nil)) tf_isi)) (ts_cons (ts_ret (te_callt (te_glob 4 rfl (fun P => by kernel_rfl) (.raw (.ref 100))) (cw_keep fun P => by kernel_rfl) (ta_cons (te_atext (te_loc 0 rfl) attr_text) ta_nil))) ts_nil) ts_nil) (ts_cons (ts_if (tt_val (te_callb (te_bltn 2 rfl (fun P => by kernel_rfl) rfl (by decide)) (ta_cons (te_loc 0 rfl) (ta_cons (te_bltn 5 rfl (fun P => by kernel_rfl) rfl (by decide)) ta_nil)) tf_isi)) (ts_cons (ts_ret (te_callt (te_glob 6 rfl (fun P => by kernel_rfl) (.raw (.ref 392))) (cw_keep fun P => by kernel_rfl) (ta_cons (te_loc 0 rfl) ta_nil))) ts_nil) ts_nil) (ts_cons (ts_if (tt_val (te_callb (te_bltn 2 rfl (fun P => by kernel_rfl) rfl (by decide)) (ta_cons (te_loc 0 rfl) (ta_cons (te_tuple (ta_cons (te_bltn 7 rfl (fun P => by kernel_rfl) rfl (by decide)) (ta_cons (te_bltn 8 rfl (fun P => by kernel_rfl) rfl (by decide)) ta_nil))) ta_nil)) tf_isi)) (ts_cons (ts_if (tt_cmp (te_cell 1 rfl) (te_glob 9 rfl (fun P => by kernel_rfl) (.int 30 309)) tb_eq) (ts_cons (ts_raise (te_callt (te_glob 10 rfl (fun P => by kernel_rfl) (.raw (.ref 71))) (cw_keep fun P => by kernel_rfl) (ta_cons (te_str rfl) ta_nil))) ts_nil) ts_nil) (ts_cons (ts_ret (te_bin (te_bin (te_bytes) (te_methb (te_bytes) (tm_bytes FBA.slot_join FBA.type_join) (ta_cons (te_comp [(3, 1)] 1 (te_loc 0 rfl) (by kernel_rfl) (fun _ hc => tifs_nil) (fun _ hc => te_callt (te_glob 2 (by rw [hc]; rfl) (fun P => by kernel_rfl) (.raw (.ref 398))) (cw_keep fun P => by kernel_rfl) (ta_cons (te_loc 1 (by rw [hc]; rfl)) (ta_cons (te_bin (te_cell 3 (by rw [hc]; rfl)) (te_int) tb_add) ta_nil)))) ta_nil) tf_bjoin) tb_add) (te_bytes) tb_add)) ts_nil)) ts_nil) (ts_cons (ts_ret (te_callt (te_glob 11 rfl (fun P => by kernel_rfl) (.raw (.ref 175))) (cw_keep fun P => by kernel_rfl) (ta_cons (te_loc 0 rfl) ta_nil))) ts_nil))))), ?_⟩
  refine wloc_of rfl ?_
  refine fis_of (b := false) rfl ?_
  refine kif_f ?_
  refine wloc_of rfl ?_
  refine isi_of (b := false) rfl ?_
  refine bif_f ?_
  refine wloc_of rfl ?_
  refine isi_of (c := .type "bytes") (b := false) rfl ?_
  refine bif_f ?_
  refine wloc_of rfl ?_
  refine ⟨by decide, rfl, ?_⟩
  refine bif_t ?_
  refine wloc_of rfl ?_
  by_cases h30 : d = 30
  · refine feqi_of (EV := EV) (b := true) (by rw [h30]; rfl) ?_
    refine kif_t ?_
    refine wctF [] [] [] (CT.up (ct_WireFault0 (k := k) _) (by (first | lia | omega))) False.elim fun v O' hv => ?_
    obtain ⟨x, od, fs, rfl, rfl⟩ := hv
    exact ⟨hEV, x, od, fs, rfl, by simp⟩
  · refine feqi_of (EV := EV) (b := false) (beq_eq_false_iff_ne.mpr (by (first | lia | omega))) ?_
    refine kif_f ?_
    refine ⟨trivial, ?_⟩
    refine wloc_of rfl ?_
    refine ⟨ts.map T.toV, ?_, ?_, ?_⟩
    · show some (T.toVs ts) = _
      rw [T.toVs_map]
    · have := hok.1
      rw [T.toVs_map] at this
      simpa using this
    · refine compGo_stop (g := T.toV) (P := fun u => u.dep + (d + 1) ≤ 30) (loc0 := [none, none, none, some (.int (d : Int))]) ts (fun u hu Q h => ?_) _ _ _ (fun v => rfl) fun hall => ?_
      · refine wloc_of rfl ?_
        refine wloc_of rfl ?_
        refine wctF [] [] [] (ih u hu (by (first | lia | omega))) (fun _ => hEV) fun v O' hv => ?_
        obtain ⟨h1, rfl, rfl⟩ := hv
        exact h h1 _
      · have := T.deps_le (n := 30 - (d + 1)) fun u hu => by have := hall u hu; (first | lia | omega)
        have hdt : T.dep (.list ts) = T.deps ts + 1 := rfl
        (first | lia | omega)

end
/-- `write_value(value, depth)`: the octets, or a fault where lists nest too deep -/
theorem ct_write' {X : Cx} {k : Nat} (hb : X.b = true) (t : T) (d : Nat) (hok : t.OK) (hd : d ≤ 30) : CT X (k + 5 + t.dep) (.ref 398) [t.toV, .int (d : Int)] [] (fun v O => t.dep + d ≤ 30 ∧ v = .bytes t.wr ∧ O = []) (30 < t.dep + d) := by
  induction t using T.ind generalizing d with
  | h t ih =>
    by_cases hle : t.dep + d ≤ 30
    · exact (ct_write hb t d hok hle).mono (fun v O h => ⟨hle, h⟩) False.elim
    · cases t with
      | list ts =>
        have hdt : T.dep (.list ts) = T.deps ts + 1 := rfl
        refine (CT.up (write_bad (X := X) (k := k + T.deps ts + 1) (EV := 30 < T.dep (.list ts) + d) (by (first | lia | omega)) ts d hok (by (first | lia | omega)) hd (.inl ⟨rfl, rfl, rfl⟩) fun u hu h1 => ?_) (by (first | lia | omega))).mono (fun _ _ h => h.elim) id
        have h2 := T.deps_mem hu
        have h3 : T.OKs ts := by rw [T.OK] at hok; exact hok.2.2
        have := ih ts rfl u hu (d + 1) (T.OKs_mem h3 hu) h1
        have e1 : (((d + 1 : Nat) : Int)) = (d : Int) + 1 := by (first | lia | omega)
        rw [e1] at this
        exact this.up (by (first | lia | omega))
      | _ => exact absurd (show _ ≤ 30 by simp [T.dep]; (first | lia | omega)) hle
theorem ct_write_fault {X : Cx} {k : Nat} (hb : X.b = true) (t : T) (hok : t.OK) (hd : 30 < t.dep) : CT X (k + 5 + t.dep) (.ref 398) [t.toV] [] (fun v O => False) True := by
  cases t with
  | list ts =>
    have hdt : T.dep (.list ts) = T.deps ts + 1 := rfl
    refine (CT.up (write_bad (X := X) (k := k + T.deps ts + 1) (EV := True) trivial ts 0 hok (by (first | lia | omega)) (by (first | lia | omega)) (.inr ⟨rfl, rfl, rfl, rfl⟩) fun u hu h1 => ?_) (by (first | lia | omega))).mono (fun _ _ h => h.elim) id
    have h2 := T.deps_mem hu
    have h3 : T.OKs ts := by rw [T.OK] at hok; exact hok.2.2
    exact (ct_write' (k := k) hb u 1 (T.OKs_mem h3 hu) h1).up (by (first | lia | omega))
  | _ => exact absurd hd (by simp [T.dep])
end Mine
end

section
open PySem PySem.W PyProof.Rows PySem.Calls
namespace Mine
noncomputable def sNil : List Nat := [110, 105, 108]
noncomputable def sNum : List Nat := [110, 117, 109, 98, 101, 114]
noncomputable def sStr : List Nat := [115, 116, 114, 105, 110, 103]
noncomputable def sAtom : List Nat := [97, 116, 111, 109]
noncomputable def sList : List Nat := [108, 105, 115, 116]
mutual
noncomputable def T.told : T → V
  | .nil => .tup [.str sNil]
  | .num n => .tup [.str sNum, .int (n : Int)]
  | .str l => .tup [.str sStr, .bytes l]
  | .atom l => .tup [.str sAtom, .str l]
  | .list ts => .tup [.str sList, .tup (T.tolds ts)]
noncomputable def T.tolds : List T → List V
  | [] => []
  | t :: r => t.told :: T.tolds r
end
theorem T.tolds_map : ∀ ts, T.tolds ts = ts.map T.told
  | [] => rfl
  | t :: r => by rw [T.tolds, T.tolds_map r]; rfl

section
variable {X : Cx} {k : Nat}
theorem ct_atom_told (l : List Nat) : CT X (k + 1) (.ref 121) [.atom l] [] (fun v O => v = .tup [.str sAtom, .str l] ∧ O = []) False := by
  refine ct_def (dargs := []) (dvals := []) [Str.ofString "self"] [0] (fun P => rfl) (fun P => by kernel_rfl) (fun s P vals _ hl => ?bind) .nil (by decide +kernel) (by decide +kernel) rfl ?_
  case bind => obtain ⟨a, rfl⟩ := len1 hl; exact BindsTo.of_eq rfl
  refine ⟨_, fun L cells => (ts_cons (ts_ret (te_tuple (ta_cons (te_str (l := sAtom) (by decide +kernel)) (ta_cons (te_atext (te_loc 0 rfl) attr_text) ta_nil)))) ts_nil), ?_⟩
  refine ⟨l, rfl, by simp, ?_⟩
  exact ret0 ⟨rfl, rfl⟩

set_option maxHeartbeats 4000000 in
theorem told_def (t : T) (hok : t.OK) (ih : ∀ ts, t = .list ts → ∀ u ∈ ts, CT X (k + 1) (.ref 133) [u.toV] [] (fun v O => v = u.told ∧ O = []) False) : CT X (k + 2) (.ref 133) [t.toV] [] (fun v O => v = t.told ∧ O = []) False := by
  refine ct_def (dargs := []) (dvals := []) [Str.ofString "value"] [0] (fun P => rfl) (fun P => by kernel_rfl) (fun s P vals hK hl => ?bind) .nil (by decide +kernel) (by decide +kernel) rfl ?_
  case bind => obtain ⟨a, rfl⟩ := len1 hl; exact BindsTo.of_eq rfl
  refine ⟨_, fun L cells => (ts_cons (ts_if (tt_cmp (te_loc 0 rfl) (te_none) tb_isnone) (ts_cons (ts_ret (te_tuple (ta_cons (te_str (l := sNil) (by decide +kernel)) ta_nil))) ts_nil) ts_nil) (ts_cons (ts_if (tt_val (te_callb (te_bltn 1 rfl (fun P => by kernel_rfl) rfl (by decide)) (ta_cons (te_loc 0 rfl) (ta_cons (te_glob 2 rfl (fun P => by kernel_rfl) (.raw (.ref 124))) ta_nil)) tf_isi)) (ts_cons (ts_ret (te_metha 121 (te_loc 0 rfl) meth_told (by decide +kernel) (cw_keep fun P => by kernel_rfl) ta_nil)) ts_nil) ts_nil) (ts_cons (ts_if (tt_val (te_callb (te_bltn 1 rfl (fun P => by kernel_rfl) rfl (by decide)) (ta_cons (te_loc 0 rfl) (ta_cons (te_bltn 3 rfl (fun P => by kernel_rfl) rfl (by decide)) ta_nil)) tf_isi)) (ts_cons (ts_ret (te_tuple (ta_cons (te_str (l := sStr) (by decide +kernel)) (ta_cons (te_loc 0 rfl) ta_nil)))) ts_nil) ts_nil) (ts_cons (ts_if (tt_val (te_callb (te_bltn 1 rfl (fun P => by kernel_rfl) rfl (by decide)) (ta_cons (te_loc 0 rfl) (ta_cons (te_tuple (ta_cons (te_bltn 4 rfl (fun P => by kernel_rfl) rfl (by decide)) (ta_cons (te_bltn 5 rfl (fun P => by kernel_rfl) rfl (by decide)) ta_nil))) ta_nil)) tf_isi)) (ts_cons (ts_ret (te_tuple (ta_cons (te_str (l := sList) (by decide +kernel)) (ta_cons (te_callb (te_bltn 5 rfl (fun P => by kernel_rfl) rfl (by decide)) (ta_cons (te_comp [] 1 (te_loc 0 rfl) (by kernel_rfl) (fun _ hc => tifs_nil) (fun _ hc => te_callt (te_glob 2 (by rw [hc]; rfl) (fun P => by kernel_rfl) (.raw (.ref 133))) (cw_keep fun P => by kernel_rfl) (ta_cons (te_loc 1 (by rw [hc]; rfl)) ta_nil))) ta_nil) tf_tuple) ta_nil)))) ts_nil) ts_nil) (ts_cons (ts_ret (te_tuple (ta_cons (te_str (l := sNum) (by decide +kernel)) (ta_cons (te_loc 0 rfl) ta_nil)))) ts_nil))))), ?_⟩
  cases t with
  | nil => exact ⟨by simp, ret0 ⟨rfl, rfl⟩⟩
  | num n =>
    refine wloc_of rfl ?_
    refine fis_of (b := false) rfl ?_
    refine kif_f ?_
    refine wloc_of rfl ?_
    refine isi_of (b := false) rfl ?_
    refine bif_f ?_
    refine wloc_of rfl ?_
    refine isi_of (c := .type "bytes") (b := false) rfl ?_
    refine bif_f ?_
    refine wloc_of rfl ?_
    refine ⟨by decide, rfl, ?_⟩
    refine bif_f ?_
    refine wloc_of rfl ?_
    first | exact ⟨Nat.le_of_ble_eq_true rfl, ret0 ⟨rfl, rfl⟩⟩ | exact ⟨by simp, ret0 ⟨rfl, rfl⟩⟩
  | str l =>
    refine wloc_of rfl ?_
    refine fis_of (b := false) rfl ?_
    refine kif_f ?_
    refine wloc_of rfl ?_
    refine isi_of (b := false) rfl ?_
    refine bif_f ?_
    refine wloc_of rfl ?_
    refine isi_of (c := .type "bytes") (b := true) rfl ?_
    refine bif_t ?_
    refine wloc_of rfl ?_
    first | exact ⟨Nat.le_of_ble_eq_true rfl, ret0 ⟨rfl, rfl⟩⟩ | exact ⟨by simp, ret0 ⟨rfl, rfl⟩⟩
  | atom l =>
    refine wloc_of rfl ?_
    refine fis_of (b := false) rfl ?_
    refine kif_f ?_
    refine wloc_of rfl ?_
    refine isi_of (b := true) rfl ?_
    refine bif_t ?_
    refine wloc_of rfl ?_
    refine ⟨l, rfl, ?_⟩
    refine wct0 (ct_atom_told (k := k) l) ?_
    exact ret0 ⟨rfl, rfl⟩
  | list ts =>
    refine wloc_of rfl ?_
    refine fis_of (b := false) rfl ?_
    refine kif_f ?_
    refine wloc_of rfl ?_
    refine isi_of (b := false) rfl ?_
    refine bif_f ?_
    refine wloc_of rfl ?_
    refine isi_of (c := .type "bytes") (b := false) rfl ?_
    refine bif_f ?_
    refine wloc_of rfl ?_
    refine ⟨by decide, rfl, ?_⟩
    refine bif_t ?_
    refine wloc_of rfl ?_
    refine ⟨(ts.map fun u => (u.toV, u.told)).map (·.1), ?_, ?_, ?_⟩
    · show some (T.toVs ts) = _
      rw [T.toVs_map]; simp
    · have := hok.1
      rw [T.toVs_map] at this
      simpa using this
    · refine compGo_rel (loc0 := [none, none, none]) _ (fun p hp Q h => ?_) _ _ _ (fun v => rfl) ?_
      · obtain ⟨u, hu, rfl⟩ := List.mem_map.mp hp
        refine wloc_of rfl ?_
        refine wct0 (ih ts rfl u hu) ?_
        exact h
      · have := hok.1
        rw [T.toVs_map] at this
        refine ⟨by simpa using this, by simp, ret0 ⟨?_, rfl⟩⟩
        simp [wOf, T.told, T.tolds_map]
end
theorem ct_told {X : Cx} {k : Nat} (t : T) (hok : t.OK) : CT X (k + 2 + t.dep) (.ref 133) [t.toV] [] (fun v O => v = t.told ∧ O = []) False := by
  induction t using T.ind with
  | h t ih =>
    refine (told_def (k := k + t.dep) t hok fun ts e u hu => ?_).up (by (first | lia | omega))
    have h1 := T.deps_mem hu
    have h2 : t.dep = T.deps ts + 1 := by rw [e, T.dep]
    have h3 : T.OKs ts := by rw [e, T.OK] at hok; exact hok.2.2
    exact (ih ts e u hu (T.OKs_mem h3 hu)).up (by (first | lia | omega))

section
variable {X : Cx} {k : Nat}
set_option maxHeartbeats 4000000 in
theorem ct_write_line (hb : X.b = true) (ts : List T) (m : Nat) (hok : ∀ t ∈ ts, t.OK ∧ t.dep ≤ 30 ∧ t.dep ≤ m) (hl : ts.length ≤ 1000) (hz : (joinB [32] (ts.map T.wr)).length ≤ 16777000) :
    CT X (k + 7 + m) (.ref 403) [.list (ts.map T.toV)] [] (fun v O => v = .bytes (joinB [32] (ts.map T.wr) ++ [13, 10]) ∧ O = []) False := by
  refine CT.up (k := k + 6 + m + 1) ?_ (by (first | lia | omega))
  refine ct_def (dargs := []) (dvals := []) [Str.ofString "values"] [0] (fun P => rfl) (fun P => by kernel_rfl) (fun s P vals hK hl => ?bind) .nil (by decide +kernel) (by decide +kernel) rfl ?_
  case bind => obtain ⟨a, rfl⟩ := len1 hl; exact BindsTo.of_eq rfl
  refine ⟨_, fun L cells => (ts_cons (ts_ret (te_bin (te_methb (te_bytes) (tm_bytes FBA.slot_join FBA.type_join) (ta_cons (te_comp [] 1 (te_loc 0 rfl) (by kernel_rfl) (fun _ hc => tifs_nil) (fun _ hc => te_callt (te_glob 2 (by rw [hc]; rfl) (fun P => by kernel_rfl) (.raw (.ref 398))) (cw_keep fun P => by kernel_rfl) (ta_cons (te_loc 1 (by rw [hc]; rfl)) ta_nil))) ta_nil) tf_bjoin) (te_glob 1 rfl (fun P => by kernel_rfl) (.bytes [13, 10] 270)) tb_add)) ts_nil), ?_⟩
  refine ⟨trivial, ?_⟩
  refine wloc_of rfl ?_
  refine ⟨(ts.map fun u => (u.toV, V.bytes u.wr)).map (·.1), ?_, ?_, ?_⟩
  · simp [itemsOf]
  · simp; (first | lia | omega)
  · refine compGo_rel (loc0 := [none, none, none]) _ (fun p hp Q h => ?_) _ _ _ (fun v => rfl) ?_
    · obtain ⟨u, hu, rfl⟩ := List.mem_map.mp hp
      obtain ⟨h1, h2, h3⟩ := hok u hu
      refine wloc_of rfl ?_
      refine wct0 ((ct_write0 (k := k) hb u h1 h2).up (by (first | lia | omega))) ?_
      exact h
    · refine ⟨ts.map T.wr, by simp, by (first | lia | omega), ?_⟩
      refine ⟨by simp; (first | lia | omega), ret0 ⟨rfl, rfl⟩⟩
end
end Mine
end

section
open PySem PySem.W PyProof.Rows PySem.Calls
namespace Mine

theorem wctE {X : Cx} {k : Nat} {f : Value} {vs : List V} {O : List (Addr × MO)} {P : V → List (Addr × MO) → Prop} {loc : List (Option V)} {QV : V → St → Prop} {EV EV' : Prop} (hct : CT X k f vs O P EV') (he : EV' → EV) (h : ∀ v O', P v O' → QV v ⟨loc, O'⟩) : wCt X k f vs QV EV ⟨loc, O⟩ :=
  ⟨[], O, [], by simp, hct.mono (fun v O' z => by simpa using h v O' z) he⟩

theorem pylong_small {x y : Int} (h0 : 0 < y) (h1 : y ≤ 10 ^ 19) : Builtin.divisionGoesByPylong x y = false := by
  unfold Builtin.divisionGoesByPylong
  have hy : (y == 0) = false := beq_eq_false_iff_ne.mpr (by (first | lia | omega))
  have hl : y.natAbs.log2 < 64 := by
    refine (Nat.log2_lt (by (first | lia | omega))).mpr ?_
    have : (10 : Int) ^ 19 = 10000000000000000000 := by decide
    have : (2 : Nat) ^ 64 = 18446744073709551616 := by decide
    (first | lia | omega)
  simp only [hy, Bool.false_eq_true, if_false, Bool.and_eq_false_iff]
  left
  simp
  (first | lia | omega)
theorem fmod_range {x m : Int} (h : 0 < m) : 0 ≤ x.fmod m ∧ x.fmod m < m := ⟨Int.fmod_nonneg_of_pos x h, Int.fmod_lt_of_pos x h⟩

section
variable {X : Cx} {k : Nat}
theorem ct_take (b : Addr) (N m : Int) (h0 : 0 < m) (h1 : m ≤ 10 ^ 19) : CT X (k + 1) (.ref 410) [.raw (.ref b), .int m] [(b, .list [.int N])] (fun v O => ∃ r N', v = .int r ∧ 0 ≤ r ∧ r < m ∧ O = [(b, .list [.int N'])]) False := by
  refine ct_def (dargs := []) (dvals := []) [Str.ofString "bag", Str.ofString "many"] [0, 1] (fun P => rfl) (fun P => by kernel_rfl) (fun s P vals hK hl => ?bind) .nil (by decide +kernel) (by decide +kernel) rfl ?_
  case bind => obtain ⟨a, b, rfl⟩ := len2 hl; exact BindsTo.of_eq rfl
  refine ⟨_, fun L cells => (ts_cons (ts_assign (te_bin (te_sub (te_loc 0 rfl) (te_int)) (te_loc 1 rfl) tb_mod) (st_loc 2 rfl)) (ts_cons (ts_setitem (te_bin (te_sub (te_loc 0 rfl) (te_int)) (te_loc 1 rfl) tb_div) (te_loc 0 rfl) (te_int)) (ts_cons (ts_ret (te_loc 2 rfl)) ts_nil))), ?_⟩
  refine wloc_of rfl ?_
  refine ⟨[.int N], .int N, List.mem_cons_self, by decide, by decide, rfl, ?_⟩
  refine wloc_of rfl ?_
  refine ⟨by (first | lia | omega), ?_⟩
  refine wloc_of rfl ?_
  refine ⟨[.int N], .int N, List.mem_cons_self, by decide, by decide, rfl, ?_⟩
  refine wloc_of rfl ?_
  refine ⟨by (first | lia | omega), pylong_small h0 h1, ?_⟩
  refine wloc_of rfl ?_
  refine ⟨b, [.int N], 0, [], [], rfl, rfl, rfl, by decide, by decide, by simp, ?_⟩
  refine wloc_of rfl ?_
  have hr := fmod_range (x := N) h0
  exact ret1 ⟨_, _, rfl, hr.1, hr.2, rfl⟩

theorem wtake {b : Addr} {N m : Int} {loc : List (Option V)} {QV : V → St → Prop} {EV : Prop} (h0 : 0 < m) (h1 : m ≤ 10 ^ 19) (h : ∀ r N', 0 ≤ r → r < m → QV (.int r) ⟨loc, [(b, .list [.int N'])]⟩) : wCt X (k + 1) (.ref 410) [.raw (.ref b), .int m] QV EV ⟨loc, [(b, .list [.int N])]⟩ :=
  wctE (ct_take (k := k) b N m h0 h1) False.elim fun v O' ⟨r, N', e1, e2, e3, e4⟩ => by subst e1 e4; exact h r N' e2 e3

set_option maxHeartbeats 2000000 in
theorem ct_bag (a : Addr) (vals : Array Value) (ns : List Int) (hl : X.g0.IsList a vals) (hi : IntsAre vals.toList ns) (hz : vals.size ≤ 16777216) : CT X (k + 1) (.ref 417) [.raw (.ref a)] [] (fun v O => ∃ b N, v = .raw (.ref b) ∧ O = [(b, .list [.int N])]) False := by
  refine ct_def (dargs := []) (dvals := []) [Str.ofString "script"] [0] (fun P => rfl) (fun P => by kernel_rfl) (fun s P vals hK hl => ?bind) .nil (by decide +kernel) (by decide +kernel) rfl ?_
  case bind => obtain ⟨a, rfl⟩ := len1 hl; exact BindsTo.of_eq rfl
  refine ⟨_, fun L cells => (ts_cons (ts_assign (te_int) (st_loc 1 rfl)) (ts_cons (ts_for (te_lslice (te_loc 0 rfl) (te_int)) (st_loc 2 rfl) (ts_cons (ts_assign (te_bin (te_bin (te_loc 1 rfl) (te_int) tb_mul) (te_bin (te_loc 2 rfl) (te_bin (te_int) (te_int) tb_pow) tb_mod) tb_add) (st_loc 1 rfl)) ts_nil)) (ts_cons (ts_if (tt_cmp (te_loc 1 rfl) (te_bin (te_int) (te_int) tb_pow) tb_lt) (ts_cons (ts_assign (te_bin (te_loc 1 rfl) (te_int) tb_pow) (st_loc 1 rfl)) ts_nil) ts_nil) (ts_cons (ts_ret (te_listm (ta_cons (te_loc 1 rfl) ta_nil))) ts_nil)))), ?_⟩
  refine ⟨a, vals, ns, 24, rfl, hl, hi, rfl, by decide, hz, ?_⟩
  refine ⟨_, rfl, ?_⟩
  refine wFor_inv (fun r σ => ∃ N : Int, ∃ z, 1 < N ∧ σ = ⟨[some (.raw (.ref a)), some (.int N), z], []⟩ ∧ ∀ v ∈ r, ∃ n, v = .int n) (fun v r σ Q hI hQ => ?_) _ _ _ ⟨7, none, by decide, rfl, fun v hv => ?_⟩ fun σ1 hI => ?_
  · obtain ⟨N, z, hN, rfl, hr⟩ := hI
    obtain ⟨n, rfl⟩ := hr _ List.mem_cons_self
    refine wloc_of rfl ?_
    refine ⟨IntMulOk.of_right (by decide), ?_⟩
    refine wloc_of rfl ?_
    refine ⟨by decide, by decide, by decide +kernel, ?_⟩
    refine ⟨by decide, ?_⟩
    have := fmod_range (x := n) (m := 10 ^ 120) (by decide)
    exact hQ _ ⟨N * 1000033 + n.fmod (10 ^ 120), _, by omega, rfl, fun v hv => hr v (List.mem_cons_of_mem _ hv)⟩
  · obtain ⟨n, _, rfl⟩ := List.mem_map.mp hv
    exact ⟨n, rfl⟩
  · obtain ⟨N, z, hN, rfl, -⟩ := hI
    refine wloc_of rfl ?_
    refine ⟨by decide, by decide, by decide +kernel, ?_⟩
    by_cases h : N < 10 ^ 50
    · refine fcmp_of (EV := False) (b := true) (decide_eq_true h) ?_
      refine kif_t ?_
      refine wloc_of rfl ?_
      refine ⟨by decide, by omega, ?_, ?_⟩
      · have hb : Builtin.Int.intBits N ≤ 200 := intBits_le_iff.mpr (by
          have : (10 : Int) ^ 50 < 2 ^ 200 := by decide
          have : ((2 : Int) ^ 200) = ((2 ^ 200 : Nat) : Int) := by decide
          omega)
        unfold Builtin.Int.intTooBig
        rw [decide_eq_false_iff_not]
        have hl : (1400 : Int) ≤ ((bitsLine : Nat) : Int) := by decide +kernel
        omega
      · refine wloc_of rfl ?_
        first | refine ⟨Nat.le_of_ble_eq_true rfl, fun b => ?_⟩ | refine ⟨by simp, fun b => ?_⟩
        exact ret1 ⟨b, _, rfl, rfl⟩
    · refine fcmp_of (EV := False) (b := false) (decide_eq_false h) ?_
      refine kif_f ?_
      refine wloc_of rfl ?_
      first | refine ⟨Nat.le_of_ble_eq_true rfl, fun b => ?_⟩ | refine ⟨by simp, fun b => ?_⟩
      exact ret1 ⟨b, _, rfl, rfl⟩
end
end Mine
end

section
open PySem PySem.W PyProof.Rows PySem.Calls
namespace Mine

theorem compGo_invm {de : W V} {tgt : Nat} {EV : Prop} {loc0 : List (Option V)} (I : List V → List (Addr × MO) → Prop) :
    ∀ (items : List V), (∀ v ∈ items, ∀ (acc : List V) (objs : List (Addr × MO)) (Q : V → St → Prop), I acc objs → (∀ y objs', I (acc ++ [y]) objs' → Q y ⟨loc0.set tgt (some v), objs'⟩) → de Q EV ⟨loc0.set tgt (some v), objs⟩) →
    ∀ (acc : List V) (loc : List (Option V)) (objs : List (Addr × MO)) (K : List V → List (Addr × MO) → Prop), (∀ v, loc.set tgt (some v) = loc0.set tgt (some v)) → I acc objs → (∀ acc' objs', acc'.length = acc.length + items.length → I acc' objs' → K acc' objs') → wCompGo wYes de tgt items acc loc K EV objs
  | [], _, acc, loc, objs, K, _, hI, h => h acc objs rfl hI
  | v :: r, hs, acc, loc, objs, K, hl, hI, h => by
    unfold wCompGo wYes
    dsimp only
    rw [if_pos rfl, hl v]
    refine hs v List.mem_cons_self acc objs _ hI fun y objs' h' => ?_
    refine compGo_invm I r (fun u hu => hs u (List.mem_cons_of_mem _ hu)) _ _ _ _ (fun u => by simp) h' fun acc' objs'' hlen hI' => h acc' objs'' ?_ hI'
    rw [hlen]; simp; (first | lia | omega)

theorem snoc_int (ns : List Int) (x : Int) : ns.map V.int ++ [V.int x] = (ns ++ [x]).map V.int := by simp
section
variable {X : Cx} {k : Nat}
set_option maxHeartbeats 4000000 in
theorem ct_law_string (b : Addr) (N d : Int) : CT X (k + 2) (.ref 427) [.raw (.ref b), .int d] [(b, .list [.int N])] (fun v O => ∃ l N', v = .bytes l ∧ l.length ≤ 74 ∧ O = [(b, .list [.int N'])]) False := by
  refine ct_def (dargs := []) (dvals := []) [Str.ofString "bag", Str.ofString "depth"] [0, 1] (fun P => rfl) (fun P => by kernel_rfl) (fun s P vals hK hl => ?bind) .nil (by decide +kernel) (by decide +kernel) rfl ?_
  case bind => obtain ⟨a, b, rfl⟩ := len2 hl; exact BindsTo.of_eq rfl
  refine ⟨_, fun L cells => (ts_cons (ts_assign (te_sub (te_list (ta_cons (te_int) (ta_cons (te_int) (ta_cons (te_int) (ta_cons (te_int) (ta_cons (te_int) (ta_cons (te_int) (ta_cons (te_int) (ta_cons (te_int) ta_nil))))))))) (te_callt (te_glob 5 rfl (fun P => by kernel_rfl) (.raw (.ref 410))) (cw_keep fun P => by kernel_rfl) (ta_cons (te_loc 0 rfl) (ta_cons (te_int) ta_nil)))) (st_loc 2 rfl)) (ts_cons (ts_if (tt_cmp (te_loc 1 rfl) (te_int) tb_gt) (ts_cons (ts_assign (te_bin (te_loc 2 rfl) (te_int) tb_mod) (st_loc 2 rfl)) ts_nil) ts_nil) (ts_cons (ts_unpack2 (te_tuple (ta_cons (te_callt (te_glob 5 rfl (fun P => by kernel_rfl) (.raw (.ref 410))) (cw_keep fun P => by kernel_rfl) (ta_cons (te_loc 0 rfl) (ta_cons (te_int) ta_nil))) (ta_cons (te_callt (te_glob 5 rfl (fun P => by kernel_rfl) (.raw (.ref 410))) (cw_keep fun P => by kernel_rfl) (ta_cons (te_loc 0 rfl) (ta_cons (te_int) ta_nil))) ta_nil))) (st_cell 3 rfl) (st_cell 4 rfl)) (ts_cons (ts_if (tt_cmp (te_callt (te_glob 5 rfl (fun P => by kernel_rfl) (.raw (.ref 410))) (cw_keep fun P => by kernel_rfl) (ta_cons (te_loc 0 rfl) (ta_cons (te_int) ta_nil))) (te_int) tb_eq) (ts_cons (ts_ret (te_callb (te_bltn 6 rfl (fun P => by kernel_rfl) rfl (by decide)) (ta_cons (te_comp [(2, 3), (3, 4)] 1 (te_callb (te_bltn 7 rfl (fun P => by kernel_rfl) rfl (by decide)) (ta_cons (te_loc 2 rfl) ta_nil) tf_range) (by kernel_rfl) (fun _ hc => tifs_nil) (fun _ hc => te_sub (te_bytes) (te_bin (te_bin (te_cell 2 (by rw [hc]; rfl)) (te_bin (te_cell 3 (by rw [hc]; rfl)) (te_loc 1 (by rw [hc]; rfl)) tb_mul) tb_add) (te_int) tb_mod))) ta_nil) tf_bytes)) ts_nil) ts_nil) (ts_cons (ts_ret (te_callb (te_bltn 6 rfl (fun P => by kernel_rfl) rfl (by decide)) (ta_cons (te_comp [(2, 3), (3, 4)] 1 (te_callb (te_bltn 7 rfl (fun P => by kernel_rfl) rfl (by decide)) (ta_cons (te_loc 2 rfl) ta_nil) tf_range) (by kernel_rfl) (fun _ hc => tifs_nil) (fun _ hc => te_bin (te_bin (te_cell 2 (by rw [hc]; rfl)) (te_bin (te_cell 3 (by rw [hc]; rfl)) (te_loc 1 (by rw [hc]; rfl)) tb_mul) tb_add) (te_int) tb_mod)) ta_nil) tf_bytes)) ts_nil))))), ?_⟩
  first | refine ⟨Nat.le_of_ble_eq_true rfl, ?_⟩ | refine ⟨by simp, ?_⟩
  refine wloc_of rfl ?_
  refine wtake (k := k) (by decide) (by decide) fun r N1 hr0 hr1 => ?_
  obtain ⟨c, hc, hc0, hc1⟩ : ∃ c : Nat, ([V.int 0, V.int 1, V.int 2, V.int 5, V.int 71, V.int 72, V.int 73, V.int 74] : List V)[r.toNat]? = some (.int (c : Int)) ∧ 0 ≤ c ∧ c ≤ 74 := by
    have : r = 0 ∨ r = 1 ∨ r = 2 ∨ r = 3 ∨ r = 4 ∨ r = 5 ∨ r = 6 ∨ r = 7 := by (first | lia | omega)
    rcases this with rfl | rfl | rfl | rfl | rfl | rfl | rfl | rfl
    · exact ⟨0, rfl, by decide, by decide⟩
    · exact ⟨1, rfl, by decide, by decide⟩
    · exact ⟨2, rfl, by decide, by decide⟩
    · exact ⟨5, rfl, by decide, by decide⟩
    · exact ⟨71, rfl, by decide, by decide⟩
    · exact ⟨72, rfl, by decide, by decide⟩
    · exact ⟨73, rfl, by decide, by decide⟩
    · exact ⟨74, rfl, by decide, by decide⟩
  refine ⟨.int (c : Int), hr0, by (first | lia | omega), hc, ?_⟩
  refine wloc_of rfl ?_
  by_cases hd : 1 < d
  · refine fcmp_of (EV := False) (b := true) (decide_eq_true hd) ?_
    refine kif_t ?_
    refine wloc_of rfl ?_
    refine ⟨by decide, ?_⟩
    rw [show Int.fmod (c : Int) 6 = ((c % 6 : Nat) : Int) by rw [Int.fmod_eq_emod_of_nonneg _ (by decide)]; (first | lia | omega)]
    have hc6 : c % 6 ≤ 74 := by (first | lia | omega)
    generalize c % 6 = c at hc6
    refine wloc_of rfl ?_
    refine wtake (k := k) (by decide) (by decide) fun f N2 hf0 hf1 => ?_
    refine wloc_of rfl ?_
    refine wtake (k := k) (by decide) (by decide) fun st N3 hs0 hs1 => ?_
    first | refine ⟨Nat.le_of_ble_eq_true rfl, _, _, rfl, ?_⟩ | refine ⟨by simp, _, _, rfl, ?_⟩
    refine wloc_of rfl ?_
    refine wtake (k := k) (by decide) (by decide) fun w N4 hw0 hw1 => ?_
    by_cases hw : w = 0
    · refine feqi_of (EV := False) (b := true) (by simp [hw]) ?_
      refine kif_t ?_
      refine wloc_of rfl ?_
      refine ⟨_, range_items (n := c) (by (first | lia | omega)), by simp; (first | lia | omega), ?_⟩
      refine compGo_invm (loc0 := [none, none, some (.int f), some (.int st)]) (fun acc objs => ∃ ns : List Int, acc = ns.map V.int ∧ (∀ n ∈ ns, 0 ≤ n ∧ n < 256) ∧ objs = [(b, .list [.int N4])]) _ (fun v hv acc objs Q hI h => ?_) _ _ _ _ (fun v => rfl) ⟨[], rfl, by simp, rfl⟩ (fun acc' objs' hlen hI => ?_)
      · obtain ⟨i, hi, rfl⟩ := List.mem_map.mp hv
        obtain ⟨ns, rfl, hns, rfl⟩ := hI
        refine wloc_of rfl ?_
        refine wloc_of rfl ?_
        refine wloc_of rfl ?_
        refine ⟨IntMulOk.of_left (intBits_le_64 (by (first | lia | omega)) (by (first | lia | omega))), ?_⟩
        refine ⟨by decide, ?_⟩
        have hr := fmod_range (x := f + st * ((0 : Int) + (i : Int))) (m := 11) (by decide)
        generalize Int.fmod (f + st * ((0 : Int) + (i : Int))) 11 = j at hr ⊢
        have hj : j.toNat < 11 := by (first | lia | omega)
        refine ⟨_, hr.1, List.getElem?_eq_getElem hj, by decide, ?_⟩
        refine h _ _ ⟨ns ++ [_], snoc_int _ _, fun n hn => ?_, rfl⟩
        rcases List.mem_append.mp hn with hn | hn
        · exact hns n hn
        · rw [List.mem_singleton.mp hn]
          exact ⟨Int.natCast_nonneg _, by exact_mod_cast UInt8.toNat_lt _⟩
      · obtain ⟨ns, rfl, hns, rfl⟩ := hI
        simp only [List.length_map, List.length_nil, List.length_range, Nat.zero_add] at hlen
        refine ⟨ns, rfl, hns, by (first | lia | omega), ?_⟩
        exact ret1 ⟨bytesN ns, N4, rfl, by unfold bytesN; rw [List.length_map]; (first | lia | omega), rfl⟩
    · refine feqi_of (EV := False) (b := false) (beq_eq_false_iff_ne.mpr hw) ?_
      refine kif_f ?_
      refine wloc_of rfl ?_
      refine ⟨_, range_items (n := c) (by (first | lia | omega)), by simp; (first | lia | omega), ?_⟩
      refine compGo_invm (loc0 := [none, none, some (.int f), some (.int st)]) (fun acc objs => ∃ ns : List Int, acc = ns.map V.int ∧ (∀ n ∈ ns, 0 ≤ n ∧ n < 256) ∧ objs = [(b, .list [.int N4])]) _ (fun v hv acc objs Q hI h => ?_) _ _ _ _ (fun v => rfl) ⟨[], rfl, by simp, rfl⟩ (fun acc' objs' hlen hI => ?_)
      · obtain ⟨i, hi, rfl⟩ := List.mem_map.mp hv
        obtain ⟨ns, rfl, hns, rfl⟩ := hI
        refine wloc_of rfl ?_
        refine wloc_of rfl ?_
        refine wloc_of rfl ?_
        refine ⟨IntMulOk.of_left (intBits_le_64 (by (first | lia | omega)) (by (first | lia | omega))), ?_⟩
        refine ⟨by decide, ?_⟩
        have hr := fmod_range (x := f + st * ((0 : Int) + (i : Int))) (m := 256) (by decide)
        refine h _ _ ⟨ns ++ [_], snoc_int _ _, fun n hn => ?_, rfl⟩
        rcases List.mem_append.mp hn with hn | hn
        · exact hns n hn
        · rw [List.mem_singleton.mp hn]; exact hr
      · obtain ⟨ns, rfl, hns, rfl⟩ := hI
        simp only [List.length_map, List.length_nil, List.length_range, Nat.zero_add] at hlen
        refine ⟨ns, rfl, hns, by (first | lia | omega), ?_⟩
        exact ret1 ⟨bytesN ns, N4, rfl, by unfold bytesN; rw [List.length_map]; (first | lia | omega), rfl⟩
  · refine fcmp_of (EV := False) (b := false) (decide_eq_false hd) ?_
    refine kif_f ?_
    refine wloc_of rfl ?_
    refine wtake (k := k) (by decide) (by decide) fun f N2 hf0 hf1 => ?_
    refine wloc_of rfl ?_
    refine wtake (k := k) (by decide) (by decide) fun st N3 hs0 hs1 => ?_
    first | refine ⟨Nat.le_of_ble_eq_true rfl, _, _, rfl, ?_⟩ | refine ⟨by simp, _, _, rfl, ?_⟩
    refine wloc_of rfl ?_
    refine wtake (k := k) (by decide) (by decide) fun w N4 hw0 hw1 => ?_
    by_cases hw : w = 0
    · refine feqi_of (EV := False) (b := true) (by simp [hw]) ?_
      refine kif_t ?_
      refine wloc_of rfl ?_
      refine ⟨_, range_items (n := c) (by (first | lia | omega)), by simp; (first | lia | omega), ?_⟩
      refine compGo_invm (loc0 := [none, none, some (.int f), some (.int st)]) (fun acc objs => ∃ ns : List Int, acc = ns.map V.int ∧ (∀ n ∈ ns, 0 ≤ n ∧ n < 256) ∧ objs = [(b, .list [.int N4])]) _ (fun v hv acc objs Q hI h => ?_) _ _ _ _ (fun v => rfl) ⟨[], rfl, by simp, rfl⟩ (fun acc' objs' hlen hI => ?_)
      · obtain ⟨i, hi, rfl⟩ := List.mem_map.mp hv
        obtain ⟨ns, rfl, hns, rfl⟩ := hI
        refine wloc_of rfl ?_
        refine wloc_of rfl ?_
        refine wloc_of rfl ?_
        refine ⟨IntMulOk.of_left (intBits_le_64 (by (first | lia | omega)) (by (first | lia | omega))), ?_⟩
        refine ⟨by decide, ?_⟩
        have hr := fmod_range (x := f + st * ((0 : Int) + (i : Int))) (m := 11) (by decide)
        generalize Int.fmod (f + st * ((0 : Int) + (i : Int))) 11 = j at hr ⊢
        have hj : j.toNat < 11 := by (first | lia | omega)
        refine ⟨_, hr.1, List.getElem?_eq_getElem hj, by decide, ?_⟩
        refine h _ _ ⟨ns ++ [_], snoc_int _ _, fun n hn => ?_, rfl⟩
        rcases List.mem_append.mp hn with hn | hn
        · exact hns n hn
        · rw [List.mem_singleton.mp hn]
          exact ⟨Int.natCast_nonneg _, by exact_mod_cast UInt8.toNat_lt _⟩
      · obtain ⟨ns, rfl, hns, rfl⟩ := hI
        simp only [List.length_map, List.length_nil, List.length_range, Nat.zero_add] at hlen
        refine ⟨ns, rfl, hns, by (first | lia | omega), ?_⟩
        exact ret1 ⟨bytesN ns, N4, rfl, by unfold bytesN; rw [List.length_map]; (first | lia | omega), rfl⟩
    · refine feqi_of (EV := False) (b := false) (beq_eq_false_iff_ne.mpr hw) ?_
      refine kif_f ?_
      refine wloc_of rfl ?_
      refine ⟨_, range_items (n := c) (by (first | lia | omega)), by simp; (first | lia | omega), ?_⟩
      refine compGo_invm (loc0 := [none, none, some (.int f), some (.int st)]) (fun acc objs => ∃ ns : List Int, acc = ns.map V.int ∧ (∀ n ∈ ns, 0 ≤ n ∧ n < 256) ∧ objs = [(b, .list [.int N4])]) _ (fun v hv acc objs Q hI h => ?_) _ _ _ _ (fun v => rfl) ⟨[], rfl, by simp, rfl⟩ (fun acc' objs' hlen hI => ?_)
      · obtain ⟨i, hi, rfl⟩ := List.mem_map.mp hv
        obtain ⟨ns, rfl, hns, rfl⟩ := hI
        refine wloc_of rfl ?_
        refine wloc_of rfl ?_
        refine wloc_of rfl ?_
        refine ⟨IntMulOk.of_left (intBits_le_64 (by (first | lia | omega)) (by (first | lia | omega))), ?_⟩
        refine ⟨by decide, ?_⟩
        have hr := fmod_range (x := f + st * ((0 : Int) + (i : Int))) (m := 256) (by decide)
        refine h _ _ ⟨ns ++ [_], snoc_int _ _, fun n hn => ?_, rfl⟩
        rcases List.mem_append.mp hn with hn | hn
        · exact hns n hn
        · rw [List.mem_singleton.mp hn]; exact hr
      · obtain ⟨ns, rfl, hns, rfl⟩ := hI
        simp only [List.length_map, List.length_nil, List.length_range, Nat.zero_add] at hlen
        refine ⟨ns, rfl, hns, by (first | lia | omega), ?_⟩
        exact ret1 ⟨bytesN ns, N4, rfl, by unfold bytesN; rw [List.length_map]; (first | lia | omega), rfl⟩
end
end Mine
end

section
open PySem PySem.W PyProof.Rows PySem.Calls
namespace Mine

theorem uni_digit : ∀ c, c < 128 → Unicode.isDigit c = (decide (48 ≤ c) && decide (c ≤ 57)) := by decide +kernel
theorem isdig_eq {l : List Nat} (h : ∀ c ∈ l, c < 127) (hne : l ≠ []) : Txt.isdigit (strD l) = (textB l).all isFigB := by
  unfold Txt.isdigit
  have h1 : decide ((strD l).length > 0) = true := by
    rw [strD_len]; exact decide_eq_true (List.length_pos_iff.mpr hne)
  rw [h1, Bool.true_and]
  show l.toArray.all Unicode.isDigit = _
  rw [List.all_toArray]
  clear h1 hne
  induction l with
  | nil => rfl
  | cons c r ih =>
    have hc := h c List.mem_cons_self
    have e : isFigB c.toUInt8 = (decide (48 ≤ c) && decide (c ≤ 57)) := by
      unfold isFigB
      have e1 : (c.toUInt8.toNat : Int) = c := by simp; (first | lia | omega)
      rw [e1]
      congr 1 <;> exact decide_eq_decide.mpr (by (first | lia | omega))
    rw [List.all_cons, uni_digit c (by (first | lia | omega)), ih fun d hd => h d (List.mem_cons_of_mem _ hd)]
    simp only [textB, List.map_cons, List.all_cons, e]
theorem lower_eq {l : List Nat} (h : ∀ c ∈ l, c < 127) : (Txt.lower (strD l)).cps.toList = l.map lo1 := by
  rw [lower_ascii fun c hc => by have := h c (by simpa using hc); omega]
  simp
theorem lowerB_eq {l : List Nat} (h : ∀ c ∈ l, c < 127) : lowerB (textB l) = textB (l.map lo1) := by
  unfold lowerB textB
  rw [List.map_map, List.map_map]
  refine List.map_congr_left fun c hc => ?_
  have := h c hc
  have e1 : (c.toUInt8.toNat : Int) = c := by simp; (first | lia | omega)
  simp only [Function.comp_apply]
  rw [e1]
  unfold lowerI lo1
  split
  · rw [if_pos (by (first | lia | omega))]
    congr 1
  · rw [if_neg (by (first | lia | omega))]
    congr 1
theorem lo1_lt {c : Nat} (h : c < 127) : lo1 c < 256 := by unfold lo1; split <;> (first | lia | omega)
theorem nil_iff {l : List Nat} (h : ∀ c ∈ l, c < 127) : lowerB (textB l) = nilB ↔ l.map lo1 = [110, 105, 108] := by
  rw [lowerB_eq h]
  constructor
  · intro e
    have := congrArg byteT e
    rw [byteT_textB fun c hc => by
      obtain ⟨d, hd, rfl⟩ := List.mem_map.mp hc
      exact lo1_lt (h d hd)] at this
    exact this
  · intro e; rw [e]; rfl

/-- a sign of an atom -/
noncomputable def okC (c : Nat) : Prop := 33 ≤ c ∧ c < 127 ∧ isValI (c : Int) = true
noncomputable def sSpec : List Nat := [40, 41, 123, 34, 93]
noncomputable def codesI : List Nat := (List.range 94).filter fun i => !Txt.contains (strD sSpec) (strD [((33 : Int) + (i : Int)).toNat])
theorem codesI_len : codesI.length = 89 := by decide +kernel
theorem codesI_ok : ∀ i ∈ codesI, (33 ≤ i + 33 ∧ i + 33 < 127 ∧ isValI ((i + 33 : Nat) : Int) = true) := by decide +kernel
theorem flat_map_single : ∀ l : List Nat, (l.map fun c => [c]).flatten = l := flat_single

theorem atom_a {l : List Nat} (hl : l.length ≤ 4) (hne : l ≠ []) (h : ∀ c ∈ l, okC c) (hd : (textB l).all isFigB = true) : atomOK (97 :: l) := by
  first | refine ⟨Nat.le_of_ble_eq_true rfl, by simp; (first | lia | omega), fun c hc => ?_, ?_, ?_⟩ | refine ⟨by simp, by simp; (first | lia | omega), fun c hc => ?_, ?_, ?_⟩
  · rcases List.mem_cons.mp hc with rfl | hc
    · exact ⟨by decide, by decide⟩
    · exact ⟨(h c hc).2.1, (h c hc).2.2⟩
  · simp only [textB, List.map_cons, List.all_cons]
    rw [show isFigB (97 : Nat).toUInt8 = false by decide]; rfl
  · intro e
    simp only [textB, lowerB, List.map_cons] at e
    have := (List.cons.inj e).1
    revert this; decide
theorem atom_x {l : List Nat} (hl : l.length ≤ 4) (h : ∀ c ∈ l, okC c) (hd : l.map lo1 = [110, 105, 108]) : atomOK (l ++ [120]) := by
  first | refine ⟨Nat.le_of_ble_eq_true rfl, by simp; (first | lia | omega), fun c hc => ?_, ?_, ?_⟩ | refine ⟨by simp, by simp; (first | lia | omega), fun c hc => ?_, ?_, ?_⟩
  · rcases List.mem_append.mp hc with hc | hc
    · exact ⟨(h c hc).2.1, (h c hc).2.2⟩
    · rw [List.mem_singleton.mp hc]; exact ⟨by decide, by decide⟩
  · simp only [textB, List.map_append, List.all_append, List.map_cons, List.all_cons]
    rw [show isFigB (120 : Nat).toUInt8 = false by decide]; simp
  · intro e
    have h1 := congrArg List.length e
    have h2 := congrArg List.length hd
    simp [textB, lowerB, nilB] at h1 h2
    (first | lia | omega)
theorem atom_p {l : List Nat} (hl : l.length ≤ 4) (hne : l ≠ []) (h : ∀ c ∈ l, okC c) (hd : (textB l).all isFigB = false) (hn : l.map lo1 ≠ [110, 105, 108]) : atomOK l :=
  ⟨hne, by (first | lia | omega), fun c hc => ⟨(h c hc).2.1, (h c hc).2.2⟩, hd, fun e => hn ((nil_iff fun c hc => (h c hc).2.1).mp e)⟩

section
variable {X : Cx} {k : Nat}
set_option maxHeartbeats 4000000 in
theorem ct_law_atom (b : Addr) (N : Int) : CT X (k + 2) (.ref 422) [.raw (.ref b)] [(b, .list [.int N])] (fun v O => ∃ l N', v = .str l ∧ atomOK l ∧ O = [(b, .list [.int N'])]) False := by
  refine ct_def (dargs := []) (dvals := []) [Str.ofString "bag"] [0] (fun P => rfl) (fun P => by kernel_rfl) (fun s P vals hK hl => ?bind) .nil (by decide +kernel) (by decide +kernel) rfl ?_
  case bind => obtain ⟨a, rfl⟩ := len1 hl; exact BindsTo.of_eq rfl
  refine ⟨_, fun L cells => (ts_cons (ts_assign (te_comp [] 1 (te_callb (te_bltn 3 rfl (fun P => by kernel_rfl) rfl (by decide)) (ta_cons (te_int) (ta_cons (te_int) ta_nil)) tf_range) (by kernel_rfl) (fun _ hc => (tifs_one (tt_cmp (te_callb (te_bltn 2 (by rw [hc]; rfl) (fun P => by kernel_rfl) rfl (by decide)) (ta_cons (te_loc 1 (by rw [hc]; rfl)) ta_nil) tf_chr) (te_str (l := sSpec) (by decide +kernel)) tb_notin))) (fun _ hc => te_loc 1 (by rw [hc]; rfl))) (st_cell 1 rfl)) (ts_cons (ts_assign (te_methb (te_str (l := []) (by decide +kernel)) (tm_str F.slot_str_join rfl) (ta_cons (te_comp [(5, 0), (6, 1)] 1 (te_callb (te_bltn 3 rfl (fun P => by kernel_rfl) rfl (by decide)) (ta_cons (te_bin (te_int) (te_callt (te_glob 4 rfl (fun P => by kernel_rfl) (.raw (.ref 410))) (cw_keep fun P => by kernel_rfl) (ta_cons (te_cell 0 rfl) (ta_cons (te_int) ta_nil))) tb_add) ta_nil) tf_range) (by kernel_rfl) (fun _ hc => tifs_nil) (fun _ hc => te_callb (te_bltn 2 (by rw [hc]; rfl) (fun P => by kernel_rfl) rfl (by decide)) (ta_cons (te_sub (te_cell 6 (by rw [hc]; rfl)) (te_callt (te_glob 3 (by rw [hc]; rfl) (fun P => by kernel_rfl) (.raw (.ref 410))) (cw_keep fun P => by kernel_rfl) (ta_cons (te_cell 5 (by rw [hc]; rfl)) (ta_cons (te_callb (te_bltn 4 (by rw [hc]; rfl) (fun P => by kernel_rfl) rfl (by decide)) (ta_cons (te_cell 6 (by rw [hc]; rfl)) ta_nil) tf_len) ta_nil)))) ta_nil) tf_chr)) ta_nil) tf_join0) (st_loc 2 rfl)) (ts_cons (ts_if (tt_val (te_methb (te_loc 2 rfl) (tm_str F.slot_str_isdigit rfl) ta_nil tf_isdigit)) (ts_cons (ts_ret (te_bin (te_str (l := [97]) (by decide +kernel)) (te_loc 2 rfl) tb_add)) ts_nil) ts_nil) (ts_cons (ts_ret (te_ifexp (tt_cmp (te_methb (te_loc 2 rfl) (tm_str F.slot_str_lower rfl) ta_nil tf_lower) (te_str (l := [110, 105, 108]) (by decide +kernel)) tb_eq) (te_bin (te_loc 2 rfl) (te_str (l := [120]) (by decide +kernel)) tb_add) (te_loc 2 rfl))) ts_nil)))), ?_⟩
  refine ⟨_, rfl, by simp, ?_⟩
  refine compGo_filter (loc0 := [none, none, none]) (p := fun v => match v with | .int n => !Txt.contains (strD sSpec) (strD [n.toNat]) | _ => false) (f := id) _ (fun v hv Q h => ?_) (fun v hv _ Q h => ?_) _ _ _ (fun v => rfl) ?_
  · obtain ⟨i, hi, rfl⟩ := List.mem_map.mp hv
    have := List.mem_range.mp hi
    refine wloc_of rfl ?_
    refine ⟨by (first | lia | omega), by simp at this; (first | lia | omega), ?_⟩
    exact h
  · obtain ⟨i, hi, rfl⟩ := List.mem_map.mp hv
    refine wloc_of rfl ?_
    exact h
  have hcodes : ([] : List V) ++ (((List.range ((127 : Int) - 33).toNat).map fun (i : Nat) => V.int ((33 : Int) + (i : Int))).filter fun v => match v with | .int n => !Txt.contains (strD sSpec) (strD [n.toNat]) | _ => false).map id = codesI.map fun (i : Nat) => V.int ((33 : Int) + (i : Int)) := by
    rw [List.nil_append, List.map_id, List.filter_map]; rfl
  rw [hcodes]
  refine ⟨trivial, ?_⟩
  refine wloc_of rfl ?_
  refine wtake (k := k) (by decide) (by decide) fun r N1 hr0 hr1 => ?_
  obtain ⟨m, rfl⟩ := Int.eq_ofNat_of_zero_le hr0
  refine fadd_i ?_
  rw [show (1 : Int) + (m : Int) = ((1 + m : Nat) : Int) by (first | lia | omega)]
  refine ⟨_, range_items (n := 1 + m) (by (first | lia | omega)), by simp; (first | lia | omega), ?_⟩
  refine compGo_invm (loc0 := [none, none, none, none, none, some (.raw (.ref b)), some (.list (codesI.map fun (i : Nat) => V.int ((33 : Int) + (i : Int))))]) (fun acc objs => ∃ (ys : List Nat) (N2 : Int), acc = ys.map (fun c => V.str [c]) ∧ (∀ c ∈ ys, okC c) ∧ objs = [(b, .list [.int N2])]) _ (fun v hv acc objs Q hI h => ?_) _ _ _ _ (fun v => rfl) ⟨[], N1, rfl, by simp, rfl⟩ (fun acc' objs' hlen hI => ?_)
  · obtain ⟨ys, N2, rfl, hys, rfl⟩ := hI
    refine wloc_of rfl ?_
    refine wloc_of rfl ?_
    refine wloc_of rfl ?_
    refine ⟨by rw [List.length_map, codesI_len]; decide, ?_⟩
    rw [List.length_map, codesI_len]
    refine wtake (k := k) (by decide) (by decide) fun r N3 h0 h1 => ?_
    have hr : r.toNat < codesI.length := by rw [codesI_len]; (first | lia | omega)
    have hok := codesI_ok codesI[r.toNat] (List.getElem_mem hr)
    refine ⟨.int ((33 : Int) + (codesI[r.toNat] : Nat)), h0, by (first | lia | omega), by rw [List.getElem?_map, List.getElem?_eq_getElem hr]; rfl, ?_⟩
    generalize codesI[r.toNat] = i at hok
    refine ⟨by (first | lia | omega), by (first | lia | omega), ?_⟩
    rw [show ((33 : Int) + (i : Int)).toNat = i + 33 by (first | lia | omega)]
    refine h _ _ ⟨ys ++ [i + 33], N3, by simp, fun c hc => ?_, rfl⟩
    rcases List.mem_append.mp hc with hc | hc
    · exact hys c hc
    · rw [List.mem_singleton.mp hc]; exact ⟨by (first | lia | omega), hok.2.1, hok.2.2⟩
  · obtain ⟨ys, N2, rfl, hys, rfl⟩ := hI
    simp only [List.length_map, List.length_nil, List.length_range, Nat.zero_add] at hlen
    have hne : ys ≠ [] := by rintro rfl; simp at hlen; (first | lia | omega)
    have h4 : ys.length ≤ 4 := by (first | lia | omega)
    have hlt : ∀ c ∈ ys, c < 127 := fun c hc => (hys c hc).2.1
    refine ⟨ys.map fun c => [c], by rw [List.map_map]; rfl, by rw [flat_map_single]; (first | lia | omega), ?_⟩
    rw [flat_map_single]
    refine wloc_of rfl ?_
    refine ⟨trivial, ?_⟩
    refine wisd_of (isdig_eq hlt hne) ?_
    cases hd : (textB ys).all isFigB with
    | true =>
      refine bif_t ?_
      refine wloc_of rfl ?_
      refine ⟨by simp; (first | lia | omega), ?_⟩
      exact ret1 ⟨_, N2, rfl, atom_a h4 hne hys hd, rfl⟩
    | false =>
      refine bif_f ?_
      refine wloc_of rfl ?_
      refine ⟨trivial, ?_⟩
      refine ⟨fit_lower (by rw [strD_len]; (first | lia | omega)), ?_⟩
      rw [lower_eq hlt]
      by_cases hn : ys.map lo1 = [110, 105, 108]
      · refine feqs_of (EV := False) (b := true) (by rw [hn]; rfl) ?_
        refine kif_t ?_
        refine wloc_of rfl ?_
        refine ⟨by simp; (first | lia | omega), ?_⟩
        exact ret1 ⟨_, N2, rfl, atom_x h4 hys hn, rfl⟩
      · refine feqs_of (EV := False) (b := false) (beq_eq_false_iff_ne.mpr hn) ?_
        refine kif_f ?_
        refine wloc_of rfl ?_
        exact ret1 ⟨_, N2, rfl, atom_p h4 hne hys hd hn, rfl⟩
end
end Mine
end

section
open PySem PySem.W PyProof.Rows PySem.Calls
namespace Mine

mutual
/-- what the law draws -/
noncomputable def T.fine : T → Prop
  | .nil => True
  | .num n => n < 10 ^ 19
  | .str l => l.length ≤ 74
  | .atom l => atomOK l
  | .list ts => ts.length ≤ 3 ∧ T.fines ts
noncomputable def T.fines : List T → Prop
  | [] => True
  | t :: r => t.fine ∧ T.fines r
end
mutual
noncomputable def T.sz : T → Nat
  | .list ts => T.szs ts + 1
  | _ => 1
noncomputable def T.szs : List T → Nat
  | [] => 0
  | t :: r => t.sz + T.szs r
end
theorem T.fines_of : ∀ {ts : List T}, (∀ t ∈ ts, t.fine) → T.fines ts
  | [], _ => trivial
  | t :: r, h => ⟨h t List.mem_cons_self, T.fines_of fun u hu => h u (List.mem_cons_of_mem _ hu)⟩
theorem T.fines_mem : ∀ {ts : List T} {u : T}, T.fines ts → u ∈ ts → u.fine
  | t :: r, u, h, hm => by
    rw [T.fines] at h
    rcases List.mem_cons.mp hm with rfl | hm
    · exact h.1
    · exact T.fines_mem h.2 hm
theorem T.szs_le {B : Nat} : ∀ {ts : List T}, (∀ t ∈ ts, t.sz ≤ B) → T.szs ts ≤ ts.length * B
  | [], _ => Nat.zero_le _
  | t :: r, h => by
    rw [T.szs, List.length_cons, Nat.succ_mul]
    have h1 := h t List.mem_cons_self
    have h2 := T.szs_le fun u hu => h u (List.mem_cons_of_mem t hu)
    (first | lia | omega)
noncomputable def Bz : Nat → Nat
  | 0 => 22
  | 1 => 7
  | 2 => 3
  | _ => 1

section
variable {X : Cx} {k : Nat}
set_option maxHeartbeats 4000000 in
theorem law_value_def (b : Addr) (N : Int) (d : Nat) (hd : d ≤ 3)
    (ih : d < 3 → ∀ N, CT X (k + 3) (.ref 432) [.raw (.ref b), .int ((d : Int) + 1)] [(b, .list [.int N])] (fun v O => ∃ (t : T) (N' : Int), v = t.toV ∧ t.fine ∧ t.dep + (d + 1) ≤ 3 ∧ t.sz ≤ Bz (d + 1) ∧ O = [(b, .list [.int N'])]) False) :
    CT X (k + 4) (.ref 432) [.raw (.ref b), .int (d : Int)] [(b, .list [.int N])] (fun v O => ∃ (t : T) (N' : Int), v = t.toV ∧ t.fine ∧ t.dep + d ≤ 3 ∧ t.sz ≤ Bz d ∧ O = [(b, .list [.int N'])]) False := by
  have B1 : 1 ≤ Bz d := by unfold Bz; split <;> (first | lia | omega)
  refine ct_def (dargs := []) (dvals := []) [Str.ofString "bag", Str.ofString "depth"] [0, 1] (fun P => rfl) (fun P => by kernel_rfl) (fun s P vals hK hl => ?bind) .nil (by decide +kernel) (by decide +kernel) rfl ?_
  case bind => obtain ⟨a, b, rfl⟩ := len2 hl; exact BindsTo.of_eq rfl
  refine ⟨_, fun L cells => (ts_cons (ts_assign (te_callt (te_glob 3 rfl (fun P => by kernel_rfl) (.raw (.ref 410))) (cw_keep fun P => by kernel_rfl) (ta_cons (te_cell 0 rfl) (ta_cons (te_int) ta_nil))) (st_loc 2 rfl)) (ts_cons (ts_if (tt_cmp (te_loc 2 rfl) (te_int) tb_eq) (ts_cons (ts_ret (te_none)) ts_nil) ts_nil) (ts_cons (ts_if (tt_cmp (te_loc 2 rfl) (te_int) tb_eq) (ts_cons (ts_ret (te_sub (te_list (ta_cons (te_int) (ta_cons (te_int) (ta_cons (te_int) (ta_cons (te_bin (te_bin (te_int) (te_int) tb_pow) (te_int) tb_sub) (ta_cons (te_callt (te_glob 3 rfl (fun P => by kernel_rfl) (.raw (.ref 410))) (cw_keep fun P => by kernel_rfl) (ta_cons (te_cell 0 rfl) (ta_cons (te_bin (te_int) (te_int) tb_pow) ta_nil))) ta_nil)))))) (te_callt (te_glob 3 rfl (fun P => by kernel_rfl) (.raw (.ref 410))) (cw_keep fun P => by kernel_rfl) (ta_cons (te_cell 0 rfl) (ta_cons (te_int) ta_nil))))) ts_nil) ts_nil) (ts_cons (ts_if (tt_cmp (te_loc 2 rfl) (te_int) tb_eq) (ts_cons (ts_ret (te_callt (te_glob 4 rfl (fun P => by kernel_rfl) (.raw (.ref 427))) (cw_keep fun P => by kernel_rfl) (ta_cons (te_cell 0 rfl) (ta_cons (te_cell 1 rfl) ta_nil)))) ts_nil) ts_nil) (ts_cons (ts_if (tt_bool (tts_or (tt_cmp (te_loc 2 rfl) (te_int) tb_eq) (tts_or (tt_cmp (te_cell 1 rfl) (te_int) tb_eq) tts_or_nil))) (ts_cons (ts_ret (te_callt (te_glob 5 rfl (fun P => by kernel_rfl) (.raw (.ref 124))) (cw_keep fun P => by kernel_rfl) (ta_cons (te_callt (te_glob 6 rfl (fun P => by kernel_rfl) (.raw (.ref 422))) (cw_keep fun P => by kernel_rfl) (ta_cons (te_cell 0 rfl) ta_nil)) ta_nil))) ts_nil) ts_nil) (ts_cons (ts_ret (te_comp [(3, 0), (4, 1)] 1 (te_callb (te_bltn 7 rfl (fun P => by kernel_rfl) rfl (by decide)) (ta_cons (te_callt (te_glob 3 rfl (fun P => by kernel_rfl) (.raw (.ref 410))) (cw_keep fun P => by kernel_rfl) (ta_cons (te_cell 0 rfl) (ta_cons (te_ifexp (tt_cmp (te_cell 1 rfl) (te_int) tb_eq) (te_int) (te_int)) ta_nil))) ta_nil) tf_range) (by kernel_rfl) (fun _ hc => tifs_nil) (fun _ hc => te_callt (te_glob 2 (by rw [hc]; rfl) (fun P => by kernel_rfl) (.raw (.ref 432))) (cw_keep fun P => by kernel_rfl) (ta_cons (te_cell 3 (by rw [hc]; rfl)) (ta_cons (te_bin (te_cell 4 (by rw [hc]; rfl)) (te_int) tb_add) ta_nil))))) ts_nil)))))), ?_⟩
  refine wloc_of rfl ?_
  refine wtake (k := k + 2) (by decide) (by decide) fun w N1 hw0 hw1 => ?_
  refine wloc_of rfl ?_
  by_cases w0 : w = 0
  · refine feqi_of (EV := False) (b := true) (by simp [w0]) ?_
    refine kif_t ?_
    exact ret1 ⟨.nil, N1, rfl, trivial, by simp [T.dep]; (first | lia | omega), by simp [T.sz]; (first | lia | omega), rfl⟩
  refine feqi_of (EV := False) (b := false) (beq_eq_false_iff_ne.mpr w0) ?_
  refine kif_f ?_
  refine wloc_of rfl ?_
  by_cases w1 : w = 1
  · refine feqi_of (EV := False) (b := true) (by simp [w1]) ?_
    refine kif_t ?_
    refine ⟨by decide, by decide, by decide +kernel, ?_⟩
    refine fari_i ?_
    refine wloc_of rfl ?_
    refine ⟨by decide, by decide, by decide +kernel, ?_⟩
    refine wtake (k := k + 2) (by decide) (by decide) fun n N2 hn0 hn1 => ?_
    first | refine ⟨Nat.le_of_ble_eq_true rfl, ?_⟩ | refine ⟨by simp, ?_⟩
    refine wloc_of rfl ?_
    refine wtake (k := k + 2) (by decide) (by decide) fun r N3 hr0 hr1 => ?_
    obtain ⟨m, rfl⟩ := Int.eq_ofNat_of_zero_le hn0
    have hm : m < 10 ^ 19 := by
      have e1 : (10 : Int) ^ (19 : Int).toNat = 10000000000000000000 := by decide
      rw [e1] at hn1
      (first | lia | omega)
    obtain ⟨c, hc, hcl⟩ : ∃ c : Nat, ([V.int 0, V.int 7, V.int 10, V.int ((10 : Int) ^ (19 : Int).toNat - 1), V.int (m : Int)] : List V)[r.toNat]? = some (.int (c : Int)) ∧ c < 10 ^ 19 := by
      have : r = 0 ∨ r = 1 ∨ r = 2 ∨ r = 3 ∨ r = 4 := by (first | lia | omega)
      rcases this with rfl | rfl | rfl | rfl | rfl
      · exact ⟨0, rfl, by decide⟩
      · exact ⟨7, rfl, by decide⟩
      · exact ⟨10, rfl, by decide⟩
      · exact ⟨10 ^ 19 - 1, rfl, by decide⟩
      · exact ⟨m, rfl, hm⟩
    refine ⟨.int (c : Int), hr0, by (first | lia | omega), hc, ?_⟩
    exact ret1 ⟨.num c, N3, rfl, hcl, by simp [T.dep]; (first | lia | omega), by simp [T.sz]; (first | lia | omega), rfl⟩
  refine feqi_of (EV := False) (b := false) (beq_eq_false_iff_ne.mpr w1) ?_
  refine kif_f ?_
  refine wloc_of rfl ?_
  by_cases w2 : w = 2
  · refine feqi_of (EV := False) (b := true) (by simp [w2]) ?_
    refine kif_t ?_
    refine wloc_of rfl ?_
    refine wloc_of rfl ?_
    refine wctE (CT.up (ct_law_string (k := k) b N1 d) (by (first | lia | omega))) False.elim fun v O' hv => ?_
    obtain ⟨l, N2, rfl, hl, rfl⟩ := hv
    exact ret1 ⟨.str l, N2, rfl, hl, by simp [T.dep]; (first | lia | omega), by simp [T.sz]; (first | lia | omega), rfl⟩
  refine feqi_of (EV := False) (b := false) (beq_eq_false_iff_ne.mpr w2) ?_
  refine kif_f ?_
  refine wloc_of rfl ?_
  by_cases w3 : w = 3
  · refine feqi_of (EV := False) (b := true) (by simp [w3]) ?_
    refine kif_t ?_
    refine kif_t ?_
    refine wloc_of rfl ?_
    refine wctE (CT.up (ct_law_atom (k := k) b N1) (by (first | lia | omega))) False.elim fun v O' hv => ?_
    obtain ⟨l, N2, rfl, hl, rfl⟩ := hv
    refine wctF [(b, .list [.int N2])] [] [] (CT.up (ct_Atom (k := k) l) (by (first | lia | omega))) False.elim fun v O' hv => ?_
    obtain ⟨rfl, rfl⟩ := hv
    exact ret1 ⟨.atom l, N2, rfl, hl, by simp [T.dep]; (first | lia | omega), by simp [T.sz]; (first | lia | omega), rfl⟩
  refine feqi_of (EV := False) (b := false) (beq_eq_false_iff_ne.mpr w3) ?_
  refine kif_f ?_
  refine wloc_of rfl ?_
  by_cases d3 : d = 3
  · refine feqi_of (EV := False) (b := true) (by simp [d3]) ?_
    refine kif_t ?_
    refine kif_t ?_
    refine wloc_of rfl ?_
    refine wctE (CT.up (ct_law_atom (k := k) b N1) (by (first | lia | omega))) False.elim fun v O' hv => ?_
    obtain ⟨l, N2, rfl, hl, rfl⟩ := hv
    refine wctF [(b, .list [.int N2])] [] [] (CT.up (ct_Atom (k := k) l) (by (first | lia | omega))) False.elim fun v O' hv => ?_
    obtain ⟨rfl, rfl⟩ := hv
    exact ret1 ⟨.atom l, N2, rfl, hl, by simp [T.dep]; (first | lia | omega), by simp [T.sz]; (first | lia | omega), rfl⟩
  refine feqi_of (EV := False) (b := false) (beq_eq_false_iff_ne.mpr (by (first | lia | omega))) ?_
  refine kif_f ?_
  refine kif_f ?_
  have hB : (if d = 0 then 3 else 2) * Bz (d + 1) + 1 ≤ Bz d := by
    have : d = 0 ∨ d = 1 ∨ d = 2 := by (first | lia | omega)
    rcases this with rfl | rfl | rfl <;> decide
  refine wloc_of rfl ?_
  refine wloc_of rfl ?_
  by_cases d0 : d = 0
  · refine feqi_of (EV := False) (b := true) (by simp [d0]) ?_
    refine kif_t ?_
    refine wtake (k := k + 2) (by decide) (by decide) fun r N2 hr0 hr1 => ?_
    have hr2 : r ≤ (if d = 0 then 3 else 2) := by rw [if_pos d0]; (first | lia | omega)
    clear hr1
    obtain ⟨m, rfl⟩ := Int.eq_ofNat_of_zero_le hr0
    have hm : m ≤ (if d = 0 then 3 else 2) := by split at hr2 <;> rename_i q <;> simp only [q, if_true, if_false] <;> (first | lia | omega)
    have hm3 : m ≤ 3 := by split at hm <;> (first | lia | omega)
    refine ⟨_, range_items (n := m) (by (first | lia | omega)), by simp; (first | lia | omega), ?_⟩
    refine compGo_invm (loc0 := [none, none, none, some (.raw (.ref b)), some (.int (d : Int))]) (fun acc objs => ∃ (ts : List T) (N3 : Int), acc = ts.map T.toV ∧ (∀ t ∈ ts, t.fine ∧ t.dep + (d + 1) ≤ 3 ∧ t.sz ≤ Bz (d + 1)) ∧ objs = [(b, .list [.int N3])]) _ (fun v hv acc objs Q hI h => ?_) _ _ _ _ (fun v => rfl) ⟨[], N2, rfl, by simp, rfl⟩ (fun acc' objs' hlen hI => ?_)
    · obtain ⟨ts, N3, rfl, hts, rfl⟩ := hI
      refine wloc_of rfl ?_
      refine wloc_of rfl ?_
      refine wctE (ih (by (first | lia | omega)) N3) False.elim fun v O' hv => ?_
      obtain ⟨t, N4, rfl, h1, h2, h3, rfl⟩ := hv
      refine h _ _ ⟨ts ++ [t], N4, by simp, fun u hu => ?_, rfl⟩
      rcases List.mem_append.mp hu with hu | hu
      · exact hts u hu
      · rw [List.mem_singleton.mp hu]; exact ⟨h1, h2, h3⟩
    · obtain ⟨ts, N3, rfl, hts, rfl⟩ := hI
      simp only [List.length_map, List.length_nil, List.length_range, Nat.zero_add] at hlen
      have e1 := T.szs_le (B := Bz (d + 1)) fun t ht => (hts t ht).2.2
      have e2 : ts.length * Bz (d + 1) ≤ (if d = 0 then 3 else 2) * Bz (d + 1) := Nat.mul_le_mul_right _ (by (first | lia | omega))
      have e3 := T.deps_le (n := 3 - (d + 1)) (ts := ts) fun t ht => by have := (hts t ht).2.1; (first | lia | omega)
      refine ret1 ⟨.list ts, N3, ?_, ⟨by (first | lia | omega), T.fines_of fun t ht => (hts t ht).1⟩, ?_, ?_, rfl⟩
      · show V.list (ts.map T.toV) = V.list (T.toVs ts)
        rw [T.toVs_map]
      · rw [T.dep]; (first | lia | omega)
      · rw [T.sz]; (first | lia | omega)
  · refine feqi_of (EV := False) (b := false) (beq_eq_false_iff_ne.mpr (by (first | lia | omega))) ?_
    refine kif_f ?_
    refine wtake (k := k + 2) (by decide) (by decide) fun r N2 hr0 hr1 => ?_
    have hr2 : r ≤ (if d = 0 then 3 else 2) := by rw [if_neg d0]; (first | lia | omega)
    clear hr1
    obtain ⟨m, rfl⟩ := Int.eq_ofNat_of_zero_le hr0
    have hm : m ≤ (if d = 0 then 3 else 2) := by split at hr2 <;> rename_i q <;> simp only [q, if_true, if_false] <;> (first | lia | omega)
    have hm3 : m ≤ 3 := by split at hm <;> (first | lia | omega)
    refine ⟨_, range_items (n := m) (by (first | lia | omega)), by simp; (first | lia | omega), ?_⟩
    refine compGo_invm (loc0 := [none, none, none, some (.raw (.ref b)), some (.int (d : Int))]) (fun acc objs => ∃ (ts : List T) (N3 : Int), acc = ts.map T.toV ∧ (∀ t ∈ ts, t.fine ∧ t.dep + (d + 1) ≤ 3 ∧ t.sz ≤ Bz (d + 1)) ∧ objs = [(b, .list [.int N3])]) _ (fun v hv acc objs Q hI h => ?_) _ _ _ _ (fun v => rfl) ⟨[], N2, rfl, by simp, rfl⟩ (fun acc' objs' hlen hI => ?_)
    · obtain ⟨ts, N3, rfl, hts, rfl⟩ := hI
      refine wloc_of rfl ?_
      refine wloc_of rfl ?_
      refine wctE (ih (by (first | lia | omega)) N3) False.elim fun v O' hv => ?_
      obtain ⟨t, N4, rfl, h1, h2, h3, rfl⟩ := hv
      refine h _ _ ⟨ts ++ [t], N4, by simp, fun u hu => ?_, rfl⟩
      rcases List.mem_append.mp hu with hu | hu
      · exact hts u hu
      · rw [List.mem_singleton.mp hu]; exact ⟨h1, h2, h3⟩
    · obtain ⟨ts, N3, rfl, hts, rfl⟩ := hI
      simp only [List.length_map, List.length_nil, List.length_range, Nat.zero_add] at hlen
      have e1 := T.szs_le (B := Bz (d + 1)) fun t ht => (hts t ht).2.2
      have e2 : ts.length * Bz (d + 1) ≤ (if d = 0 then 3 else 2) * Bz (d + 1) := Nat.mul_le_mul_right _ (by (first | lia | omega))
      have e3 := T.deps_le (n := 3 - (d + 1)) (ts := ts) fun t ht => by have := (hts t ht).2.1; (first | lia | omega)
      refine ret1 ⟨.list ts, N3, ?_, ⟨by (first | lia | omega), T.fines_of fun t ht => (hts t ht).1⟩, ?_, ?_, rfl⟩
      · show V.list (ts.map T.toV) = V.list (T.toVs ts)
        rw [T.toVs_map]
      · rw [T.dep]; (first | lia | omega)
      · rw [T.sz]; (first | lia | omega)
end
end Mine
end

section
open PySem PySem.W PyProof.Rows PySem.Calls
namespace Mine

/-! what the law draws is small -/
theorem qBody_len : ∀ l : List UInt8, (qBody l).length ≤ 2 * l.length
  | [] => by simp [qBody]
  | c :: r => by
    have := qBody_len r
    rw [qBody]
    split <;> simp <;> (first | lia | omega)
theorem figs_small {n : Nat} (h : n < 10 ^ 19) : (figs n).length ≤ 19 := (figs_len (by decide)).mpr h
theorem figsOK_of {n : Nat} (h : n < 10 ^ 19) : figsOK n := ⟨fun c hc => by have := figs_dig hc; (first | lia | omega), by have := figs_small h; (first | lia | omega)⟩
theorem flat_len (sep : List UInt8) : ∀ ss : List (List UInt8), (ss.flatMap fun z => sep ++ z).length = (ss.map fun z => sep.length + z.length).sum
  | [] => rfl
  | s :: r => by rw [List.flatMap_cons, List.length_append, flat_len sep r]; simp
theorem joinB_len (ss : List (List UInt8)) : (joinB [32] ss).length ≤ (ss.map fun z => 1 + z.length).sum := by
  cases ss with
  | nil => simp [joinB]
  | cons s r =>
    have := flat_len [32] r
    unfold joinB
    rw [List.length_append, this]
    simp

mutual
theorem Sp.len : ∀ {t : T} {s : List UInt8}, Sp t s → t.fine → s.length + 1 ≤ 2000 * t.sz
  | _, _, .nil h, _ => by
    simp only [List.mem_cons, List.not_mem_nil, or_false] at h
    rcases h with rfl | rfl | rfl | rfl <;> decide
  | _, _, .num h, _ => by simp [T.sz, textB]; (first | lia | omega)
  | _, _, @Sp.quo s h, hf => by
    have h1 : s.length ≤ 74 := hf
    have := qBody_len s
    simp [T.sz, quotedB]; (first | lia | omega)
  | _, _, @Sp.lit s plus h, hf => by
    have h1 : s.length ≤ 74 := hf
    have h2 := (figs_len (n := s.length) (k := 10) (by decide)).mpr h
    rw [litS_len]
    simp only [T.sz]
    split <;> (first | lia | omega)
  | _, _, .atom h, hf => by
    have := h.2.1
    simp [T.sz, textB]; (first | lia | omega)
  | _, _, @Sp.list ts ss h, hf => by
    have := Sps.len h hf.2
    have h2 := joinB_len ss
    simp only [T.sz, List.length_cons, List.length_append, List.length_nil]
    (first | lia | omega)
theorem Sps.len : ∀ {ts : List T} {ss : List (List UInt8)}, Sps ts ss → T.fines ts → (ss.map fun z => 1 + z.length).sum ≤ 2000 * T.szs ts
  | _, _, .nil, _ => by simp
  | _, _, .cons h hs, hf => by
    have h1 := Sp.len h hf.1
    have h2 := Sps.len hs hf.2
    simp only [List.map_cons, List.sum_cons, T.szs]
    (first | lia | omega)
end

mutual
theorem T.wr_sp : ∀ (t : T), t.fine → Sp t t.wr
  | .nil, _ => .nil (by simp [T.wr])
  | .num n, h => by
    have := Sp.num (n := n) (z := 0) (by have := figs_small (n := n) h; (first | lia | omega))
    simpa [T.wr] using this
  | .str l, h => by
    have h1 : l.length ≤ 74 := h
    rw [T.wr, strB]
    split
    · rename_i hq
      refine .quo fun c hc => ?_
      unfold quotableB at hq
      simp only [Bool.and_eq_true, List.all_eq_true, decide_eq_true_eq] at hq
      have := hq.2 c hc
      refine ⟨by (first | lia | omega), by (first | lia | omega), ?_, ?_⟩ <;> · rintro rfl; exact absurd this.1 (by decide)
    · have := Sp.lit (s := l) false (by (first | lia | omega))
      simpa [litB, litS] using this
  | .atom l, h => .atom h
  | .list ts, h => .list (T.wrs_sp ts h.2)
theorem T.wrs_sp : ∀ (ts : List T), T.fines ts → Sps ts (T.wrs ts)
  | [], _ => .nil
  | t :: r, h => .cons (T.wr_sp t h.1) (T.wrs_sp r h.2)
end

mutual
theorem T.OK_of : ∀ (t : T), t.fine → t.sz ≤ 1000 → t.OK
  | .nil, _, _ => trivial
  | .num n, h, _ => by
    have h1 : n < 10 ^ 19 := h
    refine ⟨?_, (figsOK_of h).1, by have := (figsOK_of h).2; (first | lia | omega)⟩
    by_cases hn : n = 0
    · subst hn; decide
    · refine Nat.lt_of_lt_of_le ((Nat.log2_lt (n := n) (k := 64) hn).mpr ?_) (by decide)
      have : (2 : Nat) ^ 64 = 18446744073709551616 := by decide
      (first | lia | omega)
  | .str l, h, _ => by
    have h1 : l.length ≤ 74 := h
    exact ⟨by (first | lia | omega), figsOK_of (by (first | lia | omega))⟩
  | .atom l, h, _ => ⟨fun c hc => by have := (h.2.2.1 c hc).1; (first | lia | omega), by have := h.2.1; (first | lia | omega)⟩
  | .list ts, h, hz => by
    have hz' : T.szs ts + 1 ≤ 1000 := hz
    have h1 : ts.length ≤ 3 := h.1
    refine ⟨by rw [T.toVs_map, List.length_map]; (first | lia | omega), ?_, T.OKs_of ts h.2 (by (first | lia | omega))⟩
    have h2 := Sps.len (T.wrs_sp ts h.2) h.2
    have h3 := joinB_len (T.wrs ts)
    (first | lia | omega)
theorem T.OKs_of : ∀ (ts : List T), T.fines ts → T.szs ts ≤ 1000 → T.OKs ts
  | [], _, _ => trivial
  | t :: r, h, hz => by
    rw [T.szs] at hz
    exact ⟨T.OK_of t h.1 (by (first | lia | omega)), T.OKs_of r h.2 (by (first | lia | omega))⟩
end

mutual
theorem T.deep : ∀ (t : T) (n : Nat), 2 * t.dep + 1 ≤ n → deepV n t.told
  | .nil, n + 1, _ => by simp [T.told, deepV]
  | .num _, n + 1, _ => by simp [T.told, deepV]
  | .str _, n + 1, _ => by simp [T.told, deepV]
  | .atom _, n + 1, _ => by simp [T.told, deepV]
  | .list ts, n, h => by
    have hdt : T.dep (.list ts) = T.deps ts + 1 := rfl
    obtain ⟨m, rfl⟩ : ∃ m, n = m + 2 := ⟨n - 2, by (first | lia | omega)⟩
    intro v hv
    rcases List.mem_cons.mp hv with rfl | hv
    · simp [deepV]
    · rw [List.mem_singleton.mp hv]
      intro u hu
      exact T.deeps ts m (by (first | lia | omega)) u hu
theorem T.deeps : ∀ (ts : List T) (n : Nat), 2 * T.deps ts + 1 ≤ n → ∀ u ∈ T.tolds ts, deepV n u
  | [], _, _ => fun u hu => by cases hu
  | t :: r, n, h => fun u hu => by
    rw [T.deps] at h
    rcases List.mem_cons.mp hu with rfl | hu
    · exact T.deep t n (by (first | lia | omega))
    · exact T.deeps r n (by (first | lia | omega)) u hu
end
end Mine
end

section
open PySem PySem.W PyProof.Rows PySem.Calls
namespace Mine

theorem ct_law_value {X : Cx} {k : Nat} (b : Addr) : ∀ (j d : Nat) (N : Int), d + j = 3 →
    CT X (k + 4 + j) (.ref 432) [.raw (.ref b), .int (d : Int)] [(b, .list [.int N])] (fun v O => ∃ (t : T) (N' : Int), v = t.toV ∧ t.fine ∧ t.dep + d ≤ 3 ∧ t.sz ≤ Bz d ∧ O = [(b, .list [.int N'])]) False
  | 0, d, N, e => law_value_def (k := k) b N d (by (first | lia | omega)) fun h => absurd h (by (first | lia | omega))
  | j + 1, d, N, e => by
    refine (law_value_def (k := k + 1 + j) b N d (by (first | lia | omega)) fun h N => ?_).up (by (first | lia | omega))
    have := ct_law_value (X := X) (k := k) b j (d + 1) N (by (first | lia | omega))
    rw [show (((d + 1 : Nat) : Int)) = (d : Int) + 1 by (first | lia | omega)] at this
    exact this.up (by (first | lia | omega))

theorem fnes_of {x y : List Nat} {b : Bool} {QV : Bool → St → Prop} {EV : Prop} {σ : St} (e : (x != y) = b) (q : QV b σ) : fNe (.str x) (.str y) (bOf QV) EV σ := by
  subst e; exact q

section
variable {X : Cx} {k : Nat}
set_option maxHeartbeats 4000000 in
theorem law_told_def (t : T) (hok : t.OK) (ih : ∀ ts, t = .list ts → ∀ u ∈ ts, CT X (k + 1) (.ref 437) [u.toV] [] (fun v O => v = u.told ∧ O = []) False) : CT X (k + 2) (.ref 437) [t.toV] [] (fun v O => v = t.told ∧ O = []) False := by
  refine ct_def (dargs := []) (dvals := []) [Str.ofString "some"] [0] (fun P => rfl) (fun P => by kernel_rfl) (fun s P vals hK hl => ?bind) .nil (by decide +kernel) (by decide +kernel) rfl ?_
  case bind => obtain ⟨a, rfl⟩ := len1 hl; exact BindsTo.of_eq rfl
  refine ⟨_, fun L cells => (ts_cons (ts_if (tt_cmp (te_loc 0 rfl) (te_none) tb_isnone) (ts_cons (ts_ret (te_tuple (ta_cons (te_str (l := sNil) (by decide +kernel)) ta_nil))) ts_nil) ts_nil) (ts_cons (ts_if (tt_val (te_callb (te_bltn 1 rfl (fun P => by kernel_rfl) rfl (by decide)) (ta_cons (te_loc 0 rfl) (ta_cons (te_bltn 2 rfl (fun P => by kernel_rfl) rfl (by decide)) ta_nil)) tf_isi)) (ts_cons (ts_ret (te_tuple (ta_cons (te_str (l := sStr) (by decide +kernel)) (ta_cons (te_loc 0 rfl) ta_nil)))) ts_nil) ts_nil) (ts_cons (ts_if (tt_val (te_callb (te_bltn 1 rfl (fun P => by kernel_rfl) rfl (by decide)) (ta_cons (te_loc 0 rfl) (ta_cons (te_bltn 3 rfl (fun P => by kernel_rfl) rfl (by decide)) ta_nil)) tf_isi)) (ts_cons (ts_ret (te_tuple (ta_cons (te_str (l := sList) (by decide +kernel)) (ta_cons (te_callb (te_bltn 4 rfl (fun P => by kernel_rfl) rfl (by decide)) (ta_cons (te_comp [] 1 (te_loc 0 rfl) (by kernel_rfl) (fun _ hc => tifs_nil) (fun _ hc => te_callt (te_glob 2 (by rw [hc]; rfl) (fun P => by kernel_rfl) (.raw (.ref 437))) (cw_keep fun P => by kernel_rfl) (ta_cons (te_loc 1 (by rw [hc]; rfl)) ta_nil))) ta_nil) tf_tuple) ta_nil)))) ts_nil) ts_nil) (ts_cons (ts_if (tt_val (te_callb (te_bltn 1 rfl (fun P => by kernel_rfl) rfl (by decide)) (ta_cons (te_loc 0 rfl) (ta_cons (te_glob 5 rfl (fun P => by kernel_rfl) (.raw (.ref 124))) ta_nil)) tf_isi)) (ts_cons (ts_ret (te_tuple (ta_cons (te_str (l := sAtom) (by decide +kernel)) (ta_cons (te_atext (te_loc 0 rfl) attr_text) ta_nil)))) ts_nil) ts_nil) (ts_cons (ts_ret (te_tuple (ta_cons (te_str (l := sNum) (by decide +kernel)) (ta_cons (te_loc 0 rfl) ta_nil)))) ts_nil))))), ?_⟩
  cases t with
  | nil => exact ⟨by simp, ret0 ⟨rfl, rfl⟩⟩
  | num n =>
    refine wloc_of rfl ?_
    refine fis_of (b := false) rfl ?_
    refine kif_f ?_
    refine wloc_of rfl ?_
    refine isi_of (c := .type "bytes") (b := false) rfl ?_
    refine bif_f ?_
    refine wloc_of rfl ?_
    refine isi_of (c := .type "list") (b := false) rfl ?_
    refine bif_f ?_
    refine wloc_of rfl ?_
    refine isi_of (c := .ref 124) (b := false) rfl ?_
    refine bif_f ?_
    refine wloc_of rfl ?_
    first | exact ⟨Nat.le_of_ble_eq_true rfl, ret0 ⟨rfl, rfl⟩⟩ | exact ⟨by simp, ret0 ⟨rfl, rfl⟩⟩
  | str l =>
    refine wloc_of rfl ?_
    refine fis_of (b := false) rfl ?_
    refine kif_f ?_
    refine wloc_of rfl ?_
    refine isi_of (c := .type "bytes") (b := true) rfl ?_
    refine bif_t ?_
    refine wloc_of rfl ?_
    first | exact ⟨Nat.le_of_ble_eq_true rfl, ret0 ⟨rfl, rfl⟩⟩ | exact ⟨by simp, ret0 ⟨rfl, rfl⟩⟩
  | atom l =>
    refine wloc_of rfl ?_
    refine fis_of (b := false) rfl ?_
    refine kif_f ?_
    refine wloc_of rfl ?_
    refine isi_of (c := .type "bytes") (b := false) rfl ?_
    refine bif_f ?_
    refine wloc_of rfl ?_
    refine isi_of (c := .type "list") (b := false) rfl ?_
    refine bif_f ?_
    refine wloc_of rfl ?_
    refine isi_of (c := .ref 124) (b := true) rfl ?_
    refine bif_t ?_
    refine wloc_of rfl ?_
    refine ⟨l, rfl, by simp, ?_⟩
    exact ret0 ⟨rfl, rfl⟩
  | list ts =>
    refine wloc_of rfl ?_
    refine fis_of (b := false) rfl ?_
    refine kif_f ?_
    refine wloc_of rfl ?_
    refine isi_of (c := .type "bytes") (b := false) rfl ?_
    refine bif_f ?_
    refine wloc_of rfl ?_
    refine isi_of (c := .type "list") (b := true) rfl ?_
    refine bif_t ?_
    refine wloc_of rfl ?_
    refine ⟨(ts.map fun u => (u.toV, u.told)).map (·.1), ?_, ?_, ?_⟩
    · show some (T.toVs ts) = _
      rw [T.toVs_map]; simp
    · have := hok.1
      rw [T.toVs_map] at this
      simpa using this
    · refine compGo_rel (loc0 := [none, none, none]) _ (fun p hp Q h => ?_) _ _ _ (fun v => rfl) ?_
      · obtain ⟨u, hu, rfl⟩ := List.mem_map.mp hp
        refine wloc_of rfl ?_
        refine wct0 (ih ts rfl u hu) ?_
        exact h
      · have := hok.1
        rw [T.toVs_map] at this
        refine ⟨by simpa using this, by simp, ret0 ⟨?_, rfl⟩⟩
        simp [wOf, T.told, T.tolds_map]

set_option maxHeartbeats 4000000 in
theorem law_depth_def (t : T) (hf : t.fine) (ih : ∀ ts, t = .list ts → ∀ u ∈ ts, CT X k (.ref 442) [u.told] [] (fun v O => v = .int (u.dep : Int) ∧ O = []) False) : CT X (k + 1) (.ref 442) [t.told] [] (fun v O => v = .int (t.dep : Int) ∧ O = []) False := by
  refine ct_def (dargs := []) (dvals := []) [Str.ofString "told"] [0] (fun P => rfl) (fun P => by kernel_rfl) (fun s P vals hK hl => ?bind) .nil (by decide +kernel) (by decide +kernel) rfl ?_
  case bind => obtain ⟨a, rfl⟩ := len1 hl; exact BindsTo.of_eq rfl
  refine ⟨_, fun L cells => (ts_cons (ts_if (tt_cmp (te_sub (te_loc 0 rfl) (te_int)) (te_str (l := sList) (by decide +kernel)) tb_ne) (ts_cons (ts_ret (te_int)) ts_nil) ts_nil) (ts_cons (ts_ret (te_bin (te_int) (te_callb (te_bltn 1 rfl (fun P => by kernel_rfl) rfl (by decide)) (ta_cons (te_bin (te_list (ta_cons (te_int) ta_nil)) (te_comp [] 1 (te_sub (te_loc 0 rfl) (te_int)) (by kernel_rfl) (fun _ hc => tifs_nil) (fun _ hc => te_callt (te_glob 2 (by rw [hc]; rfl) (fun P => by kernel_rfl) (.raw (.ref 442))) (cw_keep fun P => by kernel_rfl) (ta_cons (te_loc 1 (by rw [hc]; rfl)) ta_nil))) tb_add) ta_nil) tf_max) tb_add)) ts_nil)), ?_⟩
  refine wloc_of rfl ?_
  cases t with
  | nil =>
    refine ⟨.str sNil, by decide, by decide, rfl, ?_⟩
    refine fnes_of (EV := False) (b := true) (by decide) ?_
    refine kif_t ?_; exact ret0 ⟨rfl, rfl⟩
  | num n =>
    refine ⟨.str sNum, by decide, by decide, rfl, ?_⟩
    refine fnes_of (EV := False) (b := true) (by decide) ?_
    refine kif_t ?_; exact ret0 ⟨rfl, rfl⟩
  | str l =>
    refine ⟨.str sStr, by decide, by decide, rfl, ?_⟩
    refine fnes_of (EV := False) (b := true) (by decide) ?_
    refine kif_t ?_; exact ret0 ⟨rfl, rfl⟩
  | atom l =>
    refine ⟨.str sAtom, by decide, by decide, rfl, ?_⟩
    refine fnes_of (EV := False) (b := true) (by decide) ?_
    refine kif_t ?_; exact ret0 ⟨rfl, rfl⟩
  | list ts =>
    have hl3 : ts.length ≤ 3 := hf.1
    refine ⟨.str sList, by decide, by decide, rfl, ?_⟩
    refine fnes_of (EV := False) (b := false) (by decide) ?_
    refine kif_f ?_
    first | refine ⟨Nat.le_of_ble_eq_true rfl, ?_⟩ | refine ⟨by simp, ?_⟩
    refine wloc_of rfl ?_
    refine ⟨.tup (T.tolds ts), by decide, by decide, rfl, ?_⟩
    refine ⟨(ts.map fun u => (u.told, V.int (u.dep : Int))).map (·.1), ?_, ?_, ?_⟩
    · show some (T.tolds ts) = _
      rw [T.tolds_map]; simp
    · simp; (first | lia | omega)
    · refine compGo_rel (loc0 := [none, none, none]) _ (fun p hp Q h => ?_) _ _ _ (fun v => rfl) ?_
      · obtain ⟨u, hu, rfl⟩ := List.mem_map.mp hp
        refine wloc_of rfl ?_
        refine wct0 (ih ts rfl u hu) ?_
        exact h
      · refine ⟨by simp; (first | lia | omega), ?_⟩
        refine ⟨(0 : Int) :: ts.map fun u => (u.dep : Int), by simp, by simp, fun m hm hmax => ?_⟩
        have hm1 : m = ((T.deps ts : Nat) : Int) := by
          have h0 : (0 : Int) ≤ m := hmax 0 List.mem_cons_self
          obtain ⟨q, rfl⟩ := Int.eq_ofNat_of_zero_le h0
          have h1 : T.deps ts ≤ q := T.deps_le fun u hu => by
            have := hmax (u.dep : Int) (List.mem_cons_of_mem _ (List.mem_map.mpr ⟨u, hu, rfl⟩))
            (first | lia | omega)
          have h2 : q ≤ T.deps ts := by
            rcases List.mem_cons.mp hm with h | h
            · (first | lia | omega)
            · obtain ⟨u, hu, e⟩ := List.mem_map.mp h
              have := T.deps_mem hu
              (first | lia | omega)
          (first | lia | omega)
        subst hm1
        refine ret0 ⟨?_, rfl⟩
        show V.int ((1 : Int) + (T.deps ts : Int)) = V.int ((T.deps ts + 1 : Nat) : Int)
        congr 1; (first | lia | omega)
end
theorem ct_law_told {X : Cx} {k : Nat} (t : T) (hok : t.OK) : CT X (k + 2 + t.dep) (.ref 437) [t.toV] [] (fun v O => v = t.told ∧ O = []) False := by
  induction t using T.ind with
  | h t ih =>
    refine (law_told_def (k := k + t.dep) t hok fun ts e u hu => ?_).up (by (first | lia | omega))
    have h1 := T.deps_mem hu
    have h2 : t.dep = T.deps ts + 1 := by rw [e, T.dep]
    have h3 : T.OKs ts := by rw [e, T.OK] at hok; exact hok.2.2
    exact (ih ts e u hu (T.OKs_mem h3 hu)).up (by (first | lia | omega))
theorem ct_law_depth {X : Cx} {k : Nat} (t : T) (hf : t.fine) : CT X (k + 1 + t.dep) (.ref 442) [t.told] [] (fun v O => v = .int (t.dep : Int) ∧ O = []) False := by
  induction t using T.ind with
  | h t ih =>
    refine (law_depth_def (k := k + t.dep) t hf fun ts e u hu => ?_).up (by (first | lia | omega))
    have h1 := T.deps_mem hu
    have h2 : t.dep = T.deps ts + 1 := by rw [e, T.dep]
    have h3 : T.fines ts := by rw [e, T.fine] at hf; exact hf.2
    exact (ih ts e u hu (T.fines_mem h3 hu)).up (by (first | lia | omega))
end Mine
end

section
open PySem PySem.W PyProof.Rows PySem.Calls
namespace Mine

theorem log_small {n : Nat} (h : n < 10 ^ 19) : n.log2 < 1920 := (T.OK_of (.num n) h (by simp [T.sz])).1
noncomputable def badQ (n : Int) : Bool := n == 0 || (decide (127 < n) || [(10 : Int), 13].any (· == n))
theorem okQ_of {l : List UInt8} (h : ((l.map fun c => V.int (c.toNat : Int)).filter fun v => match v with | .int n => badQ n | _ => false).isEmpty = true) : okQ l := by
  intro c hc
  have h1 := List.isEmpty_iff.mp h
  have h2 := List.filter_eq_nil_iff.mp h1 (.int (c.toNat : Int)) (List.mem_map.mpr ⟨c, hc, rfl⟩)
  have h3 : badQ (c.toNat : Int) = false := by simpa using h2
  unfold badQ at h3
  simp only [Bool.or_eq_false_iff, beq_eq_false_iff_ne, decide_eq_false_iff_not, List.any_cons, List.any_nil, Bool.or_false] at h3
  obtain ⟨a1, a2, a3, a4⟩ := h3
  refine ⟨by (first | lia | omega), by (first | lia | omega), ?_, ?_⟩
  · rintro rfl; exact a3 rfl
  · rintro rfl; exact a4 rfl
theorem rep_flat (z : Nat) (c : Nat) : (List.replicate z [c]).flatten = List.replicate z c := by
  induction z with
  | zero => rfl
  | succ n ih => rw [List.replicate_succ, List.flatten_cons, ih]; rfl
theorem Sps.snoc : ∀ {ts : List T} {ss : List (List UInt8)} {t : T} {s : List UInt8}, Sps ts ss → Sp t s → Sps (ts ++ [t]) (ss ++ [s])
  | _, _, _, _, .nil, h => .cons h .nil
  | _, _, _, _, .cons h1 h2, h => .cons h1 (h2.snoc h)
theorem compGo_seq {α : Type} {g : α → V} {de : W V} {tgt : Nat} {EV : Prop} {loc0 : List (Option V)} (I : List α → List V → List (Addr × MO) → Prop) :
    ∀ (todo done : List α), (∀ a ∈ todo, ∀ (done : List α) (acc : List V) (objs : List (Addr × MO)) (Q : V → St → Prop), I done acc objs → (∀ y objs', I (done ++ [a]) (acc ++ [y]) objs' → Q y ⟨loc0.set tgt (some (g a)), objs'⟩) → de Q EV ⟨loc0.set tgt (some (g a)), objs⟩) →
    ∀ (acc : List V) (loc : List (Option V)) (objs : List (Addr × MO)) (K : List V → List (Addr × MO) → Prop), (∀ v, loc.set tgt (some v) = loc0.set tgt (some v)) → I done acc objs → (∀ acc' objs', I (done ++ todo) acc' objs' → K acc' objs') → wCompGo wYes de tgt (todo.map g) acc loc K EV objs
  | [], done, _, acc, loc, objs, K, _, hI, h => h acc objs (by simpa using hI)
  | a :: r, done, hs, acc, loc, objs, K, hl, hI, h => by
    rw [List.map_cons]
    unfold wCompGo wYes
    dsimp only
    rw [if_pos rfl, hl (g a)]
    refine hs a List.mem_cons_self done acc objs _ hI fun y objs' h' => ?_
    refine compGo_seq I r (done ++ [a]) (fun u hu => hs u (List.mem_cons_of_mem _ hu)) _ _ _ _ (fun u => by simp) h' fun acc' objs'' hI' => h acc' objs'' (by simpa using hI')

section
variable {X : Cx} {k : Nat}
set_option maxHeartbeats 8000000 in
theorem law_spelled_def (t : T) (hf : t.fine) (hz : t.sz ≤ 1000) (b : Addr) (N : Int)
    (ih : ∀ ts, t = .list ts → ∀ u ∈ ts, ∀ N, CT X (k + 1) (.ref 447) [u.told, .raw (.ref b)] [(b, .list [.int N])] (fun v O => ∃ (s : List UInt8) (N' : Int), v = .bytes s ∧ Sp u s ∧ O = [(b, .list [.int N'])]) False) :
    CT X (k + 2) (.ref 447) [t.told, .raw (.ref b)] [(b, .list [.int N])] (fun v O => ∃ (s : List UInt8) (N' : Int), v = .bytes s ∧ Sp t s ∧ O = [(b, .list [.int N'])]) False := by
  refine ct_def (dargs := []) (dvals := []) [Str.ofString "told", Str.ofString "bag"] [0, 1] (fun P => rfl) (fun P => by kernel_rfl) (fun s P vals hK hl => ?bind) .nil (by decide +kernel) (by decide +kernel) rfl ?_
  case bind => obtain ⟨a, b, rfl⟩ := len2 hl; exact BindsTo.of_eq rfl
  refine ⟨_, fun L cells => (ts_cons (ts_if (tt_cmp (te_sub (te_loc 0 rfl) (te_int)) (te_str (l := sNil) (by decide +kernel)) tb_eq) (ts_cons (ts_ret (te_sub (te_list (ta_cons (te_bytes) (ta_cons (te_bytes) (ta_cons (te_bytes) (ta_cons (te_bytes) ta_nil))))) (te_callt (te_glob 7 rfl (fun P => by kernel_rfl) (.raw (.ref 410))) (cw_keep fun P => by kernel_rfl) (ta_cons (te_cell 1 rfl) (ta_cons (te_int) ta_nil))))) ts_nil) ts_nil) (ts_cons (ts_if (tt_cmp (te_sub (te_loc 0 rfl) (te_int)) (te_str (l := sNum) (by decide +kernel)) tb_eq) (ts_cons (ts_assign (te_callb (te_bltn 8 rfl (fun P => by kernel_rfl) rfl (by decide)) (ta_cons (te_sub (te_loc 0 rfl) (te_int)) ta_nil) tf_str) (st_loc 2 rfl)) (ts_cons (ts_ret (te_methb (te_bin (te_bin (te_str (l := [48]) (by decide +kernel)) (te_callb (te_bltn 9 rfl (fun P => by kernel_rfl) rfl (by decide)) (ta_cons (te_callt (te_glob 7 rfl (fun P => by kernel_rfl) (.raw (.ref 410))) (cw_keep fun P => by kernel_rfl) (ta_cons (te_cell 1 rfl) (ta_cons (te_int) ta_nil))) (ta_cons (te_bin (te_int) (te_callb (te_bltn 10 rfl (fun P => by kernel_rfl) rfl (by decide)) (ta_cons (te_loc 2 rfl) ta_nil) tf_len) tb_sub) ta_nil)) tf_min) tb_smul) (te_loc 2 rfl) tb_add) (tm_str F.slot_str_encode rfl) (ta_cons (te_str (l := asciiS) (by decide +kernel)) ta_nil) tf_encode)) ts_nil)) ts_nil) (ts_cons (ts_if (tt_cmp (te_sub (te_loc 0 rfl) (te_int)) (te_str (l := sAtom) (by decide +kernel)) tb_eq) (ts_cons (ts_ret (te_methb (te_sub (te_loc 0 rfl) (te_int)) (tm_str F.slot_str_encode rfl) (ta_cons (te_str (l := asciiS) (by decide +kernel)) ta_nil) tf_encode)) ts_nil) ts_nil) (ts_cons (ts_if (tt_cmp (te_sub (te_loc 0 rfl) (te_int)) (te_str (l := sList) (by decide +kernel)) tb_eq) (ts_cons (ts_ret (te_bin (te_bin (te_bytes) (te_methb (te_bytes) (tm_bytes FBA.slot_join FBA.type_join) (ta_cons (te_comp [(3, 1)] 1 (te_sub (te_loc 0 rfl) (te_int)) (by kernel_rfl) (fun _ hc => tifs_nil) (fun _ hc => te_callt (te_glob 2 (by rw [hc]; rfl) (fun P => by kernel_rfl) (.raw (.ref 447))) (cw_keep fun P => by kernel_rfl) (ta_cons (te_loc 1 (by rw [hc]; rfl)) (ta_cons (te_cell 3 (by rw [hc]; rfl)) ta_nil)))) ta_nil) tf_bjoin) tb_add) (te_bytes) tb_add)) ts_nil) ts_nil) (ts_cons (ts_assign (te_sub (te_loc 0 rfl) (te_int)) (st_loc 3 rfl)) (ts_cons (ts_assign (te_callt (te_glob 7 rfl (fun P => by kernel_rfl) (.raw (.ref 410))) (cw_keep fun P => by kernel_rfl) (ta_cons (te_cell 1 rfl) (ta_cons (te_int) ta_nil))) (st_loc 4 rfl)) (ts_cons (ts_if (tt_bool (tts_and (tt_cmp (te_loc 4 rfl) (te_int) tb_eq) (tts_and (tt_cmp (te_comp [] 1 (te_loc 3 rfl) (by kernel_rfl) (fun _ hc => (tifs_one (tt_bool (tts_or (tt_cmp (te_loc 1 (by rw [hc]; rfl)) (te_int) tb_eq) (tts_or (tt_cmp (te_loc 1 (by rw [hc]; rfl)) (te_int) tb_gt) (tts_or (tt_cmp (te_loc 1 (by rw [hc]; rfl)) (te_tuple (ta_cons (te_int) (ta_cons (te_int) ta_nil))) tb_in) tts_or_nil)))))) (fun _ hc => te_loc 1 (by rw [hc]; rfl))) (te_list ta_nil) tb_eq) tts_and_nil))) (ts_cons (ts_assign (te_list (ta_cons (te_int) ta_nil)) (st_loc 6 rfl)) (ts_cons (ts_for (te_loc 3 rfl) (st_loc 5 rfl) (ts_cons (ts_assign (te_bin (te_loc 6 rfl) (te_ifexp (tt_cmp (te_loc 5 rfl) (te_tuple (ta_cons (te_int) (ta_cons (te_int) ta_nil))) tb_in) (te_list (ta_cons (te_int) (ta_cons (te_loc 5 rfl) ta_nil))) (te_list (ta_cons (te_loc 5 rfl) ta_nil))) tb_add) (st_loc 6 rfl)) ts_nil)) (ts_cons (ts_ret (te_callb (te_bltn 11 rfl (fun P => by kernel_rfl) rfl (by decide)) (ta_cons (te_bin (te_loc 6 rfl) (te_list (ta_cons (te_int) ta_nil)) tb_add) ta_nil) tf_bytes)) ts_nil))) ts_nil) (ts_cons (ts_ret (te_bin (te_bin (te_methb (te_bin (te_bin (te_bin (te_str (l := [123]) (by decide +kernel)) (te_callb (te_bltn 8 rfl (fun P => by kernel_rfl) rfl (by decide)) (ta_cons (te_callb (te_bltn 10 rfl (fun P => by kernel_rfl) rfl (by decide)) (ta_cons (te_loc 3 rfl) ta_nil) tf_len) ta_nil) tf_str) tb_add) (te_ifexp (tt_cmp (te_loc 4 rfl) (te_int) tb_eq) (te_str (l := [43]) (by decide +kernel)) (te_str (l := []) (by decide +kernel))) tb_add) (te_str (l := [125]) (by decide +kernel)) tb_add) (tm_str F.slot_str_encode rfl) (ta_cons (te_str (l := asciiS) (by decide +kernel)) ta_nil) tf_encode) (te_callb (te_bltn 11 rfl (fun P => by kernel_rfl) rfl (by decide)) (ta_cons (te_list (ta_cons (te_int) (ta_cons (te_int) ta_nil))) ta_nil) tf_bytes) tb_add) (te_loc 3 rfl) tb_add)) ts_nil)))))))), ?_⟩
  refine wloc_of rfl ?_
  cases t with
  | nil =>
    refine ⟨.str sNil, by decide, by decide, rfl, ?_⟩
    refine feqs_of (EV := False) (b := true) (by decide) ?_
    refine kif_t ?_
    first | refine ⟨Nat.le_of_ble_eq_true rfl, ?_⟩ | refine ⟨by simp, ?_⟩
    refine wloc_of rfl ?_
    refine wtake (k := k) (by decide) (by decide) fun r N1 hr0 hr1 => ?_
    obtain ⟨s, hs, hm⟩ : ∃ s : List UInt8, ([V.bytes [78, 73, 76], V.bytes [110, 105, 108], V.bytes [78, 105, 108], V.bytes [110, 73, 76]] : List V)[r.toNat]? = some (.bytes s) ∧ s ∈ ([[78, 73, 76], [110, 105, 108], [78, 105, 108], [110, 73, 76]] : List (List UInt8)) := by
      have : r = 0 ∨ r = 1 ∨ r = 2 ∨ r = 3 := by (first | lia | omega)
      rcases this with rfl | rfl | rfl | rfl
      · exact ⟨_, rfl, by simp⟩
      · exact ⟨_, rfl, by simp⟩
      · exact ⟨_, rfl, by simp⟩
      · exact ⟨_, rfl, by simp⟩
    refine ⟨.bytes s, hr0, by (first | lia | omega), hs, ?_⟩
    exact ret1 ⟨s, N1, rfl, .nil hm, rfl⟩
  | num n =>
    have hn : n < 10 ^ 19 := hf
    have hfl := figs_small hn
    have hfp := figs_pos n
    refine ⟨.str sNum, by decide, by decide, rfl, ?_⟩
    refine feqs_of (EV := False) (b := false) (by decide) ?_
    refine kif_f ?_
    refine wloc_of rfl ?_
    refine ⟨.str sNum, by decide, by decide, rfl, ?_⟩
    refine feqs_of (EV := False) (b := true) (by decide) ?_
    refine kif_t ?_
    refine wloc_of rfl ?_
    refine ⟨.int (n : Int), by decide, by decide, rfl, ?_⟩
    refine ⟨by (first | lia | omega), by have := (T.OK_of (.num n) hf hz).1; simpa using this, ?_⟩
    rw [Int.toNat_natCast]
    refine wloc_of rfl ?_
    refine wtake (k := k) (by decide) (by decide) fun r N1 hr0 hr1 => ?_
    refine wloc_of rfl ?_
    refine ⟨by (first | lia | omega), ?_⟩
    refine fari_i ?_
    obtain ⟨z, hz, hz1, hz2⟩ : ∃ z : Nat, (if (19 : Int) - ((figs n).length : Int) < r then (19 : Int) - ((figs n).length : Int) else r) = (z : Int) ∧ z + (figs n).length ≤ 19 ∧ z ≤ 3 := by
      split
      · exact ⟨19 - (figs n).length, by (first | lia | omega), by (first | lia | omega), by (first | lia | omega)⟩
      · exact ⟨r.toNat, by (first | lia | omega), by (first | lia | omega), by (first | lia | omega)⟩
    refine wmin_of hz ?_
    refine ⟨by (first | lia | omega), by (first | lia | omega), by decide, ?_⟩
    refine wloc_of rfl ?_
    rw [Int.toNat_natCast, rep_flat]
    refine ⟨by simp; (first | lia | omega), ?_⟩
    refine ⟨trivial, ?_⟩
    refine ⟨rfl, fun c hc => ?_, by simp; (first | lia | omega), ?_⟩
    · rcases List.mem_append.mp hc with hc | hc
      · rw [List.eq_of_mem_replicate hc]; decide
      · have := figs_dig hc; (first | lia | omega)
    refine ret1 ⟨_, N1, rfl, ?_, rfl⟩
    have e : asciiOf (List.replicate z 48 ++ figs n) = List.replicate z 48 ++ textB (figs n) := by simp [asciiOf, textB]
    rw [e]
    exact .num hz1
  | atom l =>
    refine ⟨.str sAtom, by decide, by decide, rfl, ?_⟩
    refine feqs_of (EV := False) (b := false) (by decide) ?_
    refine kif_f ?_
    refine wloc_of rfl ?_
    refine ⟨.str sAtom, by decide, by decide, rfl, ?_⟩
    refine feqs_of (EV := False) (b := false) (by decide) ?_
    refine kif_f ?_
    refine wloc_of rfl ?_
    refine ⟨.str sAtom, by decide, by decide, rfl, ?_⟩
    refine feqs_of (EV := False) (b := true) (by decide) ?_
    refine kif_t ?_
    refine wloc_of rfl ?_
    refine ⟨.str l, by decide, by decide, rfl, ?_⟩
    refine ⟨trivial, ?_⟩
    refine ⟨rfl, fun c hc => by have := (hf.2.2.1 c hc).1; (first | lia | omega), by have := hf.2.1; (first | lia | omega), ?_⟩
    exact ret1 ⟨_, N, rfl, .atom hf, rfl⟩
  | list ts =>
    have h3 : ts.length ≤ 3 := hf.1
    refine ⟨.str sList, by decide, by decide, rfl, ?_⟩
    refine feqs_of (EV := False) (b := false) (by decide) ?_
    refine kif_f ?_
    refine wloc_of rfl ?_
    refine ⟨.str sList, by decide, by decide, rfl, ?_⟩
    refine feqs_of (EV := False) (b := false) (by decide) ?_
    refine kif_f ?_
    refine wloc_of rfl ?_
    refine ⟨.str sList, by decide, by decide, rfl, ?_⟩
    refine feqs_of (EV := False) (b := false) (by decide) ?_
    refine kif_f ?_
    refine wloc_of rfl ?_
    refine ⟨.str sList, by decide, by decide, rfl, ?_⟩
    refine feqs_of (EV := False) (b := true) (by decide) ?_
    refine kif_t ?_
    refine ⟨trivial, ?_⟩
    refine wloc_of rfl ?_
    refine ⟨.tup (T.tolds ts), by decide, by decide, rfl, ?_⟩
    refine ⟨ts.map T.told, by rw [← T.tolds_map]; rfl, by rw [List.length_map]; (first | lia | omega), ?_⟩
    refine compGo_seq (g := T.told) (loc0 := [none, none, none, some (.raw (.ref b))]) (fun done acc objs => ∃ (ss : List (List UInt8)) (N2 : Int), Sps done ss ∧ acc = ss.map V.bytes ∧ objs = [(b, .list [.int N2])]) ts [] (fun u hu done acc objs Q hI h => ?_) _ _ _ _ (fun v => rfl) ⟨[], N, .nil, rfl, rfl⟩ (fun acc' objs' hI => ?_)
    · obtain ⟨ss, N2, hss, rfl, rfl⟩ := hI
      refine wloc_of rfl ?_
      refine wloc_of rfl ?_
      refine wctE (ih ts rfl u hu N2) False.elim fun v O' hv => ?_
      obtain ⟨s, N3, rfl, hs, rfl⟩ := hv
      exact h _ _ ⟨ss ++ [s], N3, hss.snoc hs, by simp, rfl⟩
    · obtain ⟨ss, N2, hss, rfl, rfl⟩ := hI
      rw [List.nil_append] at hss
      have hl1 := Sps.len hss hf.2
      have hl2 := joinB_len ss
      have hz' : T.szs ts + 1 ≤ 1000 := hz
      refine ⟨ss, rfl, by (first | lia | omega), ?_⟩
      refine ⟨by simp; (first | lia | omega), by simp; (first | lia | omega), ?_⟩
      refine ret1 ⟨_, N2, rfl, ?_, rfl⟩
      have := Sp.list hss
      simpa using this
  | str l =>
    have h74 : l.length ≤ 74 := hf
    refine ⟨.str sStr, by decide, by decide, rfl, ?_⟩
    refine feqs_of (EV := False) (b := false) (by decide) ?_
    refine kif_f ?_
    refine wloc_of rfl ?_
    refine ⟨.str sStr, by decide, by decide, rfl, ?_⟩
    refine feqs_of (EV := False) (b := false) (by decide) ?_
    refine kif_f ?_
    refine wloc_of rfl ?_
    refine ⟨.str sStr, by decide, by decide, rfl, ?_⟩
    refine feqs_of (EV := False) (b := false) (by decide) ?_
    refine kif_f ?_
    refine wloc_of rfl ?_
    refine ⟨.str sStr, by decide, by decide, rfl, ?_⟩
    refine feqs_of (EV := False) (b := false) (by decide) ?_
    refine kif_f ?_
    refine wloc_of rfl ?_
    refine ⟨.bytes l, by decide, by decide, rfl, ?_⟩
    refine wloc_of rfl ?_
    refine wtake (k := k) (m := 3) (by decide) (by decide) fun w N1 hw0 hw1 => ?_
    refine wloc_of rfl ?_
    have hfl := figs_small (n := l.length) (by (first | lia | omega))
    by_cases w0 : w = 0
    · refine feqi_of (EV := False) (b := true) (by simp [w0]) ?_
      refine kif_t ?_
      refine wloc_of rfl ?_
      refine ⟨_, rfl, by simp; (first | lia | omega), ?_⟩
      refine compGo_filter (loc0 := [none, none]) (p := fun v => match v with | .int n => badQ n | _ => false) (f := id) _ (fun v hv Q h => ?_) (fun v hv _ Q h => ?_) _ _ _ (fun v => rfl) ?_
      · obtain ⟨c, hc, rfl⟩ := List.mem_map.mp hv
        generalize (c.toNat : Int) = n at h ⊢
        refine wloc_of rfl ?_
        by_cases n0 : n = 0
        · refine feqi_of (EV := False) (b := true) (by simp [n0]) ?_
          have e : badQ n = true := by simp [badQ, n0]
          simp only [e] at h
          exact h
        refine feqi_of (EV := False) (b := false) (beq_eq_false_iff_ne.mpr n0) ?_
        refine kif_f ?_
        refine wloc_of rfl ?_
        by_cases n1 : 127 < n
        · refine fcmp_of (r := fun a b => decide (b < a)) (EV := False) (b := true) (decide_eq_true n1) ?_
          have e : badQ n = true := by simp [badQ, n1]
          simp only [e] at h
          exact h
        refine fcmp_of (r := fun a b => decide (b < a)) (EV := False) (b := false) (decide_eq_false n1) ?_
        refine kif_f ?_
        refine wloc_of rfl ?_
        first | refine ⟨Nat.le_of_ble_eq_true rfl, [10, 13], rfl, ?_⟩ | refine ⟨by simp, [10, 13], rfl, ?_⟩
        have e : badQ n = [(10 : Int), 13].any (· == n) := by simp [badQ, n0, n1]
        simp only [e] at h
        simp only [bOf]
        cases hq : [(10 : Int), 13].any (· == n)
        · rw [hq] at h; exact h
        · rw [hq] at h; exact h
      · obtain ⟨c, hc, rfl⟩ := List.mem_map.mp hv
        refine wloc_of rfl ?_
        exact h
      rw [List.nil_append, List.map_id]
      first | refine ⟨Nat.le_of_ble_eq_true rfl, ?_⟩ | refine ⟨by simp, ?_⟩
      cases hE : ((l.map fun c => V.int (c.toNat : Int)).filter fun v => match v with | .int n => badQ n | _ => false).isEmpty
      · refine feql_of hE ?_
        refine kif_f ?_
        refine kif_f ?_
        refine wloc_of rfl ?_
        refine ⟨by (first | lia | omega), ?_⟩
        refine ⟨by (first | lia | omega), by simpa using log_small (n := l.length) (by (first | lia | omega)), ?_⟩
        simp only [Int.toNat_natCast]
        refine ⟨by simp; (first | lia | omega), ?_⟩
        refine wloc_of rfl ?_
        by_cases w1 : w = 1
        · refine feqi_of (EV := False) (b := true) (by simp [w1]) ?_
          refine kif_t ?_
          refine ⟨by simp; (first | lia | omega), ?_⟩
          refine ⟨by simp; (first | lia | omega), ?_⟩
          refine ⟨trivial, ?_⟩
          refine ⟨rfl, fun c hc => ?_, by simp; (first | lia | omega), ?_⟩
          · simp only [List.mem_append, List.mem_cons, List.not_mem_nil, or_false] at hc
            rcases hc with ((hc | hc) | hc) | hc <;> first | (first | lia | omega) | (have := figs_dig hc; (first | lia | omega))
          first | refine ⟨Nat.le_of_ble_eq_true rfl, ?_⟩ | refine ⟨by simp, ?_⟩
          refine ⟨[13, 10], rfl, by decide, by decide, ?_⟩
          refine ⟨by simp [asciiOf, bytesN]; (first | lia | omega), ?_⟩
          refine wloc_of rfl ?_
          refine ⟨by simp [asciiOf, bytesN]; (first | lia | omega), ?_⟩
          refine ret1 ⟨_, N1, rfl, ?_, rfl⟩
          have := Sp.lit (s := l) true (by (first | lia | omega))
          simpa [litS, asciiOf, textB, bytesN] using this
        · refine feqi_of (EV := False) (b := false) (beq_eq_false_iff_ne.mpr w1) ?_
          refine kif_f ?_
          refine ⟨by simp; (first | lia | omega), ?_⟩
          refine ⟨by simp; (first | lia | omega), ?_⟩
          refine ⟨trivial, ?_⟩
          refine ⟨rfl, fun c hc => ?_, by simp; (first | lia | omega), ?_⟩
          · simp only [List.mem_append, List.mem_cons, List.not_mem_nil, or_false] at hc
            rcases hc with (hc | hc) | hc <;> first | (first | lia | omega) | (have := figs_dig hc; (first | lia | omega))
          first | refine ⟨Nat.le_of_ble_eq_true rfl, ?_⟩ | refine ⟨by simp, ?_⟩
          refine ⟨[13, 10], rfl, by decide, by decide, ?_⟩
          refine ⟨by simp [asciiOf, bytesN]; (first | lia | omega), ?_⟩
          refine wloc_of rfl ?_
          refine ⟨by simp [asciiOf, bytesN]; (first | lia | omega), ?_⟩
          refine ret1 ⟨_, N1, rfl, ?_, rfl⟩
          have := Sp.lit (s := l) false (by (first | lia | omega))
          simpa [litS, asciiOf, textB, bytesN] using this
      · refine feql_of hE ?_
        refine kif_t ?_
        refine kif_t ?_
        first | refine ⟨Nat.le_of_ble_eq_true rfl, ?_⟩ | refine ⟨by simp, ?_⟩
        refine wloc_of rfl ?_
        refine ⟨_, rfl, ?_⟩
        refine wFor_inv (fun r σ => ∃ (q acc : List UInt8) (z : Option V), r = q.map (fun c => V.int (c.toNat : Int)) ∧ σ = ⟨[some (T.told (.str l)), some (.raw (.ref b)), none, some (.bytes l), some (.int w), z, some (.list (acc.map fun c => V.int (c.toNat : Int))), none, none, none, none, none], [(b, .list [.int N1])]⟩ ∧ acc ++ qBody q = 34 :: qBody l ∧ acc.length + 2 * q.length ≤ 2 * l.length + 1) (fun v r σ Q hI hQ => ?_) _ _ _ ⟨l, [34], none, rfl, rfl, rfl, by simp; (first | lia | omega)⟩ fun σ1 hI => ?_
        · obtain ⟨q, acc, z, hr, rfl, hn, hlen⟩ := hI
          cases q with
          | nil => simp at hr
          | cons c q =>
            simp only [List.map_cons, List.cons.injEq] at hr
            obtain ⟨rfl, rfl⟩ := hr
            simp only [List.length_cons] at hlen
            refine wloc_of rfl ?_
            refine wloc_of rfl ?_
            first | refine ⟨Nat.le_of_ble_eq_true rfl, [34, 92], rfl, ?_⟩ | refine ⟨by simp, [34, 92], rfl, ?_⟩
            by_cases h : c = 34 ∨ c = 92
            · have hb : [(34 : Int), 92].any (· == (c.toNat : Int)) = true := by rcases h with rfl | rfl <;> decide
              have hq : qBody (c :: q) = 92 :: c :: qBody q := by rcases h with rfl | rfl <;> simp [qBody]
              rw [hq] at hn
              rw [hb]
              refine bif_t ?_
              refine wloc_of rfl ?_
              first | refine ⟨Nat.le_of_ble_eq_true rfl, by simp; (first | lia | omega), ?_⟩ | refine ⟨by simp, by simp; (first | lia | omega), ?_⟩
              exact hQ _ ⟨q, acc ++ [92, c], _, rfl, by simp; rfl, by simpa using hn, by simp; (first | lia | omega)⟩
            · have n1 : ((c.toNat : Int) == ((34 : Nat) : Int)) = false := ne_int (by decide) fun e => h (.inl e)
              have n2 : ((c.toNat : Int) == ((92 : Nat) : Int)) = false := ne_int (by decide) fun e => h (.inr e)
              have hb : [(34 : Int), 92].any (· == (c.toNat : Int)) = false := by
                have m1 := beq_eq_false_iff_ne.mp n1
                have m2 := beq_eq_false_iff_ne.mp n2
                simp; (first | lia | omega)
              have hq : qBody (c :: q) = c :: qBody q := by
                have h1 : (c == 34) = false := by simp; exact fun e => h (.inl e)
                have h2 : (c == 92) = false := by simp; exact fun e => h (.inr e)
                rw [qBody, h1, h2]; rfl
              rw [hq] at hn
              rw [hb]
              refine bif_f ?_
              refine wloc_of rfl ?_
              first | refine ⟨Nat.le_of_ble_eq_true rfl, by simp; (first | lia | omega), ?_⟩ | refine ⟨by simp, by simp; (first | lia | omega), ?_⟩
              exact hQ _ ⟨q, acc ++ [c], _, rfl, by simp; rfl, by simpa using hn, by simp; (first | lia | omega)⟩
        · obtain ⟨q, acc, z, hr, rfl, hn, hlen⟩ := hI
          have : q = [] := by simpa using hr.symm
          subst this
          refine wloc_of rfl ?_
          first | refine ⟨Nat.le_of_ble_eq_true rfl, by simp; simp at hlen; (first | lia | omega), ?_⟩ | refine ⟨by simp, by simp; simp at hlen; (first | lia | omega), ?_⟩
          refine ⟨(acc ++ [34]).map fun c : UInt8 => (c.toNat : Int), by simp, fun n hn => ?_, by simp; simp at hlen; (first | lia | omega), ?_⟩
          · obtain ⟨c, _, rfl⟩ := List.mem_map.mp hn
            have := c.toNat_lt
            exact ⟨by (first | lia | omega), by (first | lia | omega)⟩
          · refine ret1 ⟨_, N1, rfl, ?_, rfl⟩
            have e1 : acc = 34 :: qBody l := by simpa [qBody] using hn
            have e2 : bytesN ((acc ++ [34]).map fun c : UInt8 => (c.toNat : Int)) = quotedB l := by
              rw [e1]; unfold bytesN quotedB; rw [List.map_map]
              conv => rhs; rw [← List.map_id (34 :: (qBody l ++ [34]))]
              exact List.map_congr_left fun c _ => by simp
            rw [e2]
            exact .quo (okQ_of hE)
    · refine feqi_of (EV := False) (b := false) (beq_eq_false_iff_ne.mpr w0) ?_
      refine kif_f ?_
      refine kif_f ?_
      refine wloc_of rfl ?_
      refine ⟨by (first | lia | omega), ?_⟩
      refine ⟨by (first | lia | omega), by simpa using log_small (n := l.length) (by (first | lia | omega)), ?_⟩
      simp only [Int.toNat_natCast]
      refine ⟨by simp; (first | lia | omega), ?_⟩
      refine wloc_of rfl ?_
      by_cases w1 : w = 1
      · refine feqi_of (EV := False) (b := true) (by simp [w1]) ?_
        refine kif_t ?_
        refine ⟨by simp; (first | lia | omega), ?_⟩
        refine ⟨by simp; (first | lia | omega), ?_⟩
        refine ⟨trivial, ?_⟩
        refine ⟨rfl, fun c hc => ?_, by simp; (first | lia | omega), ?_⟩
        · simp only [List.mem_append, List.mem_cons, List.not_mem_nil, or_false] at hc
          rcases hc with ((hc | hc) | hc) | hc <;> first | (first | lia | omega) | (have := figs_dig hc; (first | lia | omega))
        first | refine ⟨Nat.le_of_ble_eq_true rfl, ?_⟩ | refine ⟨by simp, ?_⟩
        refine ⟨[13, 10], rfl, by decide, by decide, ?_⟩
        refine ⟨by simp [asciiOf, bytesN]; (first | lia | omega), ?_⟩
        refine wloc_of rfl ?_
        refine ⟨by simp [asciiOf, bytesN]; (first | lia | omega), ?_⟩
        refine ret1 ⟨_, N1, rfl, ?_, rfl⟩
        have := Sp.lit (s := l) true (by (first | lia | omega))
        simpa [litS, asciiOf, textB, bytesN] using this
      · refine feqi_of (EV := False) (b := false) (beq_eq_false_iff_ne.mpr w1) ?_
        refine kif_f ?_
        refine ⟨by simp; (first | lia | omega), ?_⟩
        refine ⟨by simp; (first | lia | omega), ?_⟩
        refine ⟨trivial, ?_⟩
        refine ⟨rfl, fun c hc => ?_, by simp; (first | lia | omega), ?_⟩
        · simp only [List.mem_append, List.mem_cons, List.not_mem_nil, or_false] at hc
          rcases hc with (hc | hc) | hc <;> first | (first | lia | omega) | (have := figs_dig hc; (first | lia | omega))
        first | refine ⟨Nat.le_of_ble_eq_true rfl, ?_⟩ | refine ⟨by simp, ?_⟩
        refine ⟨[13, 10], rfl, by decide, by decide, ?_⟩
        refine ⟨by simp [asciiOf, bytesN]; (first | lia | omega), ?_⟩
        refine wloc_of rfl ?_
        refine ⟨by simp [asciiOf, bytesN]; (first | lia | omega), ?_⟩
        refine ret1 ⟨_, N1, rfl, ?_, rfl⟩
        have := Sp.lit (s := l) false (by (first | lia | omega))
        simpa [litS, asciiOf, textB, bytesN] using this
end
end Mine
end

section
open PySem PySem.W PyProof.Rows PySem.Calls
namespace Mine

section
variable {b : Bool} {prog : Program} {w : World} {A : Around} {R : Result → Shared → Prop} {s : Shared}
theorem cg_expr {e : Expr} {env : Env}
    (h : wpG b (model prog w) (A.deeper env) (eval e env) (fun v s' => R (.ok (.ret v)) s')
      (fun e' s' => wpAny (model prog w) (A.deeper env) (leaving env e') (fun _ s'' => R (.error e') s'') (fun e'' s'' => R (.error e'') s'') s') s) :
    codeG b (model prog w) A (.expr e env) R s := by
  refine cg_of_tree rfl ?_
  show wpG b _ (A.deeper env) (point >>= fun _ => (eval e env).onRaise (leaving env) >>= fun v => ret v) _ _ s
  refine g_then (wpAny_point (g_bind ?_))
  exact g_onRaise (g_mono h (fun v s' h' => g_pure h') fun _ _ h' => h')
theorem cg_callFunE {a : Addr} {args : Args} {o : Obj} {fd : FuncData} {body : Expr} (hroom : A.depth < recursionLimit)
    (ho : s.heap.get? a = some o)
    (hd' : o.data = .func fd) (hco : fd.scope.isCoroutine = false) (hgen : fd.scope.isGenerator = false) (hbody : fd.body = .expr body) (hcd : s.heap.CodeRec fd.code fd.qualname)
    (h : wpAny (model prog w) A.in1 (bindArgs fd args) (fun binds s₁ =>
      wpAny (model prog w) A.in1 (newFunctionEnv fd.scope fd.globals fd.closure binds (fd.qualname ++ ".<locals>.") (some a) fd.code none fd.builtins)
        (fun env s₂ => s₂.heap.NoLimit ∧ codeG b (model prog w) A (.expr body env) R s₂) (fun e s' => R (.error e) s') s₁) (fun e s' => R (.error e) s') s) :
    codeG b (model prog w) A (.call (.ref a) args) R s := by
  refine cg_of_tree rfl ?_
  show wpG b _ A.in1 (callAny (.ref a) args) _ _ s
  simp only [callAny]
  refine g_then (wpAny_load ho ?_)
  obtain ⟨c, oc, vs, tq, hc, hoc, hdc, hq⟩ := hcd
  simp only [hd', callFunction, hco, hgen, hbody, hc]
  rw [hc] at h
  refine g_then (m := field (.ref c) 1) (wpAny_field hoc hdc hq (g_bind (g_pure ?_)))
  exact g_then (wpAny_mono h (fun binds s₁ h₁ => g_then (wpAny_mono h₁ (fun env s₂ h₂ => g_then (wpAny_enterFrame h₂.1 hroom
    (g_pure (And.intro rfl h₂.2)))) fun _ _ h' => h')) fun _ _ h' => h')
end

noncomputable abbrev lamP : Arguments := { posonlyargs := [], args := [], vararg := none, kwonlyargs := [], kw_defaults := [], kwarg := none, defaults := [] }
noncomputable abbrev lamS (x y : Str) : Scope := { kind := .function, names := [(x, .free), (y, .globalImplicit)], isGenerator := false, isCoroutine := false, more := [] }

theorem lamS_get {x y z : Str} {i : Nat} {kd : NameKind} (h : (lamS x y).names[i]? = some (z, kd)) : (i = 0 ∧ z = x ∧ kd = .free) ∨ (i = 1 ∧ z = y ∧ kd = .globalImplicit) := by
  match i, h with
  | 0, h => cases h; exact .inl ⟨rfl, rfl, rfl⟩
  | 1, h => cases h; exact .inr ⟨rfl, rfl, rfl⟩
  | n + 2, h => cases h
/-- a call of a lambda of one captured name -/
theorem ct_lam {X : Cx} {k : Nat} {f ca c' : Addr} {oc : Obj} {ctv pm val : Value} {qual x y : Str} {body : Expr} {v : V} {QV : V → List (Addr × MO) → Prop} {EV : Prop} {d : W V}
    (ho : X.g0.get? f = some (kla_obj "<lambda>" qual lamP body (lamS x y) [(x, ca)] pm c' ctv)) (hcd : X.g0.CodeRec (.ref c') qual)
    (hxy : scopeOK (lamS x y) = true) (hca : X.g0.get? ca = some oc) (hoc : oc.data = .cell (some val)) (hv : VR (fun b => X.g0.get? b) v val)
    (hd : ∀ L, TE X k (frameEnv (lamS x y) L [(x, ca)] qual f (.ref c')) body d)
    (h : d (fun v' σ' => ∃ v'' O', RetV [] σ'.objs v' v'' O' ∧ QV v'' O') EV ⟨[some v, none], []⟩) : CT X (k + 1) (.ref f) [] [] QV EV := by
  intro A l D s vals Q E P hvs O1 O2
  cases hvs
  simp only [scopeOK, Bool.and_eq_true, beq_iff_eq, decide_eq_true_eq] at hxy
  obtain ⟨⟨-, hnd⟩, hdbg⟩ := hxy
  have hk0 : ∀ b o, X.g0.get? b = some o → s.heap.get? b = some o := fun b o q => P.kD _ _ (P.gD _ _ q)
  refine cg_callFunE P.room.d (hk0 _ _ ho) rfl rfl rfl rfl (hcd.keeps hk0) ?_
  have hbind : bindArgs (kla_fn "<lambda>" qual lamP body (lamS x y) [(x, ca)] pm (.ref c') ctv) ⟨[], []⟩ = pure [] := rfl
  rw [hbind]
  refine wpAny_pure (wpAny_newFunctionEnv (fun z hz => ?_) (fun _ hz => by cases hz) (fun h₁ hns hsb => ?_) rfl)
  · rcases List.mem_cons.mp hz with rfl | hz
    · simp
    · rw [List.mem_singleton.mp hz]; simp
  have hkeep : ∀ b o, s.heap.get? b = some o → h₁.get? b = some o := fun b o e => hsb.extBut b o (Nat.ne_of_lt (Heap.lt_size e)) (Heap.get?_push_of_some _ e)
  have hnone : ∀ b, s.heap.objs.size ≤ b → s.heap.get? b = none := fun b hb => none_at hb
  refine ⟨(P.G.nolimit.keeps hk0).fresh _ hsb, cg_expr ?_⟩
  show wpG X.b _ (A.deeper (frameEnv (lamS x y) s.heap.objs.size [(x, ca)] qual f (.ref c'))) (eval body (frameEnv (lamS x y) s.heap.objs.size [(x, ca)] qual f (.ref c'))) _ _ _
  let env : Env := frameEnv (lamS x y) s.heap.objs.size [(x, ca)] qual f (.ref c')
  let c : FC := { env := env, stack := env :: l, own := [], hid := [], B := fun b => if b ∈ feet [] then none else s.heap.get? b, D₀ := D, base := s }
  have hfrm : c.env.frame = some s.heap.objs.size := rfl
  have DL : D s.heap.objs.size = none := by
    cases q : D s.heap.objs.size with
    | none => rfl
    | some o => have := P.kD _ o q; rw [hnone _ (Nat.le_refl _)] at this; cases this
  have R : Rel X.g0 c D ⟨[some v, none], []⟩ { s with heap := h₁, toks := s.toks + ([] : List (Str × Value)).length } := by
    refine ⟨⟨h₁, _, rfl⟩, fun b o e => hkeep b o (P.kD b o e), P.gD, DM.le_refl D, fun b o e => .inl e, fun b o e => ⟨o, hkeep b o e⟩, fun b o e => ?_, ?_, ⟨?_, fun i z kd e1 e2 => ?_, (fun b hb => by cases hb)⟩, (fun p hp => by cases hp), (fun _ h => by cases h), fun b hb => ?_, fun b hb => ?_, fun b hb => ?_, fun b hb => ?_, ?_⟩
    · have e' : s.heap.get? b = some o := e
      exact ⟨⟨o.slots, hkeep b o e'⟩, fun _ => hkeep b o e'⟩
    · refine ⟨(by intro q; cases q), ?_, P.stk.keeps fun b o e => ⟨o, hkeep b o e, rfl⟩⟩
      obtain ⟨o, es, ep, q1, q2, _⟩ := hns
      exact ⟨s.heap.objs.size, o, rfl, q1, fun vs q => by rw [q2] at q; cases q⟩
    · refine ⟨_, hns, fun i z u e1 e2 => ?_⟩
      rcases lamS_get e1 with ⟨-, -, q⟩ | ⟨-, -, q⟩ <;> cases q
    · rcases lamS_get e1 with ⟨rfl, hz, rfl⟩ | ⟨rfl, hz, rfl⟩
      · refine ⟨ca, oc, some val, by rw [hz]; show List.lookup x [(x, ca)] = some ca; simp [List.lookup], hkeep _ _ (hk0 _ _ hca), hoc, .inr (by show (s.heap.get? ca).isSome = true; rw [hk0 _ _ hca]; rfl), fun u hu => ?_⟩
        cases hu
        exact ⟨val, rfl, hv.mono P.gD⟩
      · rcases e2 with e2 | e2 <;> cases e2
    · rw [List.mem_singleton.mp (show b ∈ [s.heap.objs.size] from hb)]
      exact hnone _ (Nat.le_refl _)
    · rw [List.mem_singleton.mp (show b ∈ [s.heap.objs.size] from hb)]
      exact DL
    · have hb' : b ∈ s.heap.objs.size :: frames l := hb
      rcases List.mem_cons.mp hb' with rfl | hb'
      · exact DL
      · exact P.disS b hb'
    · have hb' : b ∈ s.heap.objs.size :: frames l := hb
      rcases List.mem_cons.mp hb' with rfl | hb'
      · exact .inl rfl
      · right
        obtain ⟨o, e⟩ := P.stk.mem b hb'
        show (s.heap.get? b).isSome = true
        rw [e]; rfl
    · simp [foot, c, feet]
  have ok : EnvOK env := by
    refine ⟨rfl, rfl, rfl, hnd, fun y hy => ?_, ⟨_, rfl⟩, fun p q r h1 h2 => ?_⟩
    · obtain ⟨p, hp, rfl⟩ := List.mem_map.mp hy
      have := List.all_eq_true.mp hdbg p hp
      simp only [Bool.and_eq_true, Bool.not_eq_true'] at this
      exact this
    · have h1' : List.lookup p [(x, ca)] = some r := h1
      have h2' : List.lookup q [(x, ca)] = some r := h2
      simp only [List.lookup] at h1' h2'
      split at h1'
      · rename_i e1
        split at h2'
        · rename_i e2
          rw [beq_iff_eq.mp e1, beq_iff_eq.mp e2]
        · cases h2'
      · cases h1'
  have room : Room (A.deeper env) k := ⟨by have := P.room.depth; show A.depth + 1 + 2 * k + 2 < 1000; (first | lia | omega), by have := P.room.units; show A.units + 3 + 40 * k + 40 < 9900; (first | lia | omega)⟩
  have PP : Pre X k c (A.deeper env) D ⟨[some v, none], []⟩ { s with heap := h₁, toks := s.toks + ([] : List (Str × Value)).length } := by
    refine ⟨P.G, ok, fun _ i z ca' e1 _ => ?_, room, P.hh, ⟨env, l, rfl, rfl⟩, Around.frames_deeper P.fr, R⟩
    rcases lamS_get e1 with ⟨-, -, q⟩ | ⟨-, -, q⟩ <;> cases q
  refine hd s.heap.objs.size c (A.deeper env) D _ _ _ EV _ _ rfl PP h (fun v1 vv D' σ' s' R' l' hvv q => ?_) fun ev e s' F => ?_
  · obtain ⟨v', O', hr, hq⟩ := q
    obtain ⟨h', t', e'⟩ := R'.same
    obtain ⟨D'', C⟩ := Rel.leave (X := X) (c := c) (l := l) (O := []) (s := s) (h' := h') (t' := t') e' rfl hfrm rfl rfl (fun a ha => by cases ha) rfl R' hvv hr
    show Q vv s'
    rw [e']
    exact O1 v' vv D'' O' h' t' C hq
  · exact flight_leave (c := c) (l := l) (Hs := s) (O := []) (Around.frames_deeper P.fr) rfl hfrm rfl rfl (hnone _ (Nat.le_refl _)) F fun s'' F' => O2 ev e s'' F'
end Mine
end

section
open PySem PySem.W PyProof.Rows PySem.Calls
namespace Mine

section
variable {X : Cx} {k : Nat} {env : Env}

/-- `deed()` of a local name that holds a function -/
theorem te_deed {x : Str} {p1 pos : Pos} (i : Nat) (hx : env.scope.names[i]? = some (x, .local)) 
    (hs : eval (.Call (.Name x p1) [] [] pos) env = (do callWith pos (← eval (.Name x p1) env) [] (backTo pos (starEach [] env)) (backToKw pos (keywordEach [] env))) := by rfl) :
    TE X k env (.Call (.Name x p1) [] [] pos) (fun QV EV σ => ∃ f oc od fd sl, σ.loc[i]? = some (some (.raw (.ref f))) ∧ X.g0.get? f = some ⟨oc, od, .func fd, sl⟩ ∧ wCt X k (.ref f) [] QV EV σ) :=
  fun c A D σ s QV EV Q E hc P h O OE => by
    obtain ⟨f, oc, od, fd, sl, hl, ho, hct⟩ := h
    rw [hs]
    refine g_bind (te_loc i hx c A D σ s (fun v σ1 => v = .raw (.ref f) ∧ σ1 = σ) EV _ E hc P (wloc_of hl ⟨rfl, rfl⟩) (fun vf vv D1 σ1 s1 R1 l1 hvf q => ?_) OE)
    obtain ⟨rfl, rfl⟩ := q
    cases hvf
    have ha := ta_nil (X := X) (k := k) (env := env)
    refine g_callWith (P := fun h => h.get? f = some ⟨oc, od, .func fd, sl⟩) (ha.1 pos) (fun h e => ⟨.frame, .inl rfl, (Looks.ld (part := none) e).andThen .now⟩) ?_
    refine g_evalArgs (ha.2 pos c A D1 σ1 s1 (fun vs σ2 => vs = [] ∧ σ2 = σ1) EV _ E hc (P.to R1) ⟨rfl, rfl⟩ (fun vs vvs D2 σ2 s2 R2 l2 hvs q2 => ⟨R2.kD _ _ (R2.gD _ _ ho), ?_⟩) OE) (ha.1 pos)
    obtain ⟨rfl, rfl⟩ := q2
    obtain ⟨pre, Ob, post, hoo, hct⟩ := hct
    exact callV (P.to R2) hvs hoo hct (O.le (DM.le_trans l1 l2)) OE
end

/-- `_law_is_refused(deed)`: the deed ends in a wire fault -/
theorem ct_refused {X : Cx} {k : Nat} {f : Addr} {oc : Value} {od : Option Addr} {fd : FuncData} {sl : Array (Option Value)} (ho : X.g0.get? f = some ⟨oc, od, .func fd, sl⟩) (hct : CT X k (.ref f) [] [] (fun _ _ => False) True) :
    CT X (k + 1) (.ref 461) [.raw (.ref f)] [] (fun v O => v = .bool true ∧ O = []) False := by
  refine ct_def0 (dargs := []) (dvals := []) [Str.ofString "deed"] [0] (fun P => rfl) (fun P => by kernel_rfl) (fun s P vals hK hl => ?bind) .nil (by decide +kernel) (by decide +kernel) rfl ?_
  case bind => obtain ⟨a, rfl⟩ := len1 hl; exact BindsTo.of_eq rfl
  refine ⟨_, fun L cells => ts_try 1 rfl (fun P => by kernel_rfl) (by kernel_rfl) (ts_cons (ts_expr (te_deed 0 rfl)) ts_nil) (ts_cons (ts_ret te_bool) ts_nil), ?_⟩
  refine ⟨rfl, True, fun _ => ret0 ⟨rfl, rfl⟩, ?_⟩
  refine ⟨f, oc, od, fd, sl, rfl, ho, ?_⟩
  exact ⟨[], [], [], rfl, hct.mono (fun v O' h => h.elim) id⟩

theorem Gd.grow {X : Cx} (G : Gd X) {h : Heap} (hk : ∀ a o, X.g0.get? a = some o → h.get? a = some o) : Gd { X with g0 := h } := by
  obtain ⟨K, ⟨mg, h1⟩, ⟨mb, h2, h3⟩, h4, ⟨mc, h5, h6⟩⟩ := G
  exact ⟨fun a o e => hk _ _ (K a o e), ⟨mg, h1.keeps hk⟩, ⟨mb, h2.keeps hk, h3⟩, h4.keeps hk, ⟨mc, h5.keeps hk, h6⟩⟩

/-- a call that sees the whole heap as frozen -/
theorem call_frozen {X : Cx} {k : Nat} {c : FC} {A : Around} {D : DM} {σ : St} {s : Shared} (P : Pre X k c A D σ s) {f : Value} {vs : List V} {vals : List Value} {q : Bool}
    (hct : CT { X with g0 := hideAll s.heap (frames c.stack) } k f vs [] (fun v O => v = .bool q ∧ O = []) False) (hv : VRs (fun b => (hideAll s.heap (frames c.stack)).get? b) vs vals)
    {QV : V → St → Prop} {Q : Value → Shared → Prop} {E : Value → Shared → Prop} (O : Out X c D QV Q) (h : QV (.bool q) σ) : wpG X.b (model P0 X.w) A (call f vals) Q E s := by
  have R := P.rel
  have hk : ∀ a o, X.g0.get? a = some o → (hideAll s.heap (frames c.stack)).get? a = some o := fun a o e => by
    have e1 := R.gD _ _ e
    refine hideAll_get _ (R.kD _ _ e1) fun hm => ?_
    rw [R.disS a hm] at e1; cases e1
  have CP : CPre { X with g0 := hideAll s.heap (frames c.stack) } k A c.stack (fun b => (hideAll s.heap (frames c.stack)).get? b) [] s :=
    ⟨P.G.grow hk, P.room, P.hh, P.fr, R.stk, fun a o e => of_hideAll _ e, fun a o e => e, (fun p hp => by cases hp), List.nodup_nil, (fun a ha => by cases ha), (fun a ha => by cases ha), fun a ha => hideAll_none _ ha⟩
  refine g_call (hct A c.stack _ s vals Q E CP hv (fun v vv D'' O' h' t' C z => ?_) fun ev => ev.elim)
  obtain ⟨rfl, rfl⟩ := z
  have hvv := C.val
  cases hvv
  have CX : CPost X c.stack D [] s (.bool q) (.bool q) D [] h' := by
    refine ⟨DM.le_refl D, fun a o e => .inl e, fun a o e => ?_, C.keep, (fun a ha => by cases ha), (fun p hp => by cases hp), List.nodup_nil, (fun a ha => by cases ha), (fun a ha => by cases ha), .bool q⟩
    have hn : a ∉ frames c.stack := fun hm => by rw [R.disS a hm] at e; cases e
    exact (C.keep a o (R.kD _ _ e) (by simp [feet])).2 hn
  have R2 := Rel.after P (pre := σ.objs) (O := []) (post := []) (by simp) (t' := t') CX
  have e : ({ σ with objs := σ.objs ++ ([] ++ []) } : St) = σ := by simp
  rw [e] at R2
  exact O (.bool q) _ D σ _ R2 (DM.le_refl D) (.bool q) h
end Mine
end

section
open PySem PySem.W PyProof.Rows PySem.Calls
namespace Mine

noncomputable def ModAt (g : Heap) : Prop := ∃ o, g.get? 4 = some o ∧ o.cls = .type "module" ∧ o.dict = some builtinsNs ∧ o.data = .plain

noncomputable abbrev vs467 : Array Value := #[.str "law" 747, .str "law" 748, .str "/claim/cut.py" 749, .int 350 0, .int 1 0, .int 0 0, .int 0 0, .int 3 0, .ref 462, .bool true, .int 181 0, .ref 463, .none, .ref 464, .ref 465, .ref 466, .int 759 0, .int 350 0, .str "/claim/cut.py" 760]
theorem codeHd_law {h : Heap} {P : Params} (K : (hd.heap_39 P).In h) : CodeHd h 467 463 :=
  ⟨{ cls := .type "code", data := .fields vs467 }, vs467, _, _, _, _, _, _, _, K 467 _ (by kernel_rfl), rfl, rfl, rfl, rfl, rfl, rfl, rfl, rfl, by decide⟩
theorem closure1 {x y : Str} {env : Env} {ca : Addr} (h : env.cells.lookup x = some ca) : closureFor (lamS x y) env = pure [(x, ca)] := by
  unfold closureFor
  simp only [List.forIn_cons, List.forIn_nil, cellOf, h]
  rfl

section
variable {X : Cx} {k : Nat} {env : Env}
/-- `_law_is_refused(lambda: …)` in the law -/
theorem te_refuse {fe : Expr} {lb : Expr} {x y : Str} {lpos pos : Pos} (i : Nat) (ql : Str) (hf : TE X k env fe (wVal (.raw (.ref 461)))) (hi : env.scope.names[i]? = some (x, .cell)) (hcode : env.code = .ref 467) (hql : env.qual ++ "<lambda>" = ql) (hdef : defaultsOf lamP env = ([], []) := by rfl) (hfn : env.func.isSome = true := by rfl)
    (hst : starEach [.Lambda lamP lb (lamS x y) lpos] env = [(false, eval (.Lambda lamP lb (lamS x y) lpos) env)] := by rfl)
    (hs : eval (.Call fe [.Lambda lamP lb (lamS x y) lpos] [] pos) env = (do callWith pos (← eval fe env) [] (backTo pos (starEach [.Lambda lamP lb (lamS x y) lpos] env)) (backToKw pos (keywordEach [] env))) := by rfl) :
    TE X k env (.Call fe [.Lambda lamP lb (lamS x y) lpos] [] pos) (fun QV EV σ => ∃ pre post ps v, σ.objs = pre ++ (463, .tab ps) :: post ∧ TriplesOk ps.toList ∧ codeAmong lpos ps.toList = none ∧ ModAt X.g0 ∧ σ.loc[i]? = some (some v) ∧
      (∀ (g : Heap) (f ca c' : Addr) (oc : Obj) (val ctv pm : Value), g.get? f = some (kla_obj "<lambda>" ql lamP lb (lamS x y) [(x, ca)] pm c' ctv) → g.CodeRec (.ref c') ql → g.get? ca = some oc → oc.data = .cell (some val) → VR (fun b => g.get? b) v val →
        CT { X with g0 := g } k (.ref 461) [.raw (.ref f)] [] (fun v O => v = .bool true ∧ O = []) False) ∧
      ∀ c', QV (.bool true) { σ with objs := pre ++ (463, .tab (ps ++ #[rawInt lpos.line, rawInt lpos.col, .ref c'])) :: post }) :=
  fun c A D σ s QV EV Q E hc P h O OE => by
    obtain ⟨pre, post, ps, v, hobj, htr, hcn, hmod, hv, hct, hq⟩ := h
    rw [hs]
    refine g_bind (hf c A D σ s (fun v σ1 => v = .raw (.ref 461) ∧ σ1 = σ) EV _ E hc P ⟨rfl, rfl⟩ (fun vf vv D1 σ1 s1 R1 l1 hvf q => ?_) OE)
    obtain ⟨rfl, rfl⟩ := q
    cases hvf
    have P1 := P.to R1
    subst hc
    subst hql
    have hcw : CWok X (.ref 461) := cw_keep fun P => by kernel_rfl
    rw [hst]
    obtain ⟨ca, o, w, a1, a2, a3, a4, a5⟩ := R1.loc.cell i x _ hi (.inl rfl)
    obtain ⟨val, rfl, hval⟩ := a5 v hv
    obtain ⟨mg, hg0⟩ := P1.G.mg
    have hk : ∀ b o, X.g0.get? b = some o → s1.heap.get? b = some o := fun b o q => R1.kD _ _ (R1.gD _ _ q)
    have K1 := kIn P1
    obtain ⟨om, m1, m2, m3, m4⟩ := hmod
    have hB : s1.heap.BuiltinsAt mg 463 := ⟨4, om, mg_of P1.G.K hg0 (by kernel_rfl), by decide, by decide, by decide, hk _ _ m1, m2, m3, m4⟩
    have htab : s1.heap.get? 463 = some (tabObj ps) := R1.obj (463, .tab ps) (by rw [hobj]; simp)
    refine hcw (by rfl) (g_evalArgs ?_ (by rfl))
    show wpG _ _ A (spliced ((false, eval (.Lambda lamP lb (lamS x y) lpos) c.env) :: [])) _ E s1
    refine g_spliced_cons (g_of (kla_eval hdef (kla_makeFunction (mg := mg) (closure1 a1) P.ok.glob (hg0.keeps hk) hcode (codeHd_law K1) htab htr hcn (by decide) hB fun c' ctv h' tk hx hge hlt hrec htb => ?_)))
    have hne : ∀ b o, s1.heap.get? b = some o → b ≠ 463 → h'.get? b = some o := fun b o e q => hx b o q e
    have R2 := Rel.turn P1 (mo' := .tab (ps ++ #[rawInt lpos.line, rawInt lpos.col, .ref c'])) (t' := tk) hobj rfl (h' := h'.push (kla_obj "<lambda>" (c.env.qual ++ "<lambda>") lamP lb (lamS x y) [(x, ca)] ((mg "__name__").getD .none) c' ctv)) (Heap.get?_push_of_some _ htb)
      fun b o hb e => Heap.get?_push_of_some _ (hne b o e fun q => hb (by simp [footO, q]))
    have P2 := P1.to R2
    have fr1 : ∀ a ∈ frames c.stack, ∃ o, s1.heap.get? a = some o := fun a ha => R1.stk.mem a ha
    have h463 : (463 : Addr) < h'.objs.size := Heap.lt_size htb
    have nf : h'.objs.size ∉ frames c.stack := fun hm => by
      obtain ⟨o, e⟩ := fr1 _ hm
      have := Heap.lt_size (hne _ o e (Ne.symm (Nat.ne_of_lt h463)))
      exact absurd this (Nat.lt_irrefl _)
    have nc : c' ∉ frames c.stack := fun hm => by
      obtain ⟨o, e⟩ := fr1 _ hm
      exact absurd (Heap.lt_size e) (Nat.not_lt.mpr hge)
    have hown : ca ∈ c.own := P.ownf hfn i x ca hi a1
    have nca : ca ∉ frames c.stack := fun hm => by
      have nd := R1.nd
      have hin : ca ∈ foot c σ1.objs := List.mem_cons_of_mem _ (List.mem_append_left _ hown)
      rcases R1.frB ca hm with q | q
      · exact (List.nodup_cons.mp nd).1 (q ▸ List.mem_append_left _ hown)
      · rw [R1.disB ca hin] at q; cases q
    have ca463 : ca ≠ 463 := fun q => by
      rw [q, htab] at a2; cases a2; cases a3
    refine g_of (spliced_nil ⟨kIn P2, ?_⟩)
    refine call_frozen P2 (vs := [.raw (.ref h'.objs.size)]) (hct _ _ ca c' o val ctv ((mg "__name__").getD .none) (hideAll_get _ (pushed h' _ rfl) nf) ?_ (hideAll_get _ (Heap.get?_push_of_some _ (hne _ _ a2 ca463)) nca) a3 (hval.mono fun a oa e => hideAll_get _ (R2.kD _ _ e) fun hm => by rw [R2.disS a hm] at e; cases e)) (.cons (.raw _) .nil) (O.le l1) (hq c')
    obtain ⟨c0, oc, vs, t, e0, e1, e2, e3⟩ := hrec
    cases e0
    exact ⟨_, oc, vs, t, rfl, hideAll_get _ (Heap.get?_push_of_some _ e1) nc, e2, e3⟩
end
end Mine
end

section
open PySem PySem.W PyProof.Rows PySem.Calls
namespace Mine

theorem intText_figs {n : Nat} (h : n < 10 ^ 19) : PySem.intText? (strD (figs n)) = some (n : Int) := by
  have h1 := figs_small h
  have := PySem.intText_digits (x := strD (figs n)) (fun c hc => figs_dig (by simpa using hc)) (by simpa using figs_ne n) (by rw [strD_len]; omega)
  rw [this]
  have e : (strD (figs n)).cps.toList = (Nat.toDigits 10 n).map Char.toNat := by simp [figs]
  rw [e, KIN.val_back]
theorem textOf_textB {l : List Nat} (h : ∀ c ∈ l, c < 256) : textOf (textB l) = l := byteT_textB h
theorem slice1 {l : List UInt8} {p : Nat} {c : UInt8} {r : List UInt8} (h : l.drop p = c :: r) : sliceB l (p : Int) ((p : Int) + 1) = [c] := by
  have := slice_at l p 1
  rw [h] at this
  exact this
theorem sliceN {l : List UInt8} {p q : Nat} {x r : List UInt8} (h : l.drop p = x ++ r) (hq : q = p + x.length) : sliceB l (p : Int) (q : Int) = x := by
  have := slice_at l p x.length
  rw [h] at this
  rw [hq, show (((p + x.length : Nat) : Int)) = (p : Int) + (x.length : Int) by (first | lia | omega), this]
  simp
theorem wslc_of {i j : Nat} {l r : List UInt8} {p : Nat} {c : UInt8} {QV : V → St → Prop} {EV : Prop} {σ : St} (h1 : σ.loc[i]? = some (some (.bytes l))) (h2 : σ.loc[j]? = some (some (.int (p : Int)))) (hL : l.length ≤ 16777216) (h0 : l.drop p = c :: r) (q : QV (.bytes [c]) σ) :
    wSl (wLoc i) (wLoc j) (wBin (wLoc j) (wVal (.int 1)) fAdd) QV EV σ := by
  refine wloc_of h1 (wloc_of h2 (wloc_of h2 ⟨l, _, _, rfl, rfl, rfl, by omega, by omega, hL, ?_⟩))
  rw [slice1 h0]; exact q
end Mine
end

section
open PySem PySem.W PyProof.Rows PySem.Calls
namespace Mine
noncomputable def sNIL : List Nat := [78, 73, 76]

section
variable {X : Cx} {k : Nat}
theorem T.szs_mem : ∀ {ts : List T} {u : T}, u ∈ ts → u.sz ≤ T.szs ts
  | t :: r, u, h => by
    rw [T.szs]
    rcases List.mem_cons.mp h with rfl | h
    · (first | lia | omega)
    · have := T.szs_mem h; (first | lia | omega)
theorem fneb_of {x y : List UInt8} {b : Bool} {QV : Bool → St → Prop} {EV : Prop} {σ : St} (e : (x != y) = b) (q : QV b σ) : fNe (.bytes x) (.bytes y) (bOf QV) EV σ := fne_of e q
set_option maxHeartbeats 8000000 in
theorem law_read_def (t : T) (hf : t.fine) (hz : t.sz ≤ 1000) (l : List UInt8) (p : Nat) (post : List UInt8) (hl : l.length ≤ 1000000) (hpost : ∀ c, post.head? = some c → c = 32 ∨ c = 41) (h : l.drop p = t.wr ++ post)
    (ih : ∀ ts, t = .list ts → ∀ u ∈ ts, ∀ (q : Nat) (post' : List UInt8), (∀ c, post'.head? = some c → c = 32 ∨ c = 41) → l.drop q = u.wr ++ post' → CT X k (.ref 454) [.bytes l, .int (q : Int)] [] (fun v O => v = .tup [u.told, .int ((q + u.wr.length : Nat) : Int)] ∧ O = []) False) :
    CT X (k + 1) (.ref 454) [.bytes l, .int (p : Int)] [] (fun v O => v = .tup [t.told, .int ((p + t.wr.length : Nat) : Int)] ∧ O = []) False := by
  have hL : l.length ≤ 16777216 := by (first | lia | omega)
  have hsp := t.wr_sp hf
  have hwne : t.wr ≠ [] := by obtain ⟨c, r, e, _⟩ := hsp.head; rw [e]; simp
  have hlen := drop_len h hwne
  refine ct_def (dargs := []) (dvals := []) [Str.ofString "data", Str.ofString "at"] [0, 1] (fun P => rfl) (fun P => by kernel_rfl) (fun s P vals hK hl => ?bind) .nil (by decide +kernel) (by decide +kernel) rfl ?_
  case bind => obtain ⟨a, b, rfl⟩ := len2 hl; exact BindsTo.of_eq rfl
  refine ⟨_, fun L cells => (ts_cons (ts_if (tt_cmp (te_bslice (te_loc 0 rfl) (te_loc 1 rfl) (te_bin (te_loc 1 rfl) (te_int) tb_add)) (te_bytes) tb_eq) (ts_cons (ts_assign (te_listm ta_nil) (st_loc 2 rfl)) (ts_cons (ts_assign (te_bin (te_loc 1 rfl) (te_int) tb_add) (st_loc 1 rfl)) (ts_cons (ts_while (tt_cmp (te_bslice (te_loc 0 rfl) (te_loc 1 rfl) (te_bin (te_loc 1 rfl) (te_int) tb_add)) (te_bytes) tb_ne) (ts_cons (ts_unpack2 (te_callt (te_glob 7 rfl (fun P => by kernel_rfl) (.raw (.ref 454))) (cw_keep fun P => by kernel_rfl) (ta_cons (te_loc 0 rfl) (ta_cons (te_loc 1 rfl) ta_nil))) (st_loc 3 rfl) (st_loc 1 rfl)) (ts_cons (ts_expr (te_methb (te_loc 2 rfl) tm_append (ta_cons (te_loc 3 rfl) ta_nil) tf_append)) (ts_cons (ts_if (tt_cmp (te_bslice (te_loc 0 rfl) (te_loc 1 rfl) (te_bin (te_loc 1 rfl) (te_int) tb_add)) (te_bytes) tb_eq) (ts_cons (ts_assign (te_bin (te_loc 1 rfl) (te_int) tb_add) (st_loc 1 rfl)) ts_nil) ts_nil) ts_nil)))) (ts_cons (ts_ret (te_tuple (ta_cons (te_tuple (ta_cons (te_str (l := sList) (by decide +kernel)) (ta_cons (te_callb (te_bltn 8 rfl (fun P => by kernel_rfl) rfl (by decide)) (ta_cons (te_loc 2 rfl) ta_nil) tf_tuplem) ta_nil))) (ta_cons (te_bin (te_loc 1 rfl) (te_int) tb_add) ta_nil)))) ts_nil)))) ts_nil) (ts_cons (ts_if (tt_cmp (te_bslice (te_loc 0 rfl) (te_loc 1 rfl) (te_bin (te_loc 1 rfl) (te_int) tb_add)) (te_bytes) tb_eq) (ts_cons (ts_assign (te_methb (te_loc 0 rfl) (tm_bytes FBA.slot_find FBA.type_find) (ta_cons (te_bytes) (ta_cons (te_loc 1 rfl) ta_nil)) tf_find) (st_loc 4 rfl)) (ts_cons (ts_assign (te_callb (te_bltn 9 rfl (fun P => by kernel_rfl) rfl (by decide)) (ta_cons (te_methb (te_bslice (te_loc 0 rfl) (te_bin (te_loc 1 rfl) (te_int) tb_add) (te_loc 4 rfl)) (tm_bytes FB.slot_bytes_decode FB.type_bytes_decode) (ta_cons (te_str (l := asciiS) (by decide +kernel)) ta_nil) tf_decode) ta_nil) tf_int) (st_loc 5 rfl)) (ts_cons (ts_ret (te_tuple (ta_cons (te_tuple (ta_cons (te_str (l := sStr) (by decide +kernel)) (ta_cons (te_bslice (te_loc 0 rfl) (te_bin (te_loc 4 rfl) (te_int) tb_add) (te_bin (te_bin (te_loc 4 rfl) (te_int) tb_add) (te_loc 5 rfl) tb_add)) ta_nil))) (ta_cons (te_bin (te_bin (te_loc 4 rfl) (te_int) tb_add) (te_loc 5 rfl) tb_add) ta_nil)))) ts_nil))) ts_nil) (ts_cons (ts_if (tt_cmp (te_bslice (te_loc 0 rfl) (te_loc 1 rfl) (te_bin (te_loc 1 rfl) (te_int) tb_add)) (te_bytes) tb_eq) (ts_cons (ts_assign (te_listm ta_nil) (st_loc 2 rfl)) (ts_cons (ts_assign (te_bin (te_loc 1 rfl) (te_int) tb_add) (st_loc 1 rfl)) (ts_cons (ts_while (tt_cmp (te_bslice (te_loc 0 rfl) (te_loc 1 rfl) (te_bin (te_loc 1 rfl) (te_int) tb_add)) (te_bytes) tb_ne) (ts_cons (ts_if (tt_cmp (te_bslice (te_loc 0 rfl) (te_loc 1 rfl) (te_bin (te_loc 1 rfl) (te_int) tb_add)) (te_bytes) tb_eq) (ts_cons (ts_assign (te_bin (te_loc 1 rfl) (te_int) tb_add) (st_loc 1 rfl)) ts_nil) ts_nil) (ts_cons (ts_expr (te_methb (te_loc 2 rfl) tm_append (ta_cons (te_sub (te_loc 0 rfl) (te_loc 1 rfl)) ta_nil) tf_append)) (ts_cons (ts_assign (te_bin (te_loc 1 rfl) (te_int) tb_add) (st_loc 1 rfl)) ts_nil)))) (ts_cons (ts_ret (te_tuple (ta_cons (te_tuple (ta_cons (te_str (l := sStr) (by decide +kernel)) (ta_cons (te_callb (te_bltn 10 rfl (fun P => by kernel_rfl) rfl (by decide)) (ta_cons (te_loc 2 rfl) ta_nil) tf_bytesm) ta_nil))) (ta_cons (te_bin (te_loc 1 rfl) (te_int) tb_add) ta_nil)))) ts_nil)))) ts_nil) (ts_cons (ts_assign (te_loc 1 rfl) (st_loc 4 rfl)) (ts_cons (ts_while (tt_bool (tts_and (tt_cmp (te_loc 4 rfl) (te_callb (te_bltn 11 rfl (fun P => by kernel_rfl) rfl (by decide)) (ta_cons (te_loc 0 rfl) ta_nil) tf_len) tb_lt) (tts_and (tt_cmp (te_bslice (te_loc 0 rfl) (te_loc 4 rfl) (te_bin (te_loc 4 rfl) (te_int) tb_add)) (te_tuple (ta_cons (te_bytes) (ta_cons (te_bytes) ta_nil))) tb_notinb) tts_and_nil))) (ts_cons (ts_assign (te_bin (te_loc 4 rfl) (te_int) tb_add) (st_loc 4 rfl)) ts_nil)) (ts_cons (ts_assign (te_methb (te_bslice (te_loc 0 rfl) (te_loc 1 rfl) (te_loc 4 rfl)) (tm_bytes FB.slot_bytes_decode FB.type_bytes_decode) (ta_cons (te_str (l := asciiS) (by decide +kernel)) ta_nil) tf_decode) (st_loc 6 rfl)) (ts_cons (ts_if (tt_cmp (te_loc 6 rfl) (te_str (l := sNIL) (by decide +kernel)) tb_eq) (ts_cons (ts_ret (te_tuple (ta_cons (te_tuple (ta_cons (te_str (l := sNil) (by decide +kernel)) ta_nil)) (ta_cons (te_loc 4 rfl) ta_nil)))) ts_nil) ts_nil) (ts_cons (ts_ret (te_tuple (ta_cons (te_ifexp (tt_val (te_methb (te_loc 6 rfl) (tm_str F.slot_str_isdigit rfl) ta_nil tf_isdigit)) (te_tuple (ta_cons (te_str (l := sNum) (by decide +kernel)) (ta_cons (te_callb (te_bltn 9 rfl (fun P => by kernel_rfl) rfl (by decide)) (ta_cons (te_loc 6 rfl) ta_nil) tf_int) ta_nil))) (te_tuple (ta_cons (te_str (l := sAtom) (by decide +kernel)) (ta_cons (te_loc 6 rfl) ta_nil)))) (ta_cons (te_loc 4 rfl) ta_nil)))) ts_nil)))))))), ?_⟩
  by_cases hpl : isPlain t = true
  · obtain ⟨hne, hs, -⟩ := hsp.plain hpl
    obtain ⟨c, r, hcr⟩ : ∃ c r, (T.wr t) = c :: r := by cases hw : (T.wr t) with | nil => exact absurd hw hne | cons c r => exact ⟨c, r, rfl⟩
    have hv := hs c (by rw [hcr]; exact List.mem_cons_self)
    obtain ⟨n1, n2, n3, n4⟩ := val_not hv
    have h0 : l.drop p = c :: (r ++ post) := by rw [h, hcr]; rfl
    refine wslc_of rfl rfl hL h0 ?_
    refine feqb_of (EV := False) (b := false) (beq_eq_false_iff_ne.mpr (by simpa using n3)) ?_
    refine kif_f ?_
    refine wslc_of rfl rfl hL h0 ?_
    refine feqb_of (EV := False) (b := false) (beq_eq_false_iff_ne.mpr (by simpa using n2)) ?_
    refine kif_f ?_
    refine wslc_of rfl rfl hL h0 ?_
    refine feqb_of (EV := False) (b := false) (beq_eq_false_iff_ne.mpr (by simpa using n1)) ?_
    refine kif_f ?_
    refine wloc_of rfl ?_
    refine ⟨(T.wr t).length + 1, ?_⟩
    refine wWhile_up (fun i => ⟨[some (.bytes l), some (.int (p : Int)), none, none, some (.int ((p + i : Nat) : Int)), none, none, none, none, none, none, none], []⟩) (T.wr t).length (fun i hi Q hQ => ?_) (fun i hi Q hQ => ?_) (fun Q hQ => ?_) ?_ _ 0 (by (first | lia | omega))
    · have hd : l.drop (p + i) = (T.wr t)[i] :: ((T.wr t).drop (i + 1) ++ post) := by
        refine drop_more (x := (T.wr t).take i) ?_ (by rw [List.length_take]; (first | lia | omega))
        rw [h, ← List.cons_append, ← List.drop_eq_getElem_cons hi, ← List.append_assoc, List.take_append_drop]
      have hvi := hs _ (List.getElem_mem hi)
      refine wloc_of rfl ?_
      refine wloc_of rfl ?_
      refine ⟨hL, ?_⟩
      refine fcmp_of (r := fun a b => decide (a < b)) (EV := False) (b := true) (decide_eq_true (by (first | lia | omega))) ?_
      refine kif_t ?_
      refine wslc_of rfl rfl hL hd ?_
      first | refine ⟨Nat.le_of_ble_eq_true rfl, [[32], [41]], rfl, ?_⟩ | refine ⟨by simp, [[32], [41]], rfl, ?_⟩
      have e : (!([[32], [41]] : List (List UInt8)).any (· == [(T.wr t)[i]])) = true := by
        have m1 : (T.wr t)[i] ≠ 41 := (val_not hvi).2.2.2
        have m2 : (T.wr t)[i] ≠ 32 := fun e => by rw [e] at hvi; exact absurd hvi (by decide)
        simp; exact ⟨fun e => m2 e.symm, fun e => m1 e.symm⟩
      rw [e]
      exact hQ
    · refine wloc_of rfl ?_
      have := hQ
      rw [show ((p + (i + 1) : Nat) : Int) = ((p + i : Nat) : Int) + 1 by (first | lia | omega)] at this
      exact this
    · refine wloc_of rfl ?_
      refine wloc_of rfl ?_
      refine ⟨hL, ?_⟩
      have hd : l.drop (p + (T.wr t).length) = post := drop_more h rfl
      cases post with
      | nil =>
        have hle : l.length ≤ p + (T.wr t).length := List.drop_eq_nil_iff.mp hd
        refine fcmp_of (r := fun a b => decide (a < b)) (EV := False) (b := false) (decide_eq_false (by (first | lia | omega))) ?_
        refine kif_f ?_
        exact hQ
      | cons z post =>
        have hlt : p + (T.wr t).length < l.length := by
          have := congrArg List.length hd
          rw [List.length_drop, List.length_cons] at this; (first | lia | omega)
        refine fcmp_of (r := fun a b => decide (a < b)) (EV := False) (b := true) (decide_eq_true (by (first | lia | omega))) ?_
        refine kif_t ?_
        refine wslc_of rfl rfl hL hd ?_
        first | refine ⟨Nat.le_of_ble_eq_true rfl, [[32], [41]], rfl, ?_⟩ | refine ⟨by simp, [[32], [41]], rfl, ?_⟩
        have e : (!([[32], [41]] : List (List UInt8)).any (· == [z])) = false := by
          rcases hpost z rfl with rfl | rfl <;> decide
        rw [e]
        exact hQ
    · refine wloc_of rfl ?_
      refine wloc_of rfl ?_
      refine wloc_of rfl ?_
      refine ⟨l, _, _, rfl, rfl, rfl, by (first | lia | omega), by (first | lia | omega), hL, ?_⟩
      rw [sliceN h rfl]
      refine ⟨trivial, ?_⟩
      refine ⟨rfl, fun c hc => by have := isVal_lt (hs c hc); (first | lia | omega), by (first | lia | omega), hne, ?_⟩
      refine wloc_of rfl ?_
      cases t with
      | str _ => cases hpl
      | list _ => cases hpl
      | nil =>
        refine feqs_of (EV := False) (b := true) (by decide) ?_
        refine kif_t ?_
        first | refine ⟨Nat.le_of_ble_eq_true rfl, ?_⟩ | refine ⟨by simp, ?_⟩
        refine wloc_of rfl ?_
        first | exact ⟨Nat.le_of_ble_eq_true rfl, ret0 ⟨rfl, rfl⟩⟩ | exact ⟨by simp, ret0 ⟨rfl, rfl⟩⟩
      | num n =>
        have hn : n < 10 ^ 19 := hf
        have et : textOf (T.wr (.num n)) = figs n := textOf_textB fun c hc => by have := figs_dig hc; (first | lia | omega)
        rw [et]
        refine feqs_of (EV := False) (b := false) (beq_eq_false_iff_ne.mpr fun e => ?_) ?_
        · have : 78 ∈ figs n := by rw [e]; decide
          have := figs_dig this; (first | lia | omega)
        refine kif_f ?_
        refine wloc_of rfl ?_
        refine ⟨trivial, ?_⟩
        refine wisd_of (b := true) ((isdig_eq (fun c hc => by have := figs_dig hc; (first | lia | omega)) (figs_ne n)).trans (List.all_eq_true.mpr fun c hc => (isFig_iff c).mpr (textB_dig (fun c hc => figs_dig hc) c hc))) ?_
        refine bif_t ?_
        refine wloc_of rfl ?_
        refine ⟨(n : Int), intText_figs hn, by have := figs_small hn; (first | lia | omega), ?_⟩
        first | refine ⟨Nat.le_of_ble_eq_true rfl, ?_⟩ | refine ⟨by simp, ?_⟩
        refine wloc_of rfl ?_
        first | exact ⟨Nat.le_of_ble_eq_true rfl, ret0 ⟨rfl, rfl⟩⟩ | exact ⟨by simp, ret0 ⟨rfl, rfl⟩⟩
      | atom a =>
        have ha : atomOK a := hf
        have et : textOf (T.wr (.atom a)) = a := textOf_textB fun c hc => by have := (ha.2.2.1 c hc).1; (first | lia | omega)
        rw [et]
        refine feqs_of (EV := False) (b := false) (beq_eq_false_iff_ne.mpr fun e => ?_) ?_
        · have := ha.2.2.2.2
          rw [e] at this; exact this (by decide)
        refine kif_f ?_
        refine wloc_of rfl ?_
        refine ⟨trivial, ?_⟩
        refine wisd_of (b := false) ((isdig_eq (fun c hc => (ha.2.2.1 c hc).1) ha.1).trans ha.2.2.2.1) ?_
        refine bif_f ?_
        refine wloc_of rfl ?_
        first | refine ⟨Nat.le_of_ble_eq_true rfl, ?_⟩ | refine ⟨by simp, ?_⟩
        refine wloc_of rfl ?_
        first | exact ⟨Nat.le_of_ble_eq_true rfl, ret0 ⟨rfl, rfl⟩⟩ | exact ⟨by simp, ret0 ⟨rfl, rfl⟩⟩
  cases t with
  | nil => exact absurd rfl hpl
  | num _ => exact absurd rfl hpl
  | atom _ => exact absurd rfl hpl
  | str s =>
    by_cases hq : quotableB s = true
    · have hqq : okQ s := by
        have h1 : quotableB s = true := hq
        unfold quotableB at h1
        simp only [Bool.and_eq_true, List.all_eq_true, decide_eq_true_eq] at h1
        intro c hc
        have := h1.2 c hc
        refine ⟨by (first | lia | omega), by (first | lia | omega), ?_, ?_⟩ <;> · rintro rfl; exact absurd this.1 (by decide)
      have hw : T.wr (.str s) = quotedB s := by rw [T.wr, strB, if_pos hq]
      rw [hw] at h hlen
      have hql : (quotedB s).length = (qBody s).length + 2 := by simp [quotedB]
      have h0 : l.drop p = 34 :: (qBody s ++ 34 :: post) := by rw [h]; simp [quotedB]
      have h1 := drop_one h0
      have hd : ∀ i, i ≤ s.length → l.drop (p + 1 + (qBody (s.take i)).length) = qBody (s.drop i) ++ 34 :: post := fun i hi => by
        refine drop_more (x := qBody (s.take i)) ?_ rfl
        rw [h1, ← List.append_assoc, ← qBody_append, List.take_append_drop]
      refine wslc_of rfl rfl hL h0 ?_
      refine feqb_of (EV := False) (b := false) (by decide) ?_
      refine kif_f ?_
      refine wslc_of rfl rfl hL h0 ?_
      refine feqb_of (EV := False) (b := false) (by decide) ?_
      refine kif_f ?_
      refine wslc_of rfl rfl hL h0 ?_
      refine feqb_of (EV := False) (b := true) rfl ?_
      refine kif_t ?_
      first | refine ⟨Nat.le_of_ble_eq_true rfl, fun f => ?_⟩ | refine ⟨by simp, fun f => ?_⟩
      refine wloc_of rfl ?_
      refine ⟨s.length + 1, ?_⟩
      have e1 : ((p : Int) + 1) = ((p + 1 + (qBody (s.take 0)).length : Nat) : Int) := by simp [qBody]
      refine wWhile_up (fun i => ⟨[some (.bytes l), some (.int ((p + 1 + (qBody (s.take i)).length : Nat) : Int)), some (.raw (.ref f)), none, none, none, none, none, none, none, none, none], [(f, .list ((s.take i).map fun c => V.int (c.toNat : Int)))]⟩) s.length (fun i hi Q hQ => ?_) (fun i hi Q hQ => ?_) (fun Q hQ => ?_) ?_ _ 0 (by (first | lia | omega))
      · have hdi := hd i (by (first | lia | omega))
        have hdr : s.drop i = s[i] :: s.drop (i + 1) := List.drop_eq_getElem_cons hi
        rw [hdr, qBody] at hdi
        split at hdi
        · refine wslc_of (c := 92) (r := s[i] :: (qBody (s.drop (i+1)) ++ 34 :: post)) rfl rfl hL (by rw [hdi]; simp) ?_
          exact fneb_of (EV := False) (b := true) (by decide) hQ
        · rename_i hn
          refine wslc_of (c := s[i]) (r := (qBody (s.drop (i+1)) ++ 34 :: post)) rfl rfl hL (by rw [hdi]; simp) ?_
          exact fneb_of (EV := False) (b := true) (by simp at hn; simp; exact hn.1) hQ
      · have hdi := hd i (by (first | lia | omega))
        have hdr : s.drop i = s[i] :: s.drop (i + 1) := List.drop_eq_getElem_cons hi
        have htk : s.take (i + 1) = s.take i ++ [s[i]] := by rw [List.take_add_one, List.getElem?_eq_getElem hi]; rfl
        rw [hdr, qBody] at hdi
        have htl : (s.take i).length ≤ 1000000 := by
          have h74 : s.length ≤ 74 := hf
          rw [List.length_take]; (first | lia | omega)
        by_cases hsp' : s[i] = 34 ∨ s[i] = 92
        · have hq0 : l.drop (p + 1 + (qBody (s.take i)).length) = 92 :: s[i] :: (qBody (s.drop (i + 1)) ++ 34 :: post) := by
            rw [hdi, if_pos (by rcases hsp' with e | e <;> simp [e])]; simp
          have hq1 := drop_one hq0
          have he : p + 1 + (qBody (s.take i)).length + 1 + 1 = p + 1 + (qBody (s.take (i + 1))).length := by
            rw [htk, qBody_append, qBody, if_pos (by rcases hsp' with e | e <;> simp [e])]; simp [qBody]; (first | lia | omega)
          generalize p + 1 + (qBody (s.take i)).length = q0 at hq0 hq1 he ⊢
          refine wslc_of rfl rfl hL hq0 ?_
          refine feqb_of (EV := False) (b := true) rfl ?_
          refine kif_t ?_
          refine wloc_of rfl ?_
          refine fadd_i ?_
          rw [show ((q0 : Nat) : Int) + 1 = ((q0 + 1 : Nat) : Int) by (first | lia | omega)]
          have hg : l[q0 + 1]? = some s[i] := by
           have := List.getElem?_drop (xs := l) (i := q0 + 1) (j := 0)
           rw [hq1] at this; simpa using this.symm
          refine wloc_of rfl ?_
          refine ⟨⟨_, List.mem_cons_self⟩, ?_⟩
          refine wloc_of rfl ?_
          refine wloc_of rfl ?_
          refine ⟨s[i], by (first | lia | omega), by rw [Int.toNat_natCast]; exact hg, hL, ?_⟩
          refine ⟨[], [], _, rfl, by rw [List.length_map]; (first | lia | omega), ?_⟩
          refine wloc_of rfl ?_
          refine fadd_i ?_
          have := hQ
          rw [← he, htk, List.map_append] at this
          exact this
        · have hn : (s[i] == 34 || s[i] == 92) = false := by simpa using hsp'
          have hq1 : l.drop (p + 1 + (qBody (s.take i)).length) = s[i] :: (qBody (s.drop (i + 1)) ++ 34 :: post) := by
            rw [hdi, if_neg (by rw [hn]; decide)]; simp
          have he : p + 1 + (qBody (s.take i)).length + 1 = p + 1 + (qBody (s.take (i + 1))).length := by
            rw [htk, qBody_append, qBody, if_neg (by rw [hn]; decide)]; simp [qBody]; (first | lia | omega)
          generalize p + 1 + (qBody (s.take i)).length = q0 at hq1 he ⊢
          refine wslc_of rfl rfl hL hq1 ?_
          refine feqb_of (EV := False) (b := false) (beq_eq_false_iff_ne.mpr fun e => hsp' (.inr (by simpa using e))) ?_
          refine kif_f ?_
          have hg : l[q0]? = some s[i] := by
           have := List.getElem?_drop (xs := l) (i := q0) (j := 0)
           rw [hq1] at this; simpa using this.symm
          refine wloc_of rfl ?_
          refine ⟨⟨_, List.mem_cons_self⟩, ?_⟩
          refine wloc_of rfl ?_
          refine wloc_of rfl ?_
          refine ⟨s[i], by (first | lia | omega), by rw [Int.toNat_natCast]; exact hg, hL, ?_⟩
          refine ⟨[], [], _, rfl, by rw [List.length_map]; (first | lia | omega), ?_⟩
          refine wloc_of rfl ?_
          refine fadd_i ?_
          have := hQ
          rw [← he, htk, List.map_append] at this
          exact this
      · have hdi := hd s.length (Nat.le_refl _)
        rw [List.drop_length] at hdi
        refine wslc_of rfl rfl hL hdi ?_
        exact fneb_of (EV := False) (b := false) (by decide) hQ
      · refine wloc_of rfl ?_
        have h74 : s.length ≤ 74 := hf
        rw [List.take_length]
        refine ⟨s.map fun c => (c.toNat : Int), by simp, fun n hn => ?_, by simp; (first | lia | omega), ?_⟩
        · obtain ⟨c, _, rfl⟩ := List.mem_map.mp hn
          have := c.toNat_lt
          exact ⟨by (first | lia | omega), by (first | lia | omega)⟩
        have e2 : bytesN (s.map fun c => (c.toNat : Int)) = s := by
          unfold bytesN; rw [List.map_map]
          conv => rhs; rw [← List.map_id s]
          exact List.map_congr_left fun c _ => by simp
        rw [e2]
        first | refine ⟨Nat.le_of_ble_eq_true rfl, ?_⟩ | refine ⟨by simp, ?_⟩
        refine wloc_of rfl ?_
        first | refine ⟨Nat.le_of_ble_eq_true rfl, ret0 ⟨?_, rfl⟩⟩ | refine ⟨by simp, ret0 ⟨?_, rfl⟩⟩
        show V.tup [V.tup [V.str sStr, V.bytes s], V.int (((p + 1 + (qBody s).length : Nat) : Int) + 1)] = V.tup [V.tup [V.str sStr, V.bytes s], V.int ((p + (T.wr (.str s)).length : Nat) : Int)]
        rw [hw, hql, show (((p + 1 + (qBody s).length : Nat) : Int) + 1) = ((p + ((qBody s).length + 2) : Nat) : Int) by (first | lia | omega)]
    · have h74 : s.length ≤ 74 := hf
      have hw : T.wr (.str s) = litB s := by rw [T.wr, strB, if_neg hq]
      rw [hw] at h hlen
      have h0 : l.drop p = 123 :: (textB (figs s.length) ++ (125 :: 13 :: 10 :: (s ++ post))) := by rw [h]; simp [litB]
      have h1 := drop_one h0
      have tl : (textB (figs s.length)).length = (figs s.length).length := by simp [textB]
      have hfl := figs_small (n := s.length) (by (first | lia | omega))
      have hll : (litB s).length = (figs s.length).length + s.length + 4 := by simp [litB, textB]; (first | lia | omega)
      have h2 : l.drop (p + 1 + (figs s.length).length) = 125 :: 13 :: 10 :: (s ++ post) := drop_more h1 tl
      have h3 : l.drop (p + 1 + (figs s.length).length + 3) = s ++ post := drop_more (x := [125, 13, 10]) h2 rfl
      refine wslc_of rfl rfl hL h0 ?_
      refine feqb_of (EV := False) (b := false) (by decide) ?_
      refine kif_f ?_
      refine wslc_of rfl rfl hL h0 ?_
      refine feqb_of (EV := False) (b := true) rfl ?_
      refine kif_t ?_
      refine wloc_of rfl ?_
      refine ⟨trivial, ?_⟩
      refine wloc_of rfl ?_
      refine ⟨p + 1 + (figs s.length).length, by (first | lia | omega), by (first | lia | omega), ?_, fun m hm1 hm2 => ?_, ?_⟩
      · have := List.getElem?_drop (xs := l) (i := p + 1 + (figs s.length).length) (j := 0)
        rw [h2] at this; simpa using this.symm
      · intro hm
        have hm1' : p ≤ m := by (first | lia | omega)
        have h5 := List.getElem?_drop (xs := l) (i := p) (j := m - p)
        rw [show p + (m - p) = m by (first | lia | omega), hm, h0] at h5
        by_cases hmp : m = p
        · subst hmp; simp at h5
        · obtain ⟨j, hj⟩ : ∃ j, m - p = j + 1 := ⟨m - p - 1, by (first | lia | omega)⟩
          rw [hj, List.getElem?_cons_succ, List.getElem?_append_left (by rw [tl]; (first | lia | omega))] at h5
          have := textB_dig (fun c hc => figs_dig hc) _ (List.mem_of_getElem? h5)
          revert this; decide
      refine wloc_of rfl ?_
      refine wloc_of rfl ?_
      refine fadd_i ?_
      refine wloc_of rfl ?_
      refine ⟨l, _, _, rfl, rfl, rfl, by (first | lia | omega), by (first | lia | omega), hL, ?_⟩
      rw [show ((p : Int) + 1) = ((p + 1 : Nat) : Int) by (first | lia | omega), sliceN h1 (by rw [tl])]
      refine ⟨trivial, ?_⟩
      refine ⟨rfl, fun c hc => by have := textB_dig (fun c hc => figs_dig hc) c hc; (first | lia | omega), by (first | lia | omega), by have := figs_ne s.length; simpa [textB] using this, ?_⟩
      rw [textOf_textB fun c hc => by have := figs_dig hc; (first | lia | omega)]
      refine ⟨(s.length : Int), intText_figs (by (first | lia | omega)), by (first | lia | omega), ?_⟩
      refine wloc_of rfl ?_
      refine wloc_of rfl ?_
      refine fadd_i ?_
      refine wloc_of rfl ?_
      refine fadd_i ?_
      refine wloc_of rfl ?_
      refine ⟨l, _, _, rfl, rfl, rfl, by (first | lia | omega), by (first | lia | omega), hL, ?_⟩
      rw [show (((p + 1 + (figs s.length).length : Nat) : Int) + 3) = ((p + 1 + (figs s.length).length + 3 : Nat) : Int) by (first | lia | omega),
        show (((p + 1 + (figs s.length).length + 3 : Nat) : Int) + (s.length : Int)) = ((p + 1 + (figs s.length).length + 3 + s.length : Nat) : Int) by (first | lia | omega), sliceN h3 rfl]
      first | refine ⟨Nat.le_of_ble_eq_true rfl, ?_⟩ | refine ⟨by simp, ?_⟩
      refine wloc_of rfl ?_
      refine fadd_i ?_
      refine wloc_of rfl ?_
      first | refine ⟨Nat.le_of_ble_eq_true rfl, ret0 ⟨?_, rfl⟩⟩ | refine ⟨by simp, ret0 ⟨?_, rfl⟩⟩
      show V.tup [V.tup [V.str sStr, V.bytes s], V.int (((p + 1 + (figs s.length).length : Nat) : Int) + 3 + (s.length : Int))] = V.tup [V.tup [V.str sStr, V.bytes s], V.int ((p + (T.wr (.str s)).length : Nat) : Int)]
      rw [hw, hll, show ((((p + 1 + (figs s.length).length : Nat) : Int) + 3) + (s.length : Int)) = ((p + ((figs s.length).length + s.length + 4) : Nat) : Int) by (first | lia | omega)]

  | list ts =>
    have h3 : ts.length ≤ 3 := hf.1
    have hw : T.wr (.list ts) = 40 :: (joinB [32] (T.wrs ts) ++ [41]) := rfl
    have h0 : l.drop p = 40 :: (joinB [32] (T.wrs ts) ++ 41 :: post) := by rw [h, hw]; simp
    have h1 := drop_one h0
    refine wslc_of rfl rfl hL h0 ?_
    refine feqb_of (EV := False) (b := true) rfl ?_
    refine kif_t ?_
    first | refine ⟨Nat.le_of_ble_eq_true rfl, fun f => ?_⟩ | refine ⟨by simp, fun f => ?_⟩
    refine wloc_of rfl ?_
    refine ⟨ts.length + 1, ?_⟩
    refine wWhile_inv (fun i σ => ∃ (done todo : List T) (q : Nat) (z : Option V), ts = done ++ todo ∧ done.length = i ∧ l.drop q = joinB [32] (T.wrs todo) ++ 41 :: post ∧ q + (joinB [32] (T.wrs todo)).length = p + 1 + (joinB [32] (T.wrs ts)).length ∧
        σ = ⟨[some (.bytes l), some (.int (q : Int)), some (.raw (.ref f)), z, none, none, none, none, none, none, none, none], [(f, .list (done.map T.told))]⟩)
      (fun σ => ∃ z : Option V, σ = ⟨[some (.bytes l), some (.int ((p + 1 + (joinB [32] (T.wrs ts)).length : Nat) : Int)), some (.raw (.ref f)), z, none, none, none, none, none, none, none, none], [(f, .list (ts.map T.told))]⟩) ts.length (fun i σ Q R hi hI hQ => ?_) (fun σ Q R hI hR => ?_) (fun σ hJ => ?_) _ 0 _ (by (first | lia | omega)) ⟨[], ts, p + 1, none, rfl, rfl, h1, rfl, rfl⟩
    · obtain ⟨done, todo, q, z, hts, hdl, hdq, hq, rfl⟩ := hI
      cases todo with
      | nil => rw [hts, List.append_nil] at hi; (first | lia | omega)
      | cons u todo =>
        have hu : u ∈ ts := by rw [hts]; simp
        obtain ⟨c, r, hsc, hc1, hc2⟩ := (T.wr_sp u (T.fines_mem hf.2 hu)).head
        have hj : joinB [32] (T.wrs (u :: todo)) = u.wr ++ (T.wrs todo).flatMap fun z => [32] ++ z := rfl
        rw [hj] at hdq hq
        rw [List.length_append] at hq
        have hlt : done.length < ts.length := by (first | lia | omega)
        refine wslc_of (c := c) (r := r ++ ((T.wrs todo).flatMap fun z => [32] ++ z) ++ 41 :: post) rfl rfl hL (by rw [hdq, hsc]; simp) ?_
        refine fneb_of (EV := False) (b := true) (by simp; exact hc1) ?_
        refine kif_t ?_
        refine wloc_of rfl ?_
        refine wloc_of rfl ?_
        have hqc : l.drop q = u.wr ++ (((T.wrs todo).flatMap fun z => [32] ++ z) ++ 41 :: post) := by rw [hdq]; simp
        have hq2 := drop_more hqc rfl
        refine wct0 (ih ts rfl u hu q _ (fun c hc => ?_) hqc) ?_
        · cases todo with
          | nil => simp [T.wrs] at hc; exact .inr hc.symm
          | cons v r => simp [T.wrs] at hc; exact .inl hc.symm
        refine ⟨_, _, rfl, ?_⟩
        refine wloc_of rfl ?_
        refine ⟨⟨_, List.mem_cons_self⟩, ?_⟩
        refine wloc_of rfl ?_
        refine ⟨[], [], _, rfl, by rw [List.length_map]; (first | lia | omega), ?_⟩
        have hap : done.map T.told ++ [u.told] = (done ++ [u]).map T.told := by simp
        cases todo with
        | nil =>
          have hq3 : l.drop (q + u.wr.length) = 41 :: post := hq2
          refine wslc_of rfl rfl hL hq3 ?_
          refine feqb_of (EV := False) (b := false) (by decide) ?_
          refine kif_f ?_
          refine hQ _ ⟨done ++ [u], [], q + u.wr.length, some u.told, by simp [hts], by rw [List.length_append, hdl]; rfl, hq3, ?_, ?_⟩
          · simpa [T.wrs, joinB] using hq
          · rw [← hap]; rfl
        | cons v todo =>
          have hq3 : l.drop (q + u.wr.length) = 32 :: (joinB [32] (T.wrs (v :: todo)) ++ 41 :: post) := by rw [hq2]; simp [T.wrs, joinB]
          refine wslc_of rfl rfl hL hq3 ?_
          refine feqb_of (EV := False) (b := true) rfl ?_
          refine kif_t ?_
          refine wloc_of rfl ?_
          refine hQ _ ⟨done ++ [u], v :: todo, q + u.wr.length + 1, some u.told, by simp [hts], by rw [List.length_append, hdl]; rfl, drop_one hq3, ?_, ?_⟩
          · rw [← hq]; simp [T.wrs, joinB]; (first | lia | omega)
          · rw [← hap]; rfl
    · obtain ⟨done, todo, q, z, hts, hdl, hdq, hq, rfl⟩ := hI
      have : todo = [] := by
        have := congrArg List.length hts
        rw [List.length_append] at this
        exact List.length_eq_zero_iff.mp (by (first | lia | omega))
      subst this
      rw [List.append_nil] at hts
      subst hts
      have hdq' : l.drop q = 41 :: post := hdq
      have hq' : q = p + 1 + (joinB [32] (T.wrs ts)).length := hq
      refine wslc_of rfl rfl hL hdq' ?_
      refine fneb_of (EV := False) (b := false) (by decide) ?_
      refine kif_f ?_
      exact hR _ ⟨z, by rw [← hq']⟩
    · obtain ⟨z, rfl⟩ := hJ
      refine wloc_of rfl ?_
      refine ⟨_, List.mem_cons_self, by rw [List.length_map]; (first | lia | omega), ?_⟩
      first | refine ⟨Nat.le_of_ble_eq_true rfl, ?_⟩ | refine ⟨by simp, ?_⟩
      refine wloc_of rfl ?_
      first | refine ⟨Nat.le_of_ble_eq_true rfl, ret0 ⟨?_, rfl⟩⟩ | refine ⟨by simp, ret0 ⟨?_, rfl⟩⟩
      show V.tup [V.tup [V.str sList, V.tup (ts.map T.told)], V.int (((p + 1 + (joinB [32] (T.wrs ts)).length : Nat) : Int) + 1)] = V.tup [V.tup [V.str sList, V.tup (T.tolds ts)], V.int ((p + (T.wr (.list ts)).length : Nat) : Int)]
      rw [T.tolds_map, hw, show (((p + 1 + (joinB [32] (T.wrs ts)).length : Nat) : Int) + 1) = ((p + (40 :: (joinB [32] (T.wrs ts) ++ [41])).length : Nat) : Int) by simp; (first | lia | omega)]
end
theorem ct_law_read {X : Cx} {k : Nat} (t : T) (hf : t.fine) (hz : t.sz ≤ 1000) (l : List UInt8) (p : Nat) (post : List UInt8) (hl : l.length ≤ 1000000) (hpost : ∀ c, post.head? = some c → c = 32 ∨ c = 41) (h : l.drop p = t.wr ++ post) :
    CT X (k + 1 + t.dep) (.ref 454) [.bytes l, .int (p : Int)] [] (fun v O => v = .tup [t.told, .int ((p + t.wr.length : Nat) : Int)] ∧ O = []) False := by
  induction t using T.ind generalizing p post with
  | h t ih =>
    refine (law_read_def (k := k + t.dep) t hf hz l p post hl hpost h fun ts e u hu q post' hp' hq => ?_).up (by (first | lia | omega))
    have h1 := T.deps_mem hu
    have h2 : t.dep = T.deps ts + 1 := by rw [e, T.dep]
    have h3 : T.fines ts := by rw [e, T.fine] at hf; exact hf.2
    have h4 : u.sz ≤ 1000 := by rw [e, T.sz] at hz; have := T.szs_mem hu; (first | lia | omega)
    exact (ih ts e u hu (T.fines_mem h3 hu) h4 q post' hp' hq).up (by (first | lia | omega))
theorem ct_law_spelled {X : Cx} {k : Nat} (t : T) (hf : t.fine) (hz : t.sz ≤ 1000) (b : Addr) (N : Int) :
    CT X (k + 2 + t.dep) (.ref 447) [t.told, .raw (.ref b)] [(b, .list [.int N])] (fun v O => ∃ (s : List UInt8) (N' : Int), v = .bytes s ∧ Sp t s ∧ O = [(b, .list [.int N'])]) False := by
  induction t using T.ind generalizing N with
  | h t ih =>
    refine (law_spelled_def (k := k + t.dep) t hf hz b N fun ts e u hu N => ?_).up (by (first | lia | omega))
    have h1 := T.deps_mem hu
    have h2 : t.dep = T.deps ts + 1 := by rw [e, T.dep]
    have h3 : T.fines ts := by rw [e, T.fine] at hf; exact hf.2
    have h4 : u.sz ≤ 1000 := by rw [e, T.sz] at hz; have := T.szs_mem hu; (first | lia | omega)
    exact (ih ts e u hu (T.fines_mem h3 hu) h4 N).up (by (first | lia | omega))
end Mine
end

section
open PySem PySem.W PyProof.Rows PySem.Calls
namespace Mine

theorem wctB {X : Cx} {k : Nat} {b : Addr} {N : Int} {f : Value} {vs : List V} {P : V → List (Addr × MO) → Prop} {post : List (Addr × MO)} {loc : List (Option V)} {QV : V → St → Prop} {EV : Prop} (hct : CT X k f vs [(b, .list [.int N])] P False) (h : ∀ v O', P v O' → QV v ⟨loc, O' ++ post⟩) : wCt X k f vs QV EV ⟨loc, (b, .list [.int N]) :: post⟩ :=
  ⟨[], [(b, .list [.int N])], post, rfl, hct.mono (fun v O' z => by simpa using h v O' z) False.elim⟩
theorem wtakeB {X : Cx} {k : Nat} {b : Addr} {N m : Int} {post : List (Addr × MO)} {loc : List (Option V)} {QV : V → St → Prop} {EV : Prop} (h0 : 0 < m) (h1 : m ≤ 10 ^ 19) (h : ∀ r N', 0 ≤ r → r < m → QV (.int r) ⟨loc, (b, .list [.int N']) :: post⟩) : wCt X (k + 1) (.ref 410) [.raw (.ref b), .int m] QV EV ⟨loc, (b, .list [.int N]) :: post⟩ :=
  wctB (ct_take (k := k) b N m h0 h1) fun v O' ⟨r, N', e1, e2, e3, e4⟩ => by subst e1 e4; exact h r N' e2 e3
theorem T.told_tup (t : T) : ∃ vs, t.told = .tup vs := by cases t <;> exact ⟨_, rfl⟩
theorem fNeT_self {v : V} (h : ∃ vs, v = .tup vs) (hd : deepV 300 v) {QV : V → St → Prop} {EV : Prop} {σ : St} (q : QV (.bool false) σ) : fNeT v v QV EV σ := by
  obtain ⟨vs, rfl⟩ := h
  exact ⟨rfl, hd, q⟩

section
variable {X : Cx} {k : Nat}
set_option maxHeartbeats 16000000 in
theorem ct_law (hb : X.b = true) (a : Addr) (vals : Array Value) (ns : List Int) (hl : X.g0.IsList a vals) (hi : IntsAre vals.toList ns) (hz : vals.size ≤ 16777216) (hmod : ModAt X.g0) :
    CT X (k + 61) (.ref 468) [.raw (.ref a)] [(463, .tab #[])] (fun v O => v = .bool true ∧ ∃ ps, O = [(463, .tab ps)]) False := by
  refine ct_def (dargs := []) (dvals := []) [Str.ofString "script"] [0] (fun P => rfl) (fun P => by kernel_rfl) (fun s P vals hK hl => ?bind) .nil (by decide +kernel) (by decide +kernel) rfl ?_
  case bind => obtain ⟨a, rfl⟩ := len1 hl; exact BindsTo.of_eq rfl
  refine ⟨_, fun L cells => (ts_cons (ts_assign (te_callt (te_glob 9 rfl (fun P => by kernel_rfl) (.raw (.ref 417))) (cw_keep fun P => by kernel_rfl) (ta_cons (te_loc 0 rfl) ta_nil)) (st_loc 1 rfl)) (ts_cons (ts_assign (te_callt (te_glob 10 rfl (fun P => by kernel_rfl) (.raw (.ref 432))) (cw_keep fun P => by kernel_rfl) (ta_cons (te_loc 1 rfl) (ta_cons (te_int) ta_nil))) (st_cell 8 rfl)) (ts_cons (ts_assign (te_callt (te_glob 11 rfl (fun P => by kernel_rfl) (.raw (.ref 437))) (cw_keep fun P => by kernel_rfl) (ta_cons (te_cell 8 rfl) ta_nil)) (st_loc 2 rfl)) (ts_cons (ts_for (te_callb (te_bltn 12 rfl (fun P => by kernel_rfl) rfl (by decide)) (ta_cons (te_sub (te_list (ta_cons (te_int) (ta_cons (te_int) (ta_cons (te_int) (ta_cons (te_int) (ta_cons (te_int) (ta_cons (te_int) (ta_cons (te_int) (ta_cons (te_int) ta_nil))))))))) (te_callt (te_glob 13 rfl (fun P => by kernel_rfl) (.raw (.ref 410))) (cw_keep fun P => by kernel_rfl) (ta_cons (te_loc 1 rfl) (ta_cons (te_int) ta_nil)))) ta_nil) tf_range) (st_loc 3 rfl) (ts_cons (ts_assign (te_list (ta_cons (te_cell 8 rfl) ta_nil)) (st_cell 8 rfl)) (ts_cons (ts_assign (te_tuple (ta_cons (te_str (l := sList) (by decide +kernel)) (ta_cons (te_tuple (ta_cons (te_loc 2 rfl) ta_nil)) ta_nil))) (st_loc 2 rfl)) ts_nil))) (ts_cons (ts_assign (te_callt (te_glob 14 rfl (fun P => by kernel_rfl) (.raw (.ref 447))) (cw_keep fun P => by kernel_rfl) (ta_cons (te_loc 2 rfl) (ta_cons (te_loc 1 rfl) ta_nil))) (st_cell 7 rfl)) (ts_cons (ts_if (tt_cmp (te_callt (te_glob 15 rfl (fun P => by kernel_rfl) (.raw (.ref 442))) (cw_keep fun P => by kernel_rfl) (ta_cons (te_loc 2 rfl) ta_nil)) (te_int) tb_gt) (ts_cons (ts_ret (te_and2 (te_refuse 8 ((Str.ofString "law" ++ ".<locals>.") ++ "<lambda>") (te_glob 16 rfl (fun P => by kernel_rfl) (.raw (.ref 461))) rfl rfl rfl) (te_refuse 7 ((Str.ofString "law" ++ ".<locals>.") ++ "<lambda>") (te_glob 16 rfl (fun P => by kernel_rfl) (.raw (.ref 461))) rfl rfl rfl))) ts_nil) ts_nil) (ts_cons (ts_assign (te_callt (te_glob 17 rfl (fun P => by kernel_rfl) (.raw (.ref 398))) (cw_keep fun P => by kernel_rfl) (ta_cons (te_cell 8 rfl) ta_nil)) (st_loc 4 rfl)) (ts_cons (ts_if (tt_bool (tts_or (tt_cmp (te_callt (te_glob 18 rfl (fun P => by kernel_rfl) (.raw (.ref 454))) (cw_keep fun P => by kernel_rfl) (ta_cons (te_loc 4 rfl) (ta_cons (te_int) ta_nil))) (te_tuple (ta_cons (te_loc 2 rfl) (ta_cons (te_callb (te_bltn 19 rfl (fun P => by kernel_rfl) rfl (by decide)) (ta_cons (te_loc 4 rfl) ta_nil) tf_len) ta_nil))) (tb_net (by (first | lia | omega)))) (tts_or (tt_cmp (te_callt (te_glob 20 rfl (fun P => by kernel_rfl) (.raw (.ref 133))) (cw_keep fun P => by kernel_rfl) (ta_cons (te_cell 8 rfl) ta_nil)) (te_loc 2 rfl) (tb_net (by (first | lia | omega)))) (tts_or (tt_cmp (te_callt (te_glob 11 rfl (fun P => by kernel_rfl) (.raw (.ref 437))) (cw_keep fun P => by kernel_rfl) (ta_cons (te_cell 8 rfl) ta_nil)) (te_loc 2 rfl) (tb_net (by (first | lia | omega)))) tts_or_nil)))) (ts_cons (ts_ret (te_bool)) ts_nil) ts_nil) (ts_cons (ts_for (te_tuple (ta_cons (te_loc 4 rfl) (ta_cons (te_cell 7 rfl) ta_nil))) (st_loc 5 rfl) (ts_cons (ts_assign (te_callt (te_glob 21 rfl (fun P => by kernel_rfl) (.raw (.ref 360))) (cw_keep fun P => by kernel_rfl) (ta_cons (te_bin (te_bin (te_bytes) (te_loc 5 rfl) tb_add) (te_bytes) tb_add) (ta_cons (te_int) ta_nil))) (st_loc 6 rfl)) (ts_cons (ts_if (tt_bool (tts_or (tt_cmp (te_callt (te_glob 20 rfl (fun P => by kernel_rfl) (.raw (.ref 133))) (cw_keep fun P => by kernel_rfl) (ta_cons (te_methi 360 357 (te_loc 6 rfl) meth_value (cw_keep fun P => by kernel_rfl) ta_nil) ta_nil)) (te_loc 2 rfl) (tb_net (by (first | lia | omega)))) (tts_or (tt_cmp (te_attr 360 (te_loc 6 rfl) attr_at) (te_bin (te_int) (te_callb (te_bltn 19 rfl (fun P => by kernel_rfl) rfl (by decide)) (ta_cons (te_loc 5 rfl) ta_nil) tf_len) tb_add) tb_ne) tts_or_nil))) (ts_cons (ts_ret (te_bool)) ts_nil) ts_nil) ts_nil))) (ts_cons (ts_ret (te_cmp (te_callt (te_glob 22 rfl (fun P => by kernel_rfl) (.raw (.ref 403))) (cw_keep fun P => by kernel_rfl) (ta_cons (te_list (ta_cons (te_cell 8 rfl) (ta_cons (te_callt (te_glob 23 rfl (fun P => by kernel_rfl) (.raw (.ref 124))) (cw_keep fun P => by kernel_rfl) (ta_cons (te_str (l := [120]) (by decide +kernel)) ta_nil)) (ta_cons (te_cell 8 rfl) ta_nil)))) ta_nil)) (te_bin (te_bin (te_bin (te_loc 4 rfl) (te_bytes) tb_add) (te_loc 4 rfl) tb_add) (te_callb (te_bltn 24 rfl (fun P => by kernel_rfl) rfl (by decide)) (ta_cons (te_list (ta_cons (te_int) (ta_cons (te_int) ta_nil))) ta_nil) tf_bytes) tb_add) tb_eq)) ts_nil)))))))))), ?_⟩
  refine wloc_of rfl ?_
  refine wctF (k := k + 60) [] [] [(463, .tab #[])] (CT.up (ct_bag (k := k) a vals ns hl hi hz) (by (first | lia | omega))) False.elim fun v O' hv => ?_
  obtain ⟨b, N, rfl, rfl⟩ := hv
  refine wloc_of rfl ?_
  refine wctB (CT.up (ct_law_value (k := k) b 3 0 N rfl) (by (first | lia | omega))) fun v O' hv => ?_
  obtain ⟨t0, N1, rfl, hf0, hd0, hs0, rfl⟩ := hv
  have hs0' : t0.sz ≤ 22 := hs0
  have hok0 := T.OK_of t0 hf0 (by (first | lia | omega))
  refine wloc_of rfl ?_
  refine wct0 (CT.up (ct_law_told (k := k) t0 hok0) (by (first | lia | omega))) ?_
  first | refine ⟨Nat.le_of_ble_eq_true rfl, ?_⟩ | refine ⟨by simp, ?_⟩
  refine wloc_of rfl ?_
  refine wtakeB (k := k + 59) (by decide) (by decide) fun r N2 hr0 hr1 => ?_
  obtain ⟨c, hc, hc1⟩ : ∃ c : Nat, ([V.int 0, V.int 0, V.int 1, V.int 27, V.int 28, V.int 29, V.int 30, V.int 31] : List V)[r.toNat]? = some (.int (c : Int)) ∧ c ≤ 31 := by
    have : r = 0 ∨ r = 1 ∨ r = 2 ∨ r = 3 ∨ r = 4 ∨ r = 5 ∨ r = 6 ∨ r = 7 := by (first | lia | omega)
    rcases this with rfl | rfl | rfl | rfl | rfl | rfl | rfl | rfl
    · exact ⟨0, rfl, by decide⟩
    · exact ⟨0, rfl, by decide⟩
    · exact ⟨1, rfl, by decide⟩
    · exact ⟨27, rfl, by decide⟩
    · exact ⟨28, rfl, by decide⟩
    · exact ⟨29, rfl, by decide⟩
    · exact ⟨30, rfl, by decide⟩
    · exact ⟨31, rfl, by decide⟩
  refine ⟨.int (c : Int), hr0, by (first | lia | omega), hc, ?_⟩
  refine ⟨_, range_items (n := c) (by (first | lia | omega)), ?_⟩
  refine wFor_inv (fun r σ => ∃ (t : T) (z : Option V), t.fine ∧ t.dep + r.length ≤ 34 ∧ t.sz + r.length ≤ 53 ∧ σ = ⟨[some (.raw (.ref a)), some (.raw (.ref b)), some t.told, z, none, none, none, none, some t.toV, none, none, none, none, none, none, none, none, none, none, none, none, none, none, none, none], [(b, .list [.int N2]), (463, .tab #[])]⟩) (fun v r σ Q hI hQ => ?_) _ _ _ ⟨t0, none, hf0, by simp; (first | lia | omega), by simp; (first | lia | omega), rfl⟩ fun σ1 hI => ?_
  · obtain ⟨t, z, hf, hd, hs, rfl⟩ := hI
    simp only [List.length_cons] at hd hs
    refine wloc_of rfl ?_
    first | refine ⟨Nat.le_of_ble_eq_true rfl, ?_⟩ | refine ⟨by simp, ?_⟩
    refine wloc_of rfl ?_
    first | refine ⟨Nat.le_of_ble_eq_true rfl, by simp, ?_⟩ | refine ⟨by simp, by simp, ?_⟩
    refine hQ _ ⟨.list [t], some v, ⟨by simp, hf, trivial⟩, ?_, ?_, rfl⟩
    · show max t.dep 0 + 1 + r.length ≤ 34
      (first | lia | omega)
    · show t.sz + 0 + 1 + r.length ≤ 53
      (first | lia | omega)
  obtain ⟨t, z, hf, hd, hs, rfl⟩ := hI
  simp only [List.length_nil, Nat.add_zero] at hd hs
  have hok := T.OK_of t hf (by (first | lia | omega))
  have hspw := t.wr_sp hf
  have hlw := hspw.len hf
  have hlw' : t.wr.length ≤ 106000 := by (first | lia | omega)
  refine wloc_of rfl ?_
  refine wloc_of rfl ?_
  refine wctB (CT.up (ct_law_spelled (k := k) t hf (by (first | lia | omega)) b N2) (by (first | lia | omega))) fun v O' hv => ?_
  obtain ⟨fr, N3, rfl, hspf, rfl⟩ := hv
  have hlf := hspf.len hf
  have hlf' : fr.length ≤ 106000 := by (first | lia | omega)
  refine wloc_of rfl ?_
  refine wct0 (CT.up (ct_law_depth (k := k) t hf) (by (first | lia | omega))) ?_
  by_cases h30 : 30 < t.dep
  · refine fcmp_of (r := fun a b => decide (b < a)) (EV := False) (b := true) (decide_eq_true (by (first | lia | omega))) ?_
    refine kif_t ?_
    refine ⟨[(b, .list [.int N3])], [], #[], t.toV, rfl, trivial, rfl, hmod, rfl, fun g f ca c' oc val ctv pm h1 h2 h3 h4 h5 => ?_, fun c' => ?_⟩
    · exact (ct_refused (X := { X with g0 := g }) (k := k + 50) h1 (ct_lam (k := k + 49) h1 h2 (by decide +kernel) h3 h4 h5 (fun L => te_callt (te_glob 1 rfl (fun P => by kernel_rfl) (.raw (.ref 398))) (cw_keep fun P => by kernel_rfl) (ta_cons (te_free 0 rfl) ta_nil))
        (wloc_of rfl ⟨[], [], [], rfl, (CT.up (k := k + 5 + t.dep) (ct_write_fault (X := { X with g0 := g }) (k := k) hb t hok h30) (by (first | lia | omega))).mono (fun v O' h => h.elim) id⟩))).up (by (first | lia | omega))
    refine bif_t ?_
    refine ⟨[(b, .list [.int N3])], [], _, .bytes fr, rfl, trivial, rfl, hmod, rfl, fun g f ca c'' oc val ctv pm h1 h2 h3 h4 h5 => ?_, fun c'' => ?_⟩
    · exact (ct_refused (X := { X with g0 := g }) (k := k + 50) h1 (ct_lam (k := k + 49) h1 h2 (by decide +kernel) h3 h4 h5 (fun L => te_methi 360 357 (te_callt (te_glob 1 rfl (fun P => by kernel_rfl) (.raw (.ref 360))) (cw_keep fun P => by kernel_rfl) (ta_cons (te_free 0 rfl) ta_nil)) meth_value (cw_keep fun P => by kernel_rfl) ta_nil)
        (wloc_of rfl ⟨[], [], [], rfl, (CT.up (k := k + 2) (ct_Wire0 (X := { X with g0 := g }) (k := k) fr) (by (first | lia | omega))).mono (fun v O' hv => by
          obtain ⟨x, dx, rfl, rfl⟩ := hv
          refine ⟨⟨x, dx, _, rfl, List.mem_cons_self, rfl⟩, ⟨[], [(x, wireM dx fr 0)], [], rfl, (CT.up (k := k + 6 + t.dep) (ct_value0 (X := { X with g0 := g }) (k := k) hb t fr hspf x dx fr 0 [] (by (first | lia | omega)) (by simp) (by simp)) (by (first | lia | omega))).mono (fun v O' h => absurd h.1 (by (first | lia | omega))) fun _ => trivial⟩⟩) False.elim⟩))).up (by (first | lia | omega))
    exact ⟨_, [(463, .tab _)], .same (List.Sublist.cons _ (List.Sublist.refl _)), rfl, _, rfl⟩
  · refine fcmp_of (r := fun a b => decide (b < a)) (EV := False) (b := false) (decide_eq_false (by (first | lia | omega))) ?_
    refine kif_f ?_
    have h30' : t.dep ≤ 30 := by (first | lia | omega)
    have hdp := T.deep t 299 (by (first | lia | omega))
    have hdp' := T.deep t 300 (by (first | lia | omega))
    refine wloc_of rfl ?_
    refine wct0 (CT.up (ct_write0 (k := k) hb t hok h30') (by (first | lia | omega))) ?_
    refine wloc_of rfl ?_
    refine wct0 (CT.up (ct_law_read (k := k) t hf (by (first | lia | omega)) t.wr 0 [] (by (first | lia | omega)) (by simp) (by simp)) (by (first | lia | omega))) ?_
    refine wloc_of rfl ?_
    refine wloc_of rfl ?_
    refine ⟨by (first | lia | omega), ?_⟩
    first | refine ⟨Nat.le_of_ble_eq_true rfl, ?_⟩ | refine ⟨by simp, ?_⟩
    first | refine ⟨Nat.le_of_ble_eq_true rfl, ?_, ?_⟩ | refine ⟨by simp, ?_, ?_⟩
    · intro v hv
      rcases List.mem_cons.mp hv with rfl | hv
      · exact hdp
      · rw [List.mem_singleton.mp hv]; simp [deepV]
    refine bif_f ?_
    refine wloc_of rfl ?_
    refine wct0 (CT.up (ct_told (k := k) t hok) (by (first | lia | omega))) ?_
    refine wloc_of rfl ?_
    refine fNeT_self t.told_tup hdp' ?_
    refine bif_f ?_
    refine wloc_of rfl ?_
    refine wct0 (CT.up (ct_law_told (k := k) t hok) (by (first | lia | omega))) ?_
    refine wloc_of rfl ?_
    refine fNeT_self t.told_tup hdp' ?_
    refine bif_f ?_
    refine kif_f ?_
    refine wloc_of rfl ?_
    refine wloc_of rfl ?_
    first | refine ⟨Nat.le_of_ble_eq_true rfl, ?_⟩ | refine ⟨by simp, ?_⟩
    refine ⟨_, rfl, ?_⟩
    refine wFor_inv (fun r σ => ∃ (W : List (Addr × MO)) (z1 z2 : Option V), σ = ⟨[some (.raw (.ref a)), some (.raw (.ref b)), some t.told, z, some (.bytes t.wr), z1, z2, some (.bytes fr), some t.toV, none, none, none, none, none, none, none, none, none, none, none, none, none, none, none, none], W ++ [(b, .list [.int N3]), (463, .tab #[])]⟩ ∧ ∀ v ∈ r, ∃ s, v = .bytes s ∧ Sp t s ∧ s.length ≤ 106000) (fun v r σ Q hI hQ => ?_) _ _ _ ⟨[], none, none, rfl, fun v hv => ?_⟩ fun σ1 hI => ?_
    · obtain ⟨W, z1, z2, rfl, hr⟩ := hI
      obtain ⟨s, rfl, hss, hsl⟩ := hr _ List.mem_cons_self
      refine wloc_of rfl ?_
      refine ⟨by simp; (first | lia | omega), by simp; (first | lia | omega), ?_⟩
      refine wctF (k := k + 60) [] [] (W ++ [(b, .list [.int N3]), (463, .tab #[])]) (CT.up (k := k + 2) (ct_Wire (k := k) ([42, 32] ++ s ++ [32, 120]) 2) (by (first | lia | omega))) False.elim fun v O' hv => ?_
      obtain ⟨x, dx, rfl, rfl⟩ := hv
      refine wloc_of rfl ?_
      first | refine wme_of rfl List.mem_cons_self ?_ | refine wmk_of List.mem_cons_self ?_
      refine wctF (k := k + 60) [] [(x, wireM dx ([42, 32] ++ s ++ [32, 120]) 2)] (W ++ [(b, .list [.int N3]), (463, .tab #[])]) (CT.up (k := k + 6 + t.dep) (ct_value0 (k := k) hb t s hss x dx ([42, 32] ++ s ++ [32, 120]) 2 [32, 120] (by simp; (first | lia | omega)) (fun c hc => by cases hc; decide) (by simp)) (by (first | lia | omega))) (fun ev => by (first | lia | omega)) fun v O' hv => ?_
      obtain ⟨-, rfl, rfl⟩ := hv
      refine wct0 (CT.up (ct_told (k := k) t hok) (by (first | lia | omega))) ?_
      refine wloc_of rfl ?_
      refine fNeT_self t.told_tup hdp' ?_
      refine bif_f ?_
      refine wat_of rfl List.mem_cons_self ?_
      refine wloc_of rfl ?_
      refine ⟨by (first | lia | omega), ?_⟩
      refine fadd_i ?_
      refine fnei_of (EV := False) (x := ((2 + s.length : Nat) : Int)) (y := 2 + (s.length : Int)) (b := false) (by simp) ?_
      refine kif_f ?_
      refine kif_f ?_
      exact hQ _ ⟨(x, wireM dx ([42, 32] ++ s ++ [32, 120]) (2 + s.length)) :: W, _, _, rfl, fun v hv => hr v (List.mem_cons_of_mem _ hv)⟩
    · rcases List.mem_cons.mp hv with rfl | hv
      · exact ⟨_, rfl, hspw, by (first | lia | omega)⟩
      · rw [List.mem_singleton.mp hv]; exact ⟨_, rfl, hspf, by (first | lia | omega)⟩
    · obtain ⟨W, z1, z2, rfl, -⟩ := hI
      refine wloc_of rfl ?_
      refine wct0 (CT.up (k := k + 2) (ct_Atom (k := k) [120]) (by (first | lia | omega))) ?_
      refine wloc_of rfl ?_
      first | refine ⟨Nat.le_of_ble_eq_true rfl, ?_⟩ | refine ⟨by simp, ?_⟩
      have hall : ∀ u ∈ [t, T.atom [120], t], u.OK ∧ u.dep ≤ 30 ∧ u.dep ≤ 30 := by
        intro u hu
        have ha : (T.atom [120]).OK := ⟨by decide, by decide⟩
        simp only [List.mem_cons, List.not_mem_nil, or_false] at hu
        rcases hu with rfl | rfl | rfl
        · exact ⟨hok, h30', h30'⟩
        · exact ⟨ha, by decide, by decide⟩
        · exact ⟨hok, h30', h30'⟩
      refine wct0 (CT.up (k := k + 7 + 30) (ct_write_line (k := k) hb [t, .atom [120], t] 30 hall (by simp) (by simp [joinB, T.wr, textB]; (first | lia | omega))) (by (first | lia | omega))) ?_
      refine wloc_of rfl ?_
      refine ⟨by simp; (first | lia | omega), ?_⟩
      refine wloc_of rfl ?_
      refine ⟨by simp; (first | lia | omega), ?_⟩
      first | refine ⟨Nat.le_of_ble_eq_true rfl, ?_⟩ | refine ⟨by simp, ?_⟩
      refine ⟨[13, 10], rfl, by decide, by decide, ?_⟩
      refine ⟨by simp [bytesN]; (first | lia | omega), ?_⟩
      have exy : joinB [32] ([t, T.atom [120], t].map T.wr) ++ [13, 10] = t.wr ++ [32, 120, 32] ++ t.wr ++ bytesN [13, 10] := by simp [joinB, T.wr, textB, bytesN]
      refine ⟨.bool true, [(463, .tab #[])], ?_, rfl, _, rfl⟩
      show RetV _ _ (V.bool (joinB [32] ([t, T.atom [120], t].map T.wr) ++ [13, 10] == t.wr ++ [32, 120, 32] ++ t.wr ++ bytesN [13, 10])) _ _
      rw [exy, beq_self_eq_true]
      exact .same (List.Sublist.trans (List.Sublist.cons _ (List.Sublist.refl _)) (List.sublist_append_right _ _))
end
end Mine
end

section
open PySem PySem.W PyProof.Rows PySem.Calls
namespace Mine

theorem ints_of_reads {R : WRecords} {cl : Str → Option Addr} {h : Heap} {vs : List Value} : ∀ {xs : List WData} {as : List Addr}, ReadsAllW R cl h vs xs as → WShape.hasItems R xs .int = true → vs.length = xs.length ∧ ∃ ns, IntsAre vs ns := by
  induction vs with
  | nil => intro xs as r q; cases r; exact ⟨rfl, [], .nil⟩
  | cons v vs ih =>
    intro xs as r q
    obtain ⟨d, ds, a, b, rfl, rfl, r1, r2⟩ := r.cons_inv
    simp only [WShape.hasItems, Bool.and_eq_true] at q
    obtain ⟨i, rfl⟩ := hasW_int q.1
    obtain ⟨e, ns, hn⟩ := ih r2 q.2
    cases r1
    exact ⟨congrArg Nat.succ e, i :: ns, .cons _ _ hn⟩

theorem pre_lt (xs : List WData) : (PySem.Challenge.rw_no0380_01.row.pre).holds [] { args := [.list xs] } = WTm.holds [] (.and (.not (.lit (.bool (decide ((63 : Int) < (xs.length : Int)))))) (.lit (.bool true))) { args := [.list xs] } := by kernel_rfl
theorem pre_no (xs : List WData) : WTm.holds [] (.and (.not (.lit (.bool true))) (.lit (.bool true))) { args := [.list xs] } = false := by kernel_rfl
theorem pre_len {xs : List WData} (h : (PySem.Challenge.rw_no0380_01.row.pre).holds [] { args := [.list xs] } = true) : xs.length ≤ 63 := by
  rw [pre_lt] at h
  cases q : decide ((63 : Int) < (xs.length : Int)) with
  | true => rw [q, pre_no] at h; cases h
  | false => have := of_decide_eq_false q; omega

theorem post_ok (xs : List WData) : (WShape.has [] (.bool true) .bool && WTm.holds [] (.eq .res (.lit (.bool true))) { args := [.list xs], res := some (.bool true), after := [.list xs] }) = true := by
  kernel_rfl
theorem room0 : Room callerA (0 + 61) := ⟨by decide +kernel, by decide +kernel⟩
theorem no463 (P : Params) : (hd.heap_39 P).lookup 463 = none := by kernel_rfl

theorem final : PySem.Challenge.rw_no0380_01.Holds := by
  refine Mine.hd ?_
  intro w s₀ s₁ mg mb G Y a o pm cd doc dV kV ho hod hcode hdf hmg hgens args vals as hpre hlay hreads hwell hlow
  obtain ⟨K, htabs⟩ := Y
  have h463 : s₁.heap.get? 463 = some (tabObj #[]) := htabs 463 (by decide)
  have ea : a = 468 := by
    have := mg_of K G.T.g (n := Str.ofString "law") (v := .ref 468) (by kernel_rfl)
    rw [show (_ : Option Value) = some (.ref a) from hmg] at this
    cases this; rfl
  subst ea
  -- the script
  obtain ⟨h1, h2⟩ := pre_splitW hpre
  obtain ⟨d, r, rfl, h3, h4⟩ := hasAllW_cons h1
  have hr := hasAllW_nil h4
  subst hr
  obtain ⟨xs, rfl, h5⟩ := hasW_list h3
  have hlen := pre_len h2
  obtain ⟨v0, rfl, l0, hr0⟩ : ∃ v0, vals = [v0] ∧ ∃ l0, ReadsW _ (classAt s₀.heap) s₁.heap v0 (.list xs) l0 := by
    cases hreads with
    | cons hr1 hr2 => cases hr2; exact ⟨_, rfl, _, hr1⟩
  obtain ⟨l, ol, its, nn, as', rfl, e1, e2, e3, e4⟩ := readsW_list_open hr0
  replace e4 := e4.1
  obtain ⟨hsz, ns, hns⟩ := ints_of_reads e4 h5
  rw [Array.length_toList] at hsz
  have hsz : its.size ≤ 63 := hsz ▸ hlen
  have hl463 : l ≠ 463 := fun q => by
    rw [q, h463] at e1
    cases e1; cases e2
  have hk : ∀ b o, b ≠ 463 → s₁.heap.get? b = some o → (hideAll s₁.heap [463]).get? b = some o := fun b o hb e => hideAll_get _ e (by simp [hb])
  have hx : Heap.ExtBut 463 s₁.heap (hideAll s₁.heap [463]) := fun b o hb e => hk b o hb e
  let X : Cx := ⟨w, hideAll s₁.heap [463], true⟩
  have hG : Gd X := by
    refine ⟨fun a o e => hk a o (fun q => ?_) (K a o e), ⟨mg, G.T.g.extBut hx (by decide)⟩, ⟨mb, G.T.b.extBut hx (by decide), G.T.builtins⟩, ?_, ?_⟩
    · subst q
      rw [show (KK X).lookup 463 = none from no463 _] at e; cases e
    · exact G.T.nolimit.extBut hx (by decide)
    · obtain ⟨mc, n1, n2⟩ := G.T.nodigits
      exact ⟨mc, n1.extBut hx (by decide), n2⟩
  have hM : ModAt X.g0 := by
    obtain ⟨bm, ob, b1, b2, b3, b4, b5, b6⟩ := G.T.bmain
    have := mg_of K G.T.g (n := Str.ofString "__builtins__") (v := .ref 4) (by kernel_rfl)
    rw [show (_ : Option Value) = some (.ref bm) from b1] at this
    cases this
    exact ⟨ob, hk _ _ (by decide) b3, b4, b5, b6⟩
  have hct := ct_law (X := X) (k := 0) rfl l its ns ⟨ol, hk _ _ hl463 e1, e2, nn, e3⟩ hns (by omega) hM
  have CP : CPre X (0 + 61) callerA [] (fun b => X.g0.get? b) [(463, .tab #[])] s₁ := by
    refine ⟨hG, room0, rfl, rfl, trivial, fun a o e => of_hideAll _ e, fun a o e => e, fun p hp => ?_, ?_, fun b hb => ?_, fun b hb => ?_, fun b hb => by cases hb⟩
    · rw [List.mem_singleton.mp hp]; exact h463
    · exact List.nodup_cons.mpr ⟨List.not_mem_nil, List.nodup_nil⟩
    · have : b = 463 := List.mem_singleton.mp hb
      rw [this]; exact hideAll_none _ (List.mem_singleton.mpr rfl)
    · exact List.not_mem_nil
  refine g_call (hct callerA [] _ s₁ [.ref l] _ _ CP (.cons (.raw _) .nil) (fun v vv D' O' h' t' C hq => ?_) (fun ev => ev.elim))
  obtain ⟨rfl, ps, rfl⟩ := hq
  have hvv := C.val
  cases hvv
  have ht' : h'.get? 463 = some (tabObj ps) := C.obj (463, .tab ps) List.mem_cons_self
  refine ⟨.inl ⟨.bool true, .bool true, [], rfl, fun cls => rfl, .bool true, ?_, fun _ => ⟨List.nodup_nil, fun a ha => by cases ha⟩⟩, ?_, rfl, .of_eq hgens⟩
  · exact post_ok xs
  · refine ⟨fun b o e => ?_, fun b o e => ?_⟩
    · by_cases hb : b = 463
      · subst hb
        rw [h463] at e
        cases e
        exact .inr (.inl ⟨((codeHd_law K).tab h463).isCodeTable, rfl, #[], ps, rfl, by simpa using ht'⟩)
      · exact .inl ((C.keep b o e (by simp [feet, footO, hb])).2 List.not_mem_nil)
    · by_cases hb : b = 463
      · subst hb; exact ⟨_, ht'⟩
      · obtain ⟨⟨sl, q⟩, _⟩ := C.keep b o e (by simp [feet, footO, hb]); exact ⟨_, q⟩
end Mine
end

theorem PySem.Challenge.cw_no0380_01_holds : PySem.Challenge.rw_no0380_01.Holds := by
  exact Mine.final
