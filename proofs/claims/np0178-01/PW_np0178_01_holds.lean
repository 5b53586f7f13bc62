import PyProof.Rows.All
import Wide.All
import OpenK.AllK
import Wide.FinOn
import PyProof.Rows.Catch
import PyProof.Rows.SetFrom
import Wide.WTab
import PyProof.Rows.SeqSliceW
import Lean
import PySem.Challenge.RW_np0178_01

set_option compiler.extract_closed false
set_option genSizeOf false

-- M0
set_option Elab.async false
set_option maxRecDepth 100000
set_option maxHeartbeats 1000000
set_option linter.all false
namespace Mine
open PySem PySem.W PySem.Calls PyProof.Rows PySem.Spec
open Sem (wp)

/-- a codec that holds a bytearray (the resize of one looks for them on the stack) -/
noncomputable def isDec : Code → Bool
  | .builtin id _ => Builtin.Bytes.decodersThatHold.contains id
  | _ => false
noncomputable def CleanB (l : List (Code × Pos)) : Prop := ∀ x ∈ l, isDec x.1 = false
noncomputable def Clean (Γ : PySem.Ctx) : Prop := isDec Γ.code = false ∧ CleanB Γ.below

/-- the library's wpAny, at the stacks on which no codec stands -/
noncomputable def wpG {α : Type} (M : Model) (A : Around) (t : Sem α) (Q : α → Shared → Prop) (E : Value → Shared → Prop) (s : Shared) : Prop :=
  ∀ Γ p, Γ.In A → Clean Γ → wp M Γ t (fun a _ s' => Q a s') (fun e _ s' => E e s') p s
noncomputable def codeG (M : Model) (A : Around) (c : Code) (R : Result → Shared → Prop) (s : Shared) : Prop :=
  ∀ Γ p, Γ.code = c → Γ.Below A → CleanB Γ.below → wpCode M Γ R p s

section
variable {α β : Type} {M : Model} {A : Around} {E : Value → Shared → Prop} {s : Shared}
theorem wpG.of {t : Sem α} {Q : α → Shared → Prop} (h : wpAny M A t Q E s) : wpG M A t Q E s := fun Γ p hΓ _ => h Γ p hΓ
theorem codeG.of {c : Code} {R : Result → Shared → Prop} (h : codeAny M A c R s) : codeG M A c R s := fun Γ p hc hΓ _ => h Γ p hc hΓ
theorem wpG_pure {a : α} {Q : α → Shared → Prop} (h : Q a s) : wpG M A (pure a) Q E s := fun _ _ _ _ => h
theorem wpG_mono {t : Sem α} {Q Q' : α → Shared → Prop} {E' : Value → Shared → Prop} (h : wpG M A t Q E s)
    (hQ : ∀ a s, Q a s → Q' a s) (hE : ∀ e s, E e s → E' e s) : wpG M A t Q' E' s :=
  fun Γ p hΓ hc => Sem.wp_mono M Γ t (fun a _ s => hQ a s) (fun e _ s => hE e s) p s (h Γ p hΓ hc)
theorem wpG_bind {m : Sem α} {f : α → Sem β} {Q : β → Shared → Prop} (h : wpG M A m (fun a s' => wpG M A (f a) Q E s') E s) :
    wpG M A (m >>= f) Q E s := fun Γ p hΓ hc => by
  rw [Sem.wp_bind']
  exact Sem.wp_mono M Γ m (fun a p' s' h' => h' Γ p' hΓ hc) (fun _ _ _ h' => h') p s (h Γ p hΓ hc)
theorem wpG_map {m : Sem α} {f : α → β} {Q : β → Shared → Prop} (h : wpG M A m (fun a s' => Q (f a) s') E s) :
    wpG M A (f <$> m) Q E s := fun Γ p hΓ hc => by rw [Sem.wp_map]; exact h Γ p hΓ hc
theorem wpG_tryCatch {m : Sem α} {k : Value → Sem α} {Q : α → Shared → Prop} (h : wpG M A m Q (fun e s' => wpG M A (k e) Q E s') s) :
    wpG M A (tryCatch m k) Q E s := fun Γ p hΓ hc => by
  rw [Sem.wp_tryCatch']
  exact Sem.wp_mono M Γ m (fun _ _ _ h' => h') (fun e p' s' h' => h' Γ p' hΓ hc) p s (h Γ p hΓ hc)
theorem wpG_onRaise {m : Sem α} {k : Value → Sem Unit} {Q : α → Shared → Prop}
    (h : wpG M A m Q (fun e s' => wpG M A (k e) (fun _ s'' => E e s'') E s') s) : wpG M A (m.onRaise k) Q E s := fun Γ p hΓ hc => by
  rw [Sem.wp_onRaise]
  exact Sem.wp_mono M Γ m (fun _ _ _ h' => h') (fun e p' s' h' => h' Γ p' hΓ hc) p s (h Γ p hΓ hc)
theorem wpG_attempt {m : Sem α} {Q : Except Value α → Shared → Prop} (h : wpG M A m (fun a => Q (.ok a)) (fun e => Q (.error e)) s) :
    wpG M A m.attempt Q E s := fun Γ p hΓ hc => by rw [Sem.wp_attempt]; exact h Γ p hΓ hc
theorem wpG_holding {vs : List Value} {m : Sem α} {Q : α → Shared → Prop} (h : wpG M A m Q E s) : wpG M A (holding vs m) Q E s :=
  fun Γ p hΓ hc => by rw [Sem.wp_holding]; exact h Γ p hΓ hc
theorem wpG_standAt {pos : Pos} {Q : Unit → Shared → Prop} (h : Q () s) : wpG M A (standAt pos) Q E s := .of (wpAny_standAt h)
theorem wpG_point {Q : Unit → Shared → Prop} (h : Q () s) : wpG M A point Q E s := .of (wpAny_point h)
theorem wpG_rule {tag : String} {Q : Unit → Shared → Prop} (h : Q () s) : wpG M A (rule tag) Q E s := .of (wpAny_rule h)
theorem wpG_of_eq {t : Sem α} {a : α} {Q : α → Shared → Prop} (e : t = pure a) (h : Q a s) : wpG M A t Q E s := e ▸ wpG_pure h
theorem wpG_ite {c : Prop} [Decidable c] {a b : Sem α} {Q : α → Shared → Prop} (h : if c then wpG M A a Q E s else wpG M A b Q E s) :
    wpG M A (if c then a else b) Q E s := by split <;> simp_all
theorem wpG_keep {vs : List Value} {m : Sem α} {Q : α → Shared → Prop} (h : wpG M A m Q E s) : wpG M A (m.keep vs) Q E s :=
  fun Γ p hΓ hc => by rw [Sem.wp_keep]; exact h Γ p hΓ hc
theorem wpG_release {vs keep : List Value} {Q : Unit → Shared → Prop} (h : Q () s) : wpG M A (release vs keep) Q E s := .of (wpAny_release' h)
theorem wpG_operate {vs : List Value} {m : Sem Value} {Q : Value → Shared → Prop} (h : wpG M A m Q E s) : wpG M A (operate vs m) Q E s := fun Γ p hΓ hc => by
  rw [Sem.wp_operate]; exact h Γ p hΓ hc
theorem codeG_mono {c : Code} {R R' : Result → Shared → Prop} (h : codeG M A c R s) (hR : ∀ r s, R r s → R' r s) : codeG M A c R' s :=
  fun Γ p hc hΓ hb => wpCode_mono hR (h Γ p hc hΓ hb)
theorem Clean.enter {Γ : PySem.Ctx} (h : Clean Γ) (c : Code) (hd : Option Value) (p : Pos) : CleanB (Γ.enter c hd p).below := fun x hx => by
  rcases List.mem_cons.mp (show x ∈ (Γ.code, p) :: Γ.below from hx) with rfl | hx
  · exact h.1
  · exact h.2 x hx
theorem wpG_run {c : Code} {h : Option Value} {Q : Flow → Shared → Prop}
    (hc : codeG M (A.mark h) c (fun r s' => match r with | .ok f => Q f s' | .error e => E e s') s) (hnb : h ≠ some byPass := by intro x; cases x) :
    wpG M A (run c h) Q E s :=
  fun Γ p hΓ cl => by rw [Sem.wp_run]; exact hc _ p rfl (hΓ.enter c h p hnb) (cl.enter c h p)
theorem wpG_runValue {c : Code} {Q : Value → Shared → Prop}
    (hc : codeG M A c (fun r s' => match r with | .ok (.ret v) => Q v s' | .ok _ => False | .error e => E e s') s) :
    wpG M A (runValue c) Q E s := fun Γ p hΓ cl => by rw [Sem.wp_runValue]; exact hc _ p rfl (hΓ.enter c none p (by intro x; cases x)) (cl.enter c none p)
theorem wpG_call {f : Value} {pos : List Value} {kw : List (Str × Value)} {Q : Value → Shared → Prop}
    (hc : codeG M A (.call f ⟨pos, kw⟩) (fun r s' => match r with | .ok (.ret v) => Q v s' | .ok _ => False | .error e => E e s') s) :
    wpG M A (call f pos kw) Q E s := wpG_runValue hc
theorem codeG_of_tree {c : Code} {R : Result → Shared → Prop} (hd : isDec c = false)
    (h : wpG M (A.under c) (M.den c) (fun fin s' => match fin with | .done f => R (.ok f) s' | .again c' => c'.quiet = true ∧ codeG M A c' R s')
      (fun e s' => R (.error e) s') s) : codeG M A c R s := fun Γ p hc hΓ hb => by
  rw [wpCode_iff_wp, hc]
  refine Sem.wp_mono M Γ _ (fun fin p' s' h' => ?_) (fun _ _ _ h' => h') p s (h Γ p (hc ▸ hΓ.in) ⟨by rw [hc]; exact hd, hb⟩)
  cases fin with
  | done f => exact h'
  | again c' => exact ⟨h'.1, h'.2 (Γ.goto c') p' rfl (hΓ.goto c') hb⟩
theorem codeG_loop' {c : Code} {R : Result → Shared → Prop} (hd : isDec c = false) (hq : c.quiet = true) (I : Nat → Shared → Prop)
    (turn : ∀ n s, I n s → wpG M (A.under c) (M.den c)
      (fun fin s' => match fin with
        | .done f => R (.ok f) s'
        | .again c' => (c' = c ∧ ∃ m, m < n ∧ I m s') ∨ (c'.quiet = true ∧ codeG M A c' R s')) (fun e s' => R (.error e) s') s)
    (n : Nat) (h : I n s) : codeG M A c R s := by
  induction n using Nat.strongRecOn generalizing s with
  | ind n ih =>
    refine codeG_of_tree hd (wpG_mono (turn n s h) (fun fin s' hf => ?_) fun _ _ h' => h')
    cases fin with
    | done f => exact hf
    | again c' =>
      rcases hf with ⟨rfl, m, hm, hI⟩ | hf
      · exact ⟨hq, ih m hm hI⟩
      · exact hf

-- the structural rules
noncomputable def cameBackG (M : Model) (A : Around) (env : Env) (E : Value → Shared → Prop) : Value → Shared → Prop :=
  fun x s' => wpG M A (do
    if (← field x 1) == .none then unsupported "frame.own-activation:exception-without-traceback"
    setFlight x env.frame) (fun _ s'' => E x s'') E s'
noncomputable def notedG (M : Model) (A : Around) (env : Env) (E : Value → Shared → Prop) : Value → Shared → Prop :=
  fun x s' => wpG M A (noteFrame x env) (fun _ s'' => E x s'') E s'
theorem wpG_noted {env : Env} {m : Sem α} {Q : α → Shared → Prop} (h : wpG M A m Q (notedG M A env E) s) : wpG M A (m.onRaise fun x => do noteFrame x env; theTreesLotGoes x) Q E s :=
  wpG_onRaise (wpG_mono h (fun _ _ q => q) fun _ _ hx => wpG_bind (wpG_mono hx (fun _ _ e => .of (wpAny_theTreesLotGoes e)) fun _ _ e => e))
theorem wpG_runOwn {env : Env} {c : Code} {h : Option Value} {Q : Flow → Shared → Prop}
    (hc : codeG M (A.mark h) c (fun r s' => match r with | .ok f => Q f s' | .error e => cameBackG M A env E e s') s) (hnb : h ≠ some byPass := by intro x; cases x) :
    wpG M A (runOwn c env h) Q E s := by
  unfold runOwn
  exact wpG_onRaise (wpG_run hc hnb)

variable {env : Env}
theorem G_Name {x pos} {Q : Value → Shared → Prop} (h : wpG M A (loadName env x) Q E s) (hd : (x == ("__debug__" : Str)) = false := by decide) :
    wpG M A (eval (.Name x pos) env) Q E s := by
  rw [eval_Name env x pos hd]
  exact wpG_bind (wpG_standAt h)
theorem G_BinOp {op l r pos} {Q : Value → Shared → Prop}
    (h : wpG M A (eval l env) (fun a s₁ => wpG M A (eval r env) (fun b s₂ => wpG M A (binaryOp op a b) Q E s₂) E s₁) E s) :
    wpG M A (eval (.BinOp l op r pos) env) Q E s := by
  rw [eval_BinOp]
  exact wpG_bind (wpG_mono h (fun a s₁ h₁ => wpG_bind (wpG_holding (wpG_mono h₁ (fun b s₂ h₂ => wpG_bind (wpG_standAt (wpG_operate h₂))) fun _ _ x => x))) fun _ _ x => x)
theorem G_Compare1 {l op r pos} {Q : Value → Shared → Prop}
    (h : wpG M A (eval l env) (fun a s₁ => wpG M A (eval r env) (fun b s₂ => wpG M A (compareOp op a b) Q E s₂) E s₁) E s)
    (hm : behindInMarks op r = false := by with_unfolding_all rfl) : wpG M A (eval (.Compare l [op] [r] pos) env) Q E s := by
  rw [eval_Compare1, markedBehindIn_of_false hm]
  exact wpG_bind (wpG_mono h (fun a s₁ h₁ => wpG_bind (wpG_holding (wpG_mono h₁ (fun b s₂ h₂ => wpG_bind (wpG_standAt (wpG_operate h₂))) fun _ _ x => x))) fun _ _ x => x)
theorem G_isTrue_Compare1 {l op r pos whole} {Q : Bool → Shared → Prop}
    (h : wpG M A (eval l env) (fun a s₁ => wpG M A (eval r env) (fun b s₂ => wpG M A (compareOp op a b)
      (fun c s₃ => wpG M A (truthy c) Q E s₃) E s₂) E s₁) E s)
    (hm : behindInMarks op r = false := by with_unfolding_all rfl) : wpG M A (isTrue (.Compare l [op] [r] pos) env whole) Q E s := by
  rw [isTrue_Compare1, markedBehindIn_of_false hm]
  exact wpG_bind (wpG_mono h (fun a s₁ h₁ => wpG_bind (wpG_holding (wpG_mono h₁ (fun b s₂ h₂ => wpG_bind (wpG_standAt (wpG_bind (wpG_operate (wpG_mono h₂ (fun c s₃ h₃ => wpG_holding h₃) fun _ _ x => x))))) fun _ _ x => x))) fun _ _ x => x)
theorem G_UnaryOp {op x pos} {Q : Value → Shared → Prop} (h : wpG M A (eval x env) (fun v s₁ => wpG M A (unaryOp op v) Q E s₁) E s) :
    wpG M A (eval (.UnaryOp op x pos) env) Q E s := by
  rw [eval_UnaryOp]
  exact wpG_bind (wpG_mono h (fun v s₁ h₁ => wpG_bind (wpG_standAt (wpG_holding h₁))) fun _ _ x => x)
theorem G_not {v : Value} {Q : Value → Shared → Prop} (h : wpG M A (truthy v) (fun c s' => Q (.bool (!c)) s') E s) : wpG M A (unaryOp .Not v) Q E s := by
  unfold unaryOp
  refine wpG_holding ?_
  exact wpG_bind (m := truthy v) (wpG_mono h (fun c s' h' => wpG_pure h') fun _ _ x => x)
theorem G_IfExp {test body orelse pos} {Q : Value → Shared → Prop}
    (h : wpG M A (isTrue test env (eval test env)) (fun c s₂ => if c then wpG M A (eval body env) Q E s₂ else wpG M A (eval orelse env) Q E s₂) E s) :
    wpG M A (eval (.IfExp test body orelse pos) env) Q E s := by
  rw [eval_IfExp]
  refine wpG_bind (wpG_mono h (fun c s₂ h₂ => ?_) fun _ _ x => x)
  cases c <;> exact h₂
theorem G_BoolOp_and {e₁ e₂ rest pos} {Q : Value → Shared → Prop}
    (h : wpG M A (eval e₁ env) (fun v s₁ => wpG M A (truthy v) (fun c s₂ => if c then wpG M A (eval (.BoolOp .And (e₂ :: rest) pos) env) Q E s₂ else Q v s₂) E s₁) E s) :
    wpG M A (eval (.BoolOp .And (e₁ :: e₂ :: rest) pos) env) Q E s := by
  show wpG M A (do
    let v ← eval e₁ env
    standAt pos
    let c ← holding [v] (truthy v)
    match BoolOp.And, c with
    | .And, false | .Or, true => pure v
    | _, _ => boolOp pos .And (eval e₂ env :: evalEach rest env)) Q E s
  refine wpG_bind (wpG_mono h (fun v s₁ h₁ => wpG_bind (wpG_standAt (wpG_bind (wpG_holding (wpG_mono h₁ (fun c s₂ h₂ => ?_) fun _ _ x => x))))) fun _ _ x => x)
  cases c with
  | false => exact wpG_pure h₂
  | true => exact h₂
theorem G_isTrue_not {x pos whole} {Q : Bool → Shared → Prop} (h : wpG M A (isTrue x env (eval x env)) (fun c s' => Q (!c) s') E s) :
    wpG M A (isTrue (.UnaryOp .Not x pos) env whole) Q E s := by
  show wpG M A (do return !(← isTrue x env (eval x env))) Q E s
  exact wpG_bind (wpG_mono h (fun c s' h' => wpG_pure h') fun _ _ x => x)
theorem G_isTrue_and_nil {pos whole} {Q : Bool → Shared → Prop} (h : Q true s) : wpG M A (isTrue (.BoolOp .And [] pos) env whole) Q E s := wpG_pure (a := true) h
theorem G_isTrue_or_nil {pos whole} {Q : Bool → Shared → Prop} (h : Q false s) : wpG M A (isTrue (.BoolOp .Or [] pos) env whole) Q E s := wpG_pure (a := false) h
theorem G_isTrue_and {x rest pos whole} {Q : Bool → Shared → Prop}
    (h : wpG M A (isTrue x env (eval x env)) (fun c s' => if c then wpG M A (isTrue (.BoolOp .And rest pos) env whole) Q E s' else Q false s') E s) :
    wpG M A (isTrue (.BoolOp .And (x :: rest) pos) env whole) Q E s := by
  show wpG M A (do
    match BoolOp.And, ← isTrue x env (eval x env) with
    | .And, false => pure false
    | .Or, true => pure true
    | _, _ => allTrue .And rest env) Q E s
  refine wpG_bind (wpG_mono h (fun c s' h' => ?_) fun _ _ x => x)
  cases c with
  | false => exact wpG_pure h'
  | true => exact h'
theorem G_isTrue_or {x rest pos whole} {Q : Bool → Shared → Prop}
    (h : wpG M A (isTrue x env (eval x env)) (fun c s' => if c then Q true s' else wpG M A (isTrue (.BoolOp .Or rest pos) env whole) Q E s') E s) :
    wpG M A (isTrue (.BoolOp .Or (x :: rest) pos) env whole) Q E s := by
  show wpG M A (do
    match BoolOp.Or, ← isTrue x env (eval x env) with
    | .And, false => pure false
    | .Or, true => pure true
    | _, _ => allTrue .Or rest env) Q E s
  refine wpG_bind (wpG_mono h (fun c s' h' => ?_) fun _ _ x => x)
  cases c with
  | false => exact h'
  | true => exact wpG_pure h'
theorem G_isTrue_plain {e : Expr} {whole : Sem Value} {Q : Bool → Shared → Prop} (h : wpG M A whole (fun v s₁ => wpG M A (truthy v) Q E s₁) E s)
    (he : isTrue e env whole = (do let v ← whole; standAt e.pos; holding [v] (truthy v)) := by rfl) : wpG M A (isTrue e env whole) Q E s := by
  rw [he]
  exact wpG_bind (wpG_mono h (fun v s₁ h₁ => wpG_bind (wpG_standAt (wpG_holding h₁))) fun _ _ x => x)
theorem G_isTrue_chain {l op₁ op₂ ops r₁ r₂ rs pos whole} {Q : Bool → Shared → Prop}
    (h : wpG M A (eval l env) (fun a s₁ => wpG M A (testChain pos a (op₁ :: op₂ :: ops) (eval r₁ env :: eval r₂ env :: evalEach rs env)) Q E s₁) E s)
    (hm : lastMarks (op₁ :: op₂ :: ops) (r₁ :: r₂ :: rs) = false := by with_unfolding_all rfl) :
    wpG M A (isTrue (.Compare l (op₁ :: op₂ :: ops) (r₁ :: r₂ :: rs) pos) env whole) Q E s := by
  show wpG M A (do testChain pos (← eval l env) (op₁ :: op₂ :: ops) (markedEach (op₁ :: op₂ :: ops) (r₁ :: r₂ :: rs) (evalEach (r₁ :: r₂ :: rs) env))) Q E s
  rw [markedEach_of_false _ _ _ hm]
  exact wpG_bind h
theorem G_test_link {pos : Pos} {a : Value} {op op' : CmpOp} {ops : List CmpOp} {r r' : Sem Value} {rs : List (Sem Value)} {Q : Bool → Shared → Prop}
    (h : wpG M A r (fun b s₁ => wpG M A (compareOp op a b) (fun c s₂ => wpG M A (truthy c)
      (fun t s₃ => if t then wpG M A (testChain pos b (op' :: ops) (r' :: rs)) Q E s₃ else Q false s₃) E s₂) E s₁) E s) :
    wpG M A (testChain pos a (op :: op' :: ops) (r :: r' :: rs)) Q E s := by
  show wpG M A (do
    let rv ← holding [a] r
    standAt pos
    let c ← holding [a, rv] (compareOp op a rv)
    release [a, rv] [c]
    if ← holding [c, rv] (truthy c) then testChain pos rv (op' :: ops) (r' :: rs) else pure false) Q E s
  refine wpG_bind (wpG_holding (wpG_mono h (fun b s₁ h₁ => wpG_bind (wpG_standAt (wpG_bind (wpG_holding (wpG_mono h₁ (fun c s₂ h₂ =>
    wpG_bind (wpG_release (wpG_bind (wpG_holding (wpG_mono h₂ (fun t s₃ h₃ => ?_) fun _ _ x => x))))) fun _ _ x => x))))) fun _ _ x => x))
  cases t with
  | false => exact wpG_pure h₃
  | true => exact h₃
theorem G_test_last {pos : Pos} {a : Value} {op : CmpOp} {r : Sem Value} {Q : Bool → Shared → Prop}
    (h : wpG M A r (fun b s₁ => wpG M A (compareOp op a b) (fun c s₂ => wpG M A (truthy c) Q E s₂) E s₁) E s) : wpG M A (testChain pos a [op] [r]) Q E s := by
  show wpG M A (do
    let rv ← holding [a] r
    standAt pos
    let c ← operate [a, rv] (compareOp op a rv)
    holding [c] (truthy c)) Q E s
  exact wpG_bind (wpG_holding (wpG_mono h (fun b s₁ h₁ => wpG_bind (wpG_standAt (wpG_bind (wpG_operate (wpG_mono h₁ (fun c s₂ h₂ => wpG_holding h₂) fun _ _ x => x))))) fun _ _ x => x))
theorem G_execs_cons {st rest} {Q : Flow → Shared → Prop}
    (h : wpG M A (exec st env) (fun f s' => match f with | .next => wpG M A (execs rest env) Q E s' | f => Q f s') E s) :
    wpG M A (execs (st :: rest) env) Q E s := by
  rw [execs_cons]
  refine wpG_bind (wpG_mono h (fun f s' h' => ?_) fun _ _ x => x)
  cases f <;> first | exact h' | exact wpG_pure h'
theorem G_bindName {x : Str} {v : Value} {Q : Unit → Shared → Prop} (h : wpG M A (storeName env x v) Q E s) : wpG M A (bindName env x v) Q E s :=
  fun Γ p hΓ hc => by rw [Sem.wp_bindName]; exact h Γ p hΓ hc
theorem G_Assign_Name {x pos' value pos} {Q : Flow → Shared → Prop}
    (h : wpG M A (eval value env) (fun v s₁ => wpG M A (storeName env x v) (fun _ => Q .next) E s₁) E s)
    (hs : swapsWith value (some (.Name x pos')) pos.line env = pure false := by rfl) :
    wpG M A (exec (.Assign [.Name x pos'] value pos) env) Q E s := by
  rw [exec_Assign_Name env x pos' value pos hs]
  exact wpG_bind (wpG_standAt (wpG_bind (wpG_mono h (fun v s₁ h₁ => wpG_bind (wpG_standAt (wpG_bind (G_bindName (wpG_mono h₁ (fun _ _ x => wpG_pure x) fun _ _ x => x))))) fun _ _ x => x)))
theorem G_Return {e pos} {Q : Flow → Shared → Prop} (h : wpG M A (eval e env) (fun v => Q (.ret v)) E s) : wpG M A (exec (.Return (some e) pos) env) Q E s := by
  rw [exec_Return_some]
  exact wpG_bind (wpG_standAt (wpG_bind (wpG_mono h (fun _ _ x => wpG_pure x) fun _ _ x => x)))
theorem G_If {test body orelse pos} {Q : Flow → Shared → Prop}
    (h : wpG M A (isTrue test env (eval test env)) (fun b s₂ => if b then wpG M A (execs body env) Q E s₂ else wpG M A (execs orelse env) Q E s₂) E s) :
    wpG M A (exec (.If test body orelse pos) env) Q E s := by
  rw [exec_If]
  refine wpG_bind (wpG_standAt (wpG_bind (wpG_mono h (fun b s₂ h₂ => ?_) fun _ _ x => x)))
  cases b <;> exact h₂
theorem G_While {test body orelse pos} {Q : Flow → Shared → Prop}
    (h : codeG M A (.whileLoop test body orelse env) (fun r s' => match r with | .ok f => Q f s' | .error e => cameBackG M A env E e s') s) :
    wpG M A (exec (.While test body orelse pos) env) Q E s := by
  rw [exec_While]; exact wpG_bind (wpG_standAt (wpG_runOwn h))
theorem G_For {target iter body orelse pos} {Q : Flow → Shared → Prop}
    (h : wpG M A (eval iter env) (fun x s₁ => wpG M A (pyIter x) (fun it s₂ =>
      codeG M A (.forLoop target it body orelse env) (fun r s' => match r with | .ok f => Q f s' | .error e => cameBackG M A env E e s') s₂) E s₁) E s)
    (hs : ∀ x, foldedSetIterable iter env x = pure x := by intro _; rfl) :
    wpG M A (exec (.For target iter body orelse pos) env) Q E s := by
  rw [exec_For]
  exact wpG_bind (wpG_standAt (wpG_bind (wpG_mono h (fun x s₁ h₁ => wpG_bind (wpG_of_eq (hs x) (wpG_bind (wpG_standAt (wpG_bind (wpG_holding
    (wpG_mono h₁ (fun it s₂ h₂ => wpG_runOwn h₂) fun _ _ h' => h'))))))) fun _ _ h' => h')))
theorem G_spliced_cons {x : Sem Value} {rest : List (Bool × Sem Value)} {Q : List Value → Shared → Prop}
    (h : wpG M A x (fun v s₁ => wpG M A (spliced rest) (fun vs s₂ => Q (v :: vs) s₂) E s₁) E s) : wpG M A (spliced ((false, x) :: rest)) Q E s := by
  rw [spliced]
  refine wpG_bind (wpG_mono h (fun v s₁ h₁ => ?_) fun _ _ x => x)
  simp only [Bool.false_eq_true, if_false]
  exact wpG_bind (wpG_pure (wpG_bind (wpG_holding (wpG_mono h₁ (fun vs s₂ h₂ => wpG_pure h₂) fun _ _ x => x))))
theorem G_Call_ofName {x : Str} {np pos : Pos} {args : List Expr} {keywords : List Keyword} {Q : Value → Shared → Prop}
    (h : wpG M A (eval (.Name x np) env) (fun f s₁ => wpG M A (callWith pos f [] (backTo pos (starEach args env)) (backToKw pos (keywordEach keywords env))) Q E s₁) E s) :
    wpG M A (eval (.Call (.Name x np) args keywords pos) env) Q E s := by
  rw [arm_eval_Call_Name']
  exact wpG_bind h
theorem G_callTail {t : Sem Value} {Q : Value → Shared → Prop} (h : wpG M A t Q E s) : wpG M A (t >>= fun r => holding [r] point >>= fun _ => pure r) Q E s :=
  wpG_bind (wpG_mono h (fun r s₂ hr => wpG_bind (wpG_holding (wpG_point (wpG_pure hr)))) fun _ _ x => x)
theorem G_callWith_plain {pos : Pos} {f : Value} {first : List Value} {args : List (Bool × Sem Value)} {Q : Value → Shared → Prop} (hk : keeperOf f = pure .machine) (hplain : args.any (·.1) = false)
    (h : wpG M A (evalArgs f true args []) (fun a s₁ => wpG M A (call f (first ++ a.pos) a.kw) Q E s₁) E s) :
    wpG M A (callWith pos f first args []) Q E s := by
  unfold callWith
  refine wpG_bind (wpG_holding (wpG_mono h (fun a s₁ h₁ => wpG_bind (wpG_standAt ?_)) fun _ _ x => x))
  simp only [hplain, List.any_nil, Bool.or_false]
  refine wpG_bind (wpG_of_eq hk ?_)
  exact G_callTail h₁
theorem G_callWith_function {pos : Pos} {a : Addr} {o : Obj} {fd : FuncData} {first : List Value} {args : List (Bool × Sem Value)} {Q : Value → Shared → Prop}
    (h : wpG M A (evalArgs (.ref a) true args []) (fun x s₁ => (s₁.heap.get? a = some o ∧ o.data = .func fd) ∧ wpG M A (call (.ref a) (first ++ x.pos) x.kw) Q E s₁) E s) :
    wpG M A (callWith pos (.ref a) first args []) Q E s := by
  unfold callWith
  refine wpG_bind (wpG_holding (wpG_mono h (fun x s₁ h₁ => wpG_bind (wpG_standAt ?_)) fun _ _ x => x))
  cases hs : args.any (·.1) <;> simp only [List.any_nil, Bool.or_false] <;>
    refine wpG_bind (m := keeperOf (.ref a)) ?_ <;> unfold keeperOf <;>
    refine wpG_bind (.of (wpAny_load h₁.1.1 ?_)) <;> rw [h₁.1.2] <;> refine wpG_pure ?_
  · first
      | refine wpG_ite ?_
      | skip
    split <;> first
      | exact G_callTail h₁.2
      | (refine G_callTail ?_; unfold callMarked; exact wpG_keep h₁.2)
  · first
      | (refine G_callTail ?_; unfold callMarked; exact wpG_keep h₁.2)
      | exact G_callTail h₁.2
theorem G_Tuple {elts : List Expr} {k : Nat} {pos : Pos} {Q : Value → Shared → Prop}
    (h : wpG M A (spliced (backTo pos (starEach elts env))) (fun vs s₁ => wpG M A (newTuple vs) Q E s₁) E s) : wpG M A (eval (.Tuple elts k pos) env) Q E s := by
  show wpG M A (do standAt pos; newTuple (← spliced (backTo pos (starEach elts env)))) Q E s
  exact wpG_bind (wpG_standAt (wpG_bind h))
theorem G_List {elts : List Expr} {pos : Pos} {Q : Value → Shared → Prop}
    (h : wpG M A (spliced (backTo pos (starEach elts env))) (fun vs s₁ => wpG M A (newList vs) Q E s₁) E s) : wpG M A (eval (.List elts pos) env) Q E s := by
  show wpG M A (do standAt pos; newList (← spliced (backTo pos (starEach elts env)))) Q E s
  exact wpG_bind (wpG_standAt (wpG_bind h))
theorem G_evalArgs {f : Value} {ts : List (Sem Value)} {Q : Args → Shared → Prop}
    (h : wpG M A (spliced (ts.map fun t => (false, t))) (fun vs s' => Q ⟨vs, []⟩ s') E s) : wpG M A (evalArgs f true (ts.map fun t => (false, t)) []) Q E s := by
  cases ts with
  | nil =>
    unfold evalArgs
    show wpG M A (spliced [] >>= _) Q E s
    refine wpG_bind (wpG_mono h (fun vs s' h' => ?_) fun _ _ x => x)
    refine wpG_holding ?_
    exact wpG_bind (wpG_pure (wpG_bind (wpG_pure (wpG_pure h'))))
  | cons t ts =>
    unfold evalArgs
    show wpG M A (spliced (((t :: ts).map fun t => (false, t))) >>= _) Q E s
    refine wpG_bind (wpG_mono h (fun vs s' h' => ?_) fun _ _ x => x)
    refine wpG_holding ?_
    exact wpG_bind (wpG_pure (wpG_bind (wpG_pure (wpG_pure h'))))
theorem G_Slice {lower upper : Option Expr} {p : Pos} {Q : Value → Shared → Prop}
    (h : wpG M A (evalPart lower env) (fun l s₁ => wpG M A (evalPart upper env) (fun u s₂ =>
      Q (.ref s₂.heap.objs.size) { s₂ with heap := s₂.heap.push { cls := .type "slice", data := .fields #[l, u, .none] } }) E s₁) E s) :
    wpG M A (eval (.Slice lower upper none p) env) Q E s := by
  rw [arm_eval_Slice]
  refine wpG_bind (wpG_mono h (fun l s₁ h₁ => wpG_bind (wpG_holding (wpG_mono h₁ (fun u s₂ h₂ => wpG_bind (wpG_holding (wpG_pure ?_))) fun _ _ x => x))) fun _ _ x => x)
  exact .of (wpAny_newObj_type h₂)
theorem G_Subscript {value slice pos} {Q : Value → Shared → Prop}
    (h : wpG M A (eval value env) (fun o s₁ => wpG M A (eval slice env) (fun i s₂ => wpG M A (subscriptTail value slice o i) Q E s₂) E s₁) E s) :
    wpG M A (eval (.Subscript value slice pos) env) Q E s := by
  rw [eval_Subscript]
  exact wpG_bind (wpG_mono h (fun o s₁ h₁ => wpG_bind (wpG_holding (wpG_mono h₁ (fun i s₂ h₂ => wpG_bind (wpG_standAt h₂)) fun _ _ x => x))) fun _ _ x => x)
theorem G_Expr {e pos} {Q : Flow → Shared → Prop} (h : wpG M A (eval e env) (fun v s' => (∀ a, v ≠ .ref a) ∧ Q .next s') E s)
    (hi : interactive env = false := by rfl) (hs : swapsWith e none pos.line env = pure false := by rfl) :
    wpG M A (exec (.Expr e pos) env) Q E s := by
  rw [exec_Expr env e pos hi hs]
  refine wpG_bind (wpG_standAt (wpG_bind (wpG_mono h (fun v s' h' => ?_) fun _ _ x => x)))
  rw [dropValue_plain h'.1]
  exact wpG_pure h'.2
theorem G_Assign_Subscript {o i pos' value pos} {Q : Flow → Shared → Prop}
    (h : wpG M A (eval value env) (fun v s₁ => wpG M A (eval o env) (fun ov s₂ => wpG M A (eval i env) (fun iv s₃ =>
      wpG M A (setItem ov iv v) (fun _ => Q .next) E s₃) E s₂) E s₁) E s)
    (hs : swapsWith value (some (.Subscript o i pos')) pos.line env = pure false := by rfl) :
    wpG M A (exec (.Assign [.Subscript o i pos'] value pos) env) Q E s := fun Γ p hΓ hc => by
  simp only [exec_Assign_Subscript o i pos' value pos hs, assign_Subscript, Sem.wp_bind', Sem.wp_holding, Sem.wp_cmd_standAt, Sem.wp_release, Sem.wp_pure']
  exact Sem.wp_mono M Γ _ (fun v p₁ s₁ h₁ => Sem.wp_mono M Γ _ (fun ov p₂ s₂ h₂ => Sem.wp_mono M Γ _ (fun iv _ s₃ h₃ => h₃ Γ _ hΓ hc)
    (fun _ _ _ h' => h') _ _ (h₂ Γ p₂ hΓ hc)) (fun _ _ _ h' => h') _ _ (h₁ Γ p₁ hΓ hc)) (fun _ _ _ h' => h') _ _ (h Γ _ hΓ hc)
theorem G_Assign_Tuple {elts k tpos value pos} {Q : Flow → Shared → Prop}
    (h : wpG M A (eval value env) (fun v s₁ => wpG M A (assign (.Tuple elts k tpos) env v) (fun _ => Q .next) E s₁) E s)
    (hs : swapsWithSole [.Tuple elts k tpos] value pos.line env = pure false := by rfl)
    (hw : swappedStores [.Tuple elts k tpos] value env = pure none := by rfl) :
    wpG M A (exec (.Assign [.Tuple elts k tpos] value pos) env) Q E s := by
  rw [exec_Assign]
  refine wpG_bind (wpG_standAt ?_)
  rw [hs]
  refine wpG_bind (wpG_pure ?_)
  rw [if_neg (by decide)]
  refine wpG_bind (wpG_mono h (fun v s₁ h₁ => ?_) fun _ _ x => x)
  rw [hw]
  refine wpG_bind (wpG_pure ?_)
  show wpG M A (do assignAll v [assign (.Tuple elts k tpos) env]; pure .next) Q E s₁
  exact wpG_bind (wpG_mono h₁ (fun _ _ x => wpG_pure x) fun _ _ x => x)
theorem G_Assign_Tuple_swapped {elts k tpos value pos} {names : List Str} {Q : Flow → Shared → Prop}
    (h : wpG M A (eval value env) (fun v s₁ => wpG M A (unpackItems v names.length none) (fun items s₂ =>
      wpG M A (assignInOrder (names.reverse.map fun n => bindName env n) items.reverse) (fun _ => Q .next) E s₂) E s₁) E s)
    (hs : swapsWithSole [.Tuple elts k tpos] value pos.line env = pure false := by rfl)
    (hw : swappedStores [.Tuple elts k tpos] value env = pure (some names) := by rfl) :
    wpG M A (exec (.Assign [.Tuple elts k tpos] value pos) env) Q E s := by
  rw [exec_Assign]
  refine wpG_bind (wpG_standAt ?_)
  rw [hs]
  refine wpG_bind (wpG_pure ?_)
  rw [if_neg (by decide)]
  refine wpG_bind (wpG_mono h (fun v s₁ h₁ => ?_) fun _ _ x => x)
  rw [hw]
  refine wpG_bind (wpG_pure ?_)
  show wpG M A (do rule "assign.swapped-stores"; let items ← unpackItems v names.length none; assignInOrder (names.reverse.map fun n => bindName env n) items.reverse; pure .next) Q E s₁
  exact wpG_bind (wpG_rule (wpG_bind (wpG_mono h₁ (fun items s₂ h₂ => wpG_bind (wpG_mono h₂ (fun _ _ x => wpG_pure x) fun _ _ x => x)) fun _ _ x => x)))
theorem G_assign_Name {x pos v} {Q : Unit → Shared → Prop} (h : wpG M A (storeName env x v) Q E s) : wpG M A (assign (.Name x pos) env v) Q E s := by
  show wpG M A (do standAt pos; bindName env x v) Q E s
  exact wpG_bind (wpG_standAt (G_bindName h))
theorem G_inOrder_nil {xs : List Value} {Q : Unit → Shared → Prop} (h : Q () s) : wpG M A (assignInOrder [] xs) Q E s := wpG_pure h
theorem G_inOrder_cons {t : Value → Sem Unit} {ts : List (Value → Sem Unit)} {x : Value} {xs : List Value} {Q : Unit → Shared → Prop}
    (h : wpG M A (t x) (fun _ s₁ => wpG M A (assignInOrder ts xs) Q E s₁) E s) : wpG M A (assignInOrder (t :: ts) (x :: xs)) Q E s := by
  show wpG M A (do holding xs (t x); assignInOrder ts xs) Q E s
  exact wpG_bind (wpG_holding h)
end

section
variable {prog : Program} {w : World} {A : Around} {E : Value → Shared → Prop} {R : Result → Shared → Prop} {s : Shared}
theorem codeG_whileLoop {test body orelse env} (I : Nat → Shared → Prop)
    (turn : ∀ n s, I n s →
      wpG (model prog w) A (isTrue test env (eval test env)) (fun b s₂ =>
        if b then wpG (model prog w) A (execs body env) (fun f s₃ => match f with
            | .next | .cont => ∃ m, m < n ∧ I m s₃
            | .brk => R (.ok .next) s₃
            | .ret v => R (.ok (.ret v)) s₃) (notedG (model prog w) A env fun e s' => R (.error e) s') s₂
        else wpG (model prog w) A (execs orelse env) (fun f s₃ => R (.ok f) s₃) (notedG (model prog w) A env fun e s' => R (.error e) s') s₂)
        (notedG (model prog w) A env fun e s' => R (.error e) s') s)
    (n : Nat) (h : I n s) : codeG (model prog w) A (.whileLoop test body orelse env) R s := by
  refine codeG_loop' rfl rfl I (fun n s hI => ?_) n h
  show wpG _ A ((whileTurn test body orelse env).onRaise (fun x => do noteFrame x env; theTreesLotGoes x)) _ _ s
  refine wpG_noted ?_
  simp only [whileTurn]
  refine wpG_bind (wpG_mono (turn n s hI) (fun b s₂ h₂ => ?_) fun _ _ h' => h')
  cases b with
  | false =>
    simp only [Bool.false_eq_true, if_false] at h₂ ⊢
    exact wpG_bind (wpG_mono h₂ (fun f s₃ h₃ => wpG_pure h₃) fun _ _ h' => h')
  | true =>
    simp only [if_true] at h₂ ⊢
    refine wpG_bind (wpG_mono h₂ (fun f s₃ h₃ => ?_) fun _ _ h' => h')
    cases f with
    | next => exact wpG_pure (.inl ⟨rfl, h₃⟩)
    | cont => exact wpG_pure (.inl ⟨rfl, h₃⟩)
    | brk => exact wpG_pure h₃
    | ret v => exact wpG_pure h₃
theorem codeG_block {stmts : List Stmt} {env : Env} (h : wpG (model prog w) A (execs stmts env) (fun f s' => R (.ok f) s') (notedG (model prog w) A env fun e s' => R (.error e) s') s) :
    codeG (model prog w) A (.block stmts env) R s := by
  refine codeG_of_tree rfl ?_
  show wpG _ _ (do return Fin.done (← (execs stmts env).onRaise (fun x => do noteFrame x env; theTreesLotGoes x))) _ _ s
  exact wpG_bind (wpG_noted (wpG_mono h (fun f s' h' => wpG_pure h') fun _ _ h' => h'))
theorem codeG_forLoop {target it body orelse env} (I : Nat → Shared → Prop)
    (turn : ∀ n s, I n s → wpG (model prog w) A (pyNext it) (fun r s₁ => match r with
      | none => wpG (model prog w) A (execs orelse env) (fun f s₃ => R (.ok f) s₃) (notedG (model prog w) A env fun e s' => R (.error e) s') s₁
      | some v => wpG (model prog w) A (letOwnedTupleGo target it v) (fun _ s₁ => wpG (model prog w) A (assign target env v) (fun _ s₂ => wpG (model prog w) A (execs body env) (fun f s₃ => match f with
          | .next | .cont => ∃ m, m < n ∧ I m s₃
          | .brk => R (.ok .next) s₃
          | .ret v => R (.ok (.ret v)) s₃) (notedG (model prog w) A env fun e s' => R (.error e) s') s₂) (notedG (model prog w) A env fun e s' => R (.error e) s') s₁) (notedG (model prog w) A env fun e s' => R (.error e) s') s₁) (notedG (model prog w) A env fun e s' => R (.error e) s') s)
    (n : Nat) (h : I n s) : codeG (model prog w) A (.forLoop target it body orelse env) R s := by
  refine codeG_loop' rfl rfl I (fun n s hI => ?_) n h
  show wpG _ _ ((forTurn target it body orelse env).onRaise (fun x => do noteFrame x env; theTreesLotGoes x)) _ _ s
  refine wpG_noted ?_
  simp only [forTurn]
  refine wpG_bind (wpG_standAt (wpG_bind (wpG_onRaise (wpG_mono (turn n s hI) (fun r s₁ h₁ => ?_) fun _ _ h' => wpG_standAt h'))))
  cases r with
  | none => exact wpG_pure (.inr ⟨rfl, codeG_block h₁⟩)
  | some v =>
    refine wpG_bind (wpG_mono h₁ (fun _ s₁ h₁ => ?_) fun _ _ h' => h')
    refine wpG_bind (wpG_mono h₁ (fun _ s₂ h₂ => wpG_bind (wpG_mono h₂ (fun f s₃ h₃ => ?_) fun _ _ h' => h')) fun _ _ h' => h')
    cases f with
    | next => exact wpG_pure (.inl ⟨rfl, h₃⟩)
    | cont => exact wpG_pure (.inl ⟨rfl, h₃⟩)
    | brk => exact wpG_pure h₃
    | ret v => exact wpG_pure h₃
theorem codeG_func {body env}
    (h : wpG (model prog w) (A.deeper env) (execs body env) (fun f s' => R (.ok (.ret (match f with | .ret v => v | _ => .none))) s')
      (fun e s' => wpG (model prog w) (A.deeper env) (leaving env e) (fun _ s'' => R (.error e) s'') (fun e' s'' => R (.error e') s'') s') s) :
    codeG (model prog w) A (.func body env) R s := by
  refine codeG_of_tree rfl ?_
  show wpG _ (A.deeper env) (do point; match ← (execs body env).onRaise (leaving env) with | .ret v => ret v | _ => ret .none) _ _ s
  refine wpG_bind (wpG_point (wpG_bind (wpG_onRaise (wpG_mono h (fun f s' h' => ?_) fun _ _ h' => h'))))
  cases f <;> exact wpG_pure h'
theorem codeG_call_function {a : Addr} {args : Args} {o : Obj} {fd : FuncData} {body : List Stmt} (hroom : A.depth < recursionLimit)
    (ho : s.heap.get? a = some o)
    (hd' : o.data = .func fd) (hco : fd.scope.isCoroutine = false) (hgen : fd.scope.isGenerator = false) (hbody : fd.body = .stmts body) (hcd : s.heap.CodeRec fd.code fd.qualname)
    (h : wpG (model prog w) A.in1 (bindArgs fd args) (fun binds s₁ =>
      wpG (model prog w) A.in1 (newFunctionEnv fd.scope fd.globals fd.closure binds (fd.qualname ++ ".<locals>.") (some a) fd.code none fd.builtins)
        (fun env s₂ => s₂.heap.NoLimit ∧ codeG (model prog w) A (.func body env) R s₂) (fun e s' => R (.error e) s') s₁) (fun e s' => R (.error e) s') s) :
    codeG (model prog w) A (.call (.ref a) args) R s := by
  refine codeG_of_tree rfl ?_
  show wpG _ A.in1 (callAny (.ref a) args) _ _ s
  simp only [callAny]
  refine wpG_bind (.of (wpAny_load ho ?_))
  obtain ⟨c, oc, vs, tq, hc, hoc, hdc, hq⟩ := hcd
  simp only [hd', callFunction, hco, hgen, hbody, hc]
  rw [hc] at h
  refine wpG_bind (m := field (.ref c) 1) (.of (wpAny_field hoc hdc hq (wpG_bind (wpG_pure ?_))))
  exact wpG_bind (wpG_mono h (fun binds s₁ h₁ => wpG_bind (wpG_mono h₁ (fun env s₂ h₂ => wpG_bind (.of (wpAny_enterFrame h₂.1 hroom
    (wpG_pure (And.intro rfl h₂.2))))) fun _ _ h' => h')) fun _ _ h' => h')
theorem codeG_call_def {a : Addr} {o : Obj} {fd : FuncData} {body : List Stmt} {args : Args} {binds : List (Str × Value)}
    (hroom : A.depth < recursionLimit) (ho : s.heap.get? a = some o) (hdata : o.data = .func fd) (hlim : s.heap.NoLimit) (hcd : s.heap.CodeRec fd.code fd.qualname)
    (hbody : fd.body = .stmts body) (hbind : BindsTo s fd args binds)
    (hcell : ∀ x ∈ fd.scope.names, x.2 ≠ .cell) (hloc : ∀ x ∈ binds, fd.scope.names.lookup x.1 = some .local)
    (h : ∀ h₀, h₀.Ns s.heap.objs.size (fun x => binds.reverse.lookup x) → (∀ b o, s.heap.get? b = some o → h₀.get? b = some o) →
      wpG (model prog w) (A.deeper (callEnv fd s.heap.objs.size a)) (execs body (callEnv fd s.heap.objs.size a)) (fun f s' => R (.ok (.ret (match f with | .ret v => v | _ => .none))) s')
        (fun e s' => wpG (model prog w) (A.deeper (callEnv fd s.heap.objs.size a)) (leaving (callEnv fd s.heap.objs.size a) e) (fun _ s'' => R (.error e) s'') (fun e' s'' => R (.error e') s'') s')
        { s with heap := h₀, toks := s.toks + binds.length })
    (hco : fd.scope.isCoroutine = false := by rfl) (hgen : fd.scope.isGenerator = false := by rfl) (hk : fd.scope.kind = .function := by rfl) :
    codeG (model prog w) A (.call (.ref a) args) R s := by
  refine codeG_call_function hroom ho hdata hco hgen hbody hcd (.of (hbind _ _ _ _ ?_))
  refine .of (wpAny_newFunctionEnv hcell hloc (fun h₀ hns₀ hsb₀ => ⟨hlim.fresh _ hsb₀, codeG_func (h h₀ hns₀ fun b o e => ?_)⟩) hk)
  exact hsb₀.extBut b o (Nat.ne_of_lt (Heap.lt_size e)) (Heap.get?_push_of_some _ e)
end
end Mine

-- M1
set_option Elab.async false
set_option maxRecDepth 100000
set_option maxHeartbeats 1000000
set_option linter.all false
set_option genSizeOf false
set_option genInjectivity false
namespace Mine
open PySem PySem.W PySem.Calls PyProof.Rows PySem.Spec

inductive AV where
  | none | bool (b : Bool) | int (i : Int) | bytes (b : List UInt8) | str (s : Str) | tup (l : List AV) | lst (l : List AV) | bset (n : Nat) | rng (lo hi : Int) | ref (a : Addr)

inductive AO where
  | list (l : List AV) | hand (l : List AV) | ba (b : List UInt8) | dict (d : List (Int × Int)) | raw (P : Obj → Prop) | cell (c : Option AV)

mutual
inductive Is (fz : Heap) : AV → Value → Prop
  | none : Is fz .none .none
  | bool (b : Bool) : Is fz (.bool b) (.bool b)
  | int (i : Int) (t : Tok) : Is fz (.int i) (.int i t)
  | bytes (b : List UInt8) (t : Tok) : Is fz (.bytes b) (.bytes b.toArray t)
  | str (s : Str) (t : Tok) : Is fz (.str s) (.str s t)
  | tup (a : Addr) (l : List AV) (vs : List Value) : IsTup fz a vs.toArray → Iss fz l vs → Is fz (.tup l) (.ref a)
  | lst (a : Addr) (l : List AV) (vs : List Value) : fz.IsList a vs.toArray → Iss fz l vs → Is fz (.lst l) (.ref a)
  | bset (a : Addr) (n : Nat) (o : Obj) (es : Array (Int × Value)) (ep : Nat) (tb : SetTable) : fz.get? a = some o → o.cls = .type "set" → o.data = .set es ep tb → es.size = n → Is fz (.bset n) (.ref a)
  | rng (a : Addr) (lo hi : Int) (t u v : Tok) : IsRange fz a lo hi 1 t u v → Is fz (.rng lo hi) (.ref a)
  | ref (a : Addr) : Is fz (.ref a) (.ref a)
inductive Iss (fz : Heap) : List AV → List Value → Prop
  | nil : Iss fz [] []
  | cons (x : AV) (l : List AV) (v : Value) (vs : List Value) : Is fz x v → Iss fz l vs → Iss fz (x :: l) (v :: vs)
end

theorem Is.intE {fz : Heap} {i : Int} {v : Value} (h : Is fz (.int i) v) : ∃ t, v = .int i t := by cases h; exact ⟨_, rfl⟩
theorem Is.bytesE {fz : Heap} {b : List UInt8} {v : Value} (h : Is fz (.bytes b) v) : ∃ t, v = .bytes b.toArray t := by cases h; exact ⟨_, rfl⟩
theorem Is.strE {fz : Heap} {x : Str} {v : Value} (h : Is fz (.str x) v) : ∃ t, v = .str x t := by cases h; exact ⟨_, rfl⟩
theorem Is.boolE {fz : Heap} {b : Bool} {v : Value} (h : Is fz (.bool b) v) : v = .bool b := by cases h; rfl
theorem Is.noneE {fz : Heap} {v : Value} (h : Is fz .none v) : v = .none := by cases h; rfl
theorem Is.refE {fz : Heap} {a : Addr} {v : Value} (h : Is fz (.ref a) v) : v = .ref a := by cases h; rfl
theorem Iss.nilE {fz : Heap} {vs : List Value} (h : Iss fz [] vs) : vs = [] := by cases h; rfl
theorem Iss.consE {fz : Heap} {x : AV} {l : List AV} {vs : List Value} (h : Iss fz (x :: l) vs) : ∃ v us, vs = v :: us ∧ Is fz x v ∧ Iss fz l us := by cases h with | cons _ _ v us h1 h2 => exact ⟨v, us, rfl, h1, h2⟩

theorem Iss.elimC {fz : Heap} {x : AV} {l : List AV} {motive : ∀ vs : List Value, Iss fz (x :: l) vs → Prop} (cons : ∀ (_ _ : Unit) (v : Value) (us : List Value) (h1 : Is fz x v) (h2 : Iss fz l us), motive (v :: us) (.cons _ _ _ _ h1 h2)) {vs : List Value} (h : Iss fz (x :: l) vs) : motive vs h := by
  cases h with | cons _ _ v us h1 h2 => exact cons () () v us h1 h2
theorem Is.elimL {fz : Heap} {l : List AV} {motive : ∀ v : Value, Is fz (.lst l) v → Prop} (lst : ∀ (a : Addr) (_ : Unit) (vs : List Value) (h1 : fz.IsList a vs.toArray) (h2 : Iss fz l vs), motive (.ref a) (.lst _ _ _ h1 h2)) {v : Value} (h : Is fz (.lst l) v) : motive v h := by
  cases h with | lst a _ vs h1 h2 => exact lst a () vs h1 h2
theorem Is.elimT {fz : Heap} {l : List AV} {motive : ∀ v : Value, Is fz (.tup l) v → Prop} (tup : ∀ (a : Addr) (_ : Unit) (vs : List Value) (h1 : IsTup fz a vs.toArray) (h2 : Iss fz l vs), motive (.ref a) (.tup _ _ _ h1 h2)) {v : Value} (h : Is fz (.tup l) v) : motive v h := by
  cases h with | tup a _ vs h1 h2 => exact tup a () vs h1 h2
theorem Is.elimB {fz : Heap} {b : List UInt8} {motive : ∀ v : Value, Is fz (.bytes b) v → Prop} (bytes : ∀ (_ : Unit) (t : Tok), motive (.bytes b.toArray t) (.bytes _ t)) {v : Value} (h : Is fz (.bytes b) v) : motive v h := by
  cases h with | bytes _ t => exact bytes () t
theorem Is.elimI {fz : Heap} {i : Int} {motive : ∀ v : Value, Is fz (.int i) v → Prop} (int : ∀ (_ : Unit) (t : Tok), motive (.int i t) (.int _ t)) {v : Value} (h : Is fz (.int i) v) : motive v h := by
  cases h with | int _ t => exact int () t

theorem Is.mono {fz fz' : Heap} (k : fz.StaysIn fz') {x : AV} {v : Value} (h : Is fz x v) : Is fz' x v :=
  Is.rec (motive_1 := fun x v _ => Is fz' x v) (motive_2 := fun x v _ => Iss fz' x v) .none (fun b => .bool b) (fun i t => .int i t) (fun b t => .bytes b t) (fun s t => .str s t) (fun a l vs h1 _ h2 => .tup a l vs (stays_tup k h1) h2) (fun a l vs h1 _ h2 => .lst a l vs (stays_list k h1) h2)
    (fun a n o es ep tb h1 h2 h3 h4 => .bset a n o es ep tb (k _ _ h1) h2 h3 h4) (fun a lo hi t u v h1 => .rng a lo hi t u v (k _ _ h1)) (fun a => .ref a) .nil (fun x l v vs _ _ h1 h2 => .cons x l v vs h1 h2) h
theorem Iss.mono {fz fz' : Heap} (k : fz.StaysIn fz') {x : List AV} {v : List Value} (h : Iss fz x v) : Iss fz' x v :=
  Iss.rec (motive_1 := fun x v _ => Is fz' x v) (motive_2 := fun x v _ => Iss fz' x v) .none (fun b => .bool b) (fun i t => .int i t) (fun b t => .bytes b t) (fun s t => .str s t) (fun a l vs h1 _ h2 => .tup a l vs (stays_tup k h1) h2) (fun a l vs h1 _ h2 => .lst a l vs (stays_list k h1) h2)
    (fun a n o es ep tb h1 h2 h3 h4 => .bset a n o es ep tb (k _ _ h1) h2 h3 h4) (fun a lo hi t u v h1 => .rng a lo hi t u v (k _ _ h1)) (fun a => .ref a) .nil (fun x l v vs _ _ h1 h2 => .cons x l v vs h1 h2) h

theorem Iss.length {fz : Heap} {x : List AV} {v : List Value} (h : Iss fz x v) : x.length = v.length := by
  induction x generalizing v with
  | nil => rw [h.nilE]; rfl
  | cons a l ih => obtain ⟨u, us, rfl, _, h2⟩ := h.consE; exact congrArg (· + 1) (ih h2)
theorem Iss.get {fz : Heap} {x : List AV} {v : List Value} {i : Nat} {a : AV} (h : Iss fz x v) (e : x[i]? = some a) : ∃ y, v[i]? = some y ∧ Is fz a y := by
  induction x generalizing v i with
  | nil => cases e
  | cons b l ih =>
    obtain ⟨u, us, rfl, h1, h2⟩ := h.consE
    cases i with
    | zero => cases e; exact ⟨u, rfl, h1⟩
    | succ i => exact ih (i := i) h2 e
theorem Iss.append {fz : Heap} {x y : List AV} {v w : List Value} (h : Iss fz x v) (h' : Iss fz y w) : Iss fz (x ++ y) (v ++ w) := by
  induction x generalizing v with
  | nil => rw [h.nilE]; exact h'
  | cons b l ih => obtain ⟨u, us, rfl, h1, h2⟩ := h.consE; exact .cons _ _ _ _ h1 (ih h2)
theorem Iss.set {fz : Heap} {a : AV} {y : Value} (k : Is fz a y) {x : List AV} {v : List Value} {i : Nat} (h : Iss fz x v) : Iss fz (x.set i a) (v.set i y) := by
  induction x generalizing v i with
  | nil => rw [h.nilE]; exact .nil
  | cons b l ih =>
    obtain ⟨u, us, rfl, h1, h2⟩ := h.consE
    cases i with
    | zero => exact .cons _ _ _ _ k h2
    | succ i => exact .cons _ _ _ _ h1 (ih h2)
theorem Iss.take {fz : Heap} {x : List AV} {v : List Value} {i : Nat} (h : Iss fz x v) : Iss fz (x.take i) (v.take i) := by
  induction x generalizing v i with
  | nil => rw [h.nilE, List.take_nil, List.take_nil]; exact .nil
  | cons b l ih =>
    obtain ⟨u, us, rfl, h1, h2⟩ := h.consE
    cases i with
    | zero => exact .nil
    | succ i => exact .cons _ _ _ _ h1 (ih h2)

/-- entries of a dict with int keys -/
inductive KV : List (Int × Int) → List (Int × Value) → Prop
  | nil : KV [] []
  | cons (k v : Int) (t : Tok) (l : List (Int × Int)) (es : List (Int × Value)) : KV l es → KV ((k, v) :: l) ((k, .int v t) :: es)
noncomputable def getI (d : List (Int × Int)) (k : Int) : Option Int := (d.find? fun kv => kv.1 = k).map (·.2)
noncomputable def setI (d : List (Int × Int)) (k v : Int) : List (Int × Int) :=
  if d.any (fun kv => kv.1 = k) then d.map (fun kv => if kv.1 = k then (kv.1, v) else kv) else d ++ [(k, v)]
theorem KV.length {d : List (Int × Int)} {l : List (Int × Value)} (h : KV d l) : d.length = l.length := by induction h with | nil => rfl | cons _ _ _ _ _ _ ih => simp [ih]
theorem KV.any {d : List (Int × Int)} {l : List (Int × Value)} (h : KV d l) (k : Int) : d.any (fun kv => kv.1 = k) = l.any (fun kv => kv.1 = k) := by induction h with | nil => rfl | cons _ _ _ _ _ _ ih => simp [ih]
theorem KV.map {d : List (Int × Int)} {l : List (Int × Value)} (h : KV d l) (k v : Int) (t : Tok) : KV (d.map (fun kv => if kv.1 = k then (kv.1, v) else kv)) (l.map (fun kv => if kv.1 = k then (kv.1, .int v t) else kv)) := by
  induction h with
  | nil => exact .nil
  | cons k' v' t' _ _ _ ih =>
    simp only [List.map_cons]
    split
    · exact .cons _ _ _ _ _ ih
    · exact .cons _ _ _ _ _ ih
theorem KV.snoc {d : List (Int × Int)} {l : List (Int × Value)} (h : KV d l) (k v : Int) (t : Tok) : KV (d ++ [(k, v)]) (l ++ [(k, .int v t)]) := by
  induction h with
  | nil => exact .cons _ _ _ _ _ .nil
  | cons k' v' t' _ _ _ ih => exact .cons _ _ _ _ _ ih
theorem KV.set {d : List (Int × Int)} {l : List (Int × Value)} (h : KV d l) (k v : Int) (t : Tok) : KV (setI d k v) (stored l k (.int v t)) := by
  unfold setI stored
  rw [h.any k]
  split
  · exact h.map k v t
  · exact h.snoc k v t
theorem KV.get {d : List (Int × Int)} {l : List (Int × Value)} (h : KV d l) (k : Int) : (getI d k = none ∧ valueAt l k = none) ∨ ∃ v t, getI d k = some v ∧ valueAt l k = some (.int v t) := by
  unfold getI valueAt
  induction h with
  | nil => exact .inl ⟨rfl, rfl⟩
  | cons k' v' t' _ _ _ ih =>
    by_cases e : k' = k
    · right; exact ⟨v', t', by simp [e], by simp [e]⟩
    · simpa [e] using ih

inductive IsOpt (fz : Heap) : Option AV → Option Value → Prop
  | none : IsOpt fz none none
  | some (a : AV) (v : Value) : Is fz a v → IsOpt fz (some a) (some v)
noncomputable def Holds (fz h : Heap) (a : Addr) : AO → Prop
  | .list l => ∃ vs, h.PlainList a vs.toArray ∧ Iss fz l vs
  | .hand l => ∃ vs, h.IsList a vs.toArray ∧ Iss fz l vs
  | .ba b => ∃ sl, h.get? a = some { cls := .type "bytearray", data := .bytearray b.toArray 0, slots := sl }
  | .dict d => ∃ kvs, (∀ p w, h.DictOf (intKind p w) a kvs) ∧ KV d kvs ∧ ∃ ob, h.get? a = some ob
  | .raw P => ∃ o, h.get? a = some o ∧ P o
  | .cell c => ∃ o v, h.get? a = some o ∧ o.data = .cell v ∧ IsOpt fz c v

theorem Holds.mono {fz fz' h : Heap} {a : Addr} {o : AO} (k : fz.StaysIn fz') (x : Holds fz h a o) : Holds fz' h a o := by
  cases o with
  | list l => obtain ⟨vs, h1, h2⟩ := x; exact ⟨vs, h1, h2.mono k⟩
  | hand l => obtain ⟨vs, h1, h2⟩ := x; exact ⟨vs, h1, h2.mono k⟩
  | ba b => exact x
  | dict d => exact x
  | raw o => exact x
  | cell c =>
    obtain ⟨o, v, h1, h2, h3⟩ := x
    refine ⟨o, v, h1, h2, ?_⟩
    cases h3 with
    | none => exact .none
    | some a v i => exact .some a v (i.mono k)
theorem Holds.at {fz h h' : Heap} {a : Addr} {o : AO} (k : ∀ ob, h.get? a = some ob → h'.get? a = some ob) (x : Holds fz h a o) : Holds fz h' a o := by
  cases o with
  | list l => obtain ⟨vs, ⟨n, ho⟩, h2⟩ := x; exact ⟨vs, ⟨n, k _ ho⟩, h2⟩
  | hand l => obtain ⟨vs, ⟨ob, ho, h1⟩, h2⟩ := x; exact ⟨vs, ⟨ob, k _ ho, h1⟩, h2⟩
  | ba b => obtain ⟨sl, h1⟩ := x; exact ⟨sl, k _ h1⟩
  | dict d =>
    obtain ⟨kvs, h1, h2, ob, h3⟩ := x
    exact ⟨kvs, fun p w => let ⟨o, es, ep, ho, r⟩ := h1 p w; ⟨o, es, ep, k _ ho, r⟩, h2, ob, k _ h3⟩
  | raw P => obtain ⟨o, h1, h2⟩ := x; exact ⟨o, k _ h1, h2⟩
  | cell c => obtain ⟨o, v, h1, h2, h3⟩ := x; exact ⟨o, v, k _ h1, h2, h3⟩
theorem Holds.there {fz h : Heap} {a : Addr} {o : AO} (x : Holds fz h a o) : ∃ ob, h.get? a = some ob := by
  cases o with
  | list l => obtain ⟨vs, ⟨n, ho⟩, h2⟩ := x; exact ⟨_, ho⟩
  | hand l => obtain ⟨vs, ⟨ob, ho, h1⟩, h2⟩ := x; exact ⟨ob, ho⟩
  | ba b => obtain ⟨sl, h1⟩ := x; exact ⟨_, h1⟩
  | dict d => obtain ⟨kvs, h1, h2, ob, h3⟩ := x; exact ⟨_, h3⟩
  | raw P => obtain ⟨o, h1, h2⟩ := x; exact ⟨_, h1⟩
  | cell c => obtain ⟨o, v, h1, h2, h3⟩ := x; exact ⟨_, h1⟩

abbrev Sto := List (Addr × AO)
abbrev Loc := List (Str × AV)

/-- an activation: where a body runs -/
structure Act where
  prog : Program
  w : World
  A : Around
  env : Env
  b : Heap
  kp : Heap
  os : OsState
  E : Value → Shared → Prop

/-- what is tracked, what is frozen, what is kept -/
structure Mem (b kp fz : Heap) (σ : Sto) (os : OsState) (s : Shared) : Prop where
  bfz : b.StaysIn fz
  fzh : fz.StaysIn s.heap
  kph : kp.StaysIn s.heap
  trk : ∀ p ∈ σ, Holds fz s.heap p.1 p.2 ∧ fz.get? p.1 = none ∧ kp.get? p.1 = none
  nodup : (σ.map (·.1)).Nodup
  gens : s.gens = #[]
  os : s.os = os

structure St (C : Act) (fz : Heap) (m : Str → Option Value) (σ : Sto) (s : Shared) : Prop where
  mem : Mem C.b C.kp fz σ C.os s
  ns : s.heap.Ns C.env.locals m
  Lfz : fz.get? C.env.locals = none
  Lkp : C.kp.get? C.env.locals = none
  Lσ : ∀ p ∈ σ, p.1 ≠ C.env.locals

noncomputable def Ext (kp fz fz' : Heap) : Prop := fz.StaysIn fz' ∧ ∀ a o, kp.get? a = some o → fz.get? a = none → fz'.get? a = none
theorem Ext.refl (kp fz : Heap) : Ext kp fz fz := ⟨fun _ _ e => e, fun _ _ _ e => e⟩
theorem Ext.trans {kp f g h : Heap} (x : Ext kp f g) (y : Ext kp g h) : Ext kp f h :=
  ⟨fun a o e => y.1 a o (x.1 a o e), fun a o e n => y.2 a o e (x.2 a o e n)⟩

noncomputable def RhoOk (fz : Heap) (ρ : Loc) (m : Str → Option Value) : Prop := ∀ x av, ρ.lookup x = some av → ∃ v, m x = some v ∧ Is fz av v
theorem RhoOk.mono {fz fz' : Heap} {ρ : Loc} {m : Str → Option Value} (k : fz.StaysIn fz') (x : RhoOk fz ρ m) : RhoOk fz' ρ m := fun y av e =>
  let ⟨v, h1, h2⟩ := x y av e; ⟨v, h1, h2.mono k⟩
theorem RhoOk.set {fz : Heap} {ρ : Loc} {m : Str → Option Value} {x : Str} {av : AV} {v : Value} (k : RhoOk fz ρ m) (h : Is fz av v) :
    RhoOk fz ((x, av) :: ρ) (fun y => if y = x then some v else m y) := by
  intro y bv e
  rw [List.lookup_cons] at e
  by_cases hy : y = x
  · subst hy; simp at e; subst e; exact ⟨v, by simp, h⟩
  · have hb : (y == x) = false := beq_eq_false_iff_ne.mpr hy
    rw [hb] at e
    obtain ⟨u, h1, h2⟩ := k y bv e
    exact ⟨u, by simp [hy, h1], h2⟩

/-- lookup of a name among the locals -/
inductive Lk : Loc → Str → AV → Prop
  | here {x : Str} {av : AV} {ρ : Loc} : Lk ((x, av) :: ρ) x av
  | there {x y : Str} {av bv : AV} {ρ : Loc} : x ≠ y → Lk ρ x av → Lk ((y, bv) :: ρ) x av
theorem Lk.eq {ρ : Loc} {x : Str} {av : AV} (h : Lk ρ x av) : ρ.lookup x = some av := by
  induction h with
  | here => simp [List.lookup_cons]
  | there hn _ ih => rw [List.lookup_cons, beq_eq_false_iff_ne.mpr hn]; exact ih
theorem lk_there {x y : Str} {av bv : AV} {ρ : Loc} (h : decide (x = y) = false) (k : Lk ρ x av) : Lk ((y, bv) :: ρ) x av := .there (of_decide_eq_false h) k
inductive Sub : Loc → Loc → Prop
  | nil {ρ : Loc} : Sub [] ρ
  | cons {x : Str} {av : AV} {ρ' ρ : Loc} : Lk ρ x av → Sub ρ' ρ → Sub ((x, av) :: ρ') ρ
theorem Sub.eq {ρ' ρ : Loc} (h : Sub ρ' ρ) : ∀ x av, ρ'.lookup x = some av → ρ.lookup x = some av := by
  induction h with
  | nil => intro x av e; cases e
  | cons h1 _ ih =>
    intro x av e
    rw [List.lookup_cons] at e
    split at e
    · rename_i hx; cases e; rw [beq_iff_eq.mp hx]; exact h1.eq
    · exact ih x av e
theorem lk_heq {x : Str} {av bv : AV} {ρ : Loc} (h : bv = av) : Lk ((x, bv) :: ρ) x av := h ▸ .here
theorem RhoOk.sub {fz : Heap} {ρ ρ' : Loc} {m : Str → Option Value} (k : RhoOk fz ρ m) (h : Sub ρ' ρ) : RhoOk fz ρ' m := fun x av e => k x av (h.eq x av e)

abbrev Act.M (C : Act) : Model := model C.prog C.w

/-- what an expression leaves -/
noncomputable def EvPost (C : Act) (fz : Heap) (m : Str → Option Value) (Q : AV → Sto → Prop) (v : Value) (s' : Shared) : Prop :=
  ∃ fz' av σ', Ext C.kp fz fz' ∧ St C fz' m σ' s' ∧ Is fz' av v ∧ Q av σ'
noncomputable def EvAt (C : Act) (t : Sem Value) (fz : Heap) (m : Str → Option Value) (s : Shared) (Q : AV → Sto → Prop) : Prop :=
  wpG C.M C.A t (EvPost C fz m Q) C.E s
theorem EvPost.ext {C : Act} {fz fz' : Heap} {m : Str → Option Value} {Q : AV → Sto → Prop} {v : Value} {s' : Shared} (x : Ext C.kp fz fz') (h : EvPost C fz' m Q v s') : EvPost C fz m Q v s' :=
  let ⟨f, av, σ', y, r⟩ := h; ⟨f, av, σ', x.trans y, r⟩
theorem EvAt.ext {C : Act} {t : Sem Value} {fz fz' : Heap} {m : Str → Option Value} {s : Shared} {Q : AV → Sto → Prop} (x : Ext C.kp fz fz') (h : EvAt C t fz' m s Q) : EvAt C t fz m s Q :=
  wpG_mono h (fun _ _ => EvPost.ext x) fun _ _ e => e
noncomputable def Ev (C : Act) (e : Expr) (ρ : Loc) (σ : Sto) (Q : AV → Sto → Prop) : Prop :=
  ∀ fz m s, St C fz m σ s → RhoOk fz ρ m → EvAt C (eval e C.env) fz m s Q
/-- a term of the tree over values at hand -/
noncomputable def Op (C : Act) (t : Sem Value) (fz : Heap) (σ : Sto) (Q : AV → Sto → Prop) : Prop :=
  ∀ m s, St C fz m σ s → EvAt C t fz m s Q
noncomputable def Tst (C : Act) (e : Expr) (ρ : Loc) (σ : Sto) (Q : Bool → Sto → Prop) : Prop :=
  ∀ fz m s, St C fz m σ s → RhoOk fz ρ m → wpG C.M C.A (isTrue e C.env (eval e C.env)) (fun v s' => ∃ fz' σ', Ext C.kp fz fz' ∧ St C fz' m σ' s' ∧ Q v σ') C.E s
noncomputable def FlowPost (C : Act) (fz : Heap) (Q : Loc → Sto → Prop) (R : AV → Sto → Prop) (f : Flow) (s' : Shared) : Prop :=
  ∃ fz' m' σ', Ext C.kp fz fz' ∧ St C fz' m' σ' s' ∧ (match f with
    | .next => ∃ ρ', RhoOk fz' ρ' m' ∧ Q ρ' σ'
    | .ret v => ∃ av, Is fz' av v ∧ R av σ'
    | _ => False)
noncomputable def Ex (C : Act) (st : Stmt) (ρ : Loc) (σ : Sto) (Q : Loc → Sto → Prop) (R : AV → Sto → Prop) : Prop :=
  ∀ fz m s, St C fz m σ s → RhoOk fz ρ m → wpG C.M C.A (exec st C.env) (FlowPost C fz Q R) C.E s
noncomputable def Exs (C : Act) (st : List Stmt) (ρ : Loc) (σ : Sto) (Q : Loc → Sto → Prop) (R : AV → Sto → Prop) : Prop :=
  ∀ fz m s, St C fz m σ s → RhoOk fz ρ m → wpG C.M C.A (execs st C.env) (FlowPost C fz Q R) C.E s

section
variable {C : Act} {ρ : Loc} {σ : Sto} {Q : AV → Sto → Prop}

theorem St.toks {fz : Heap} {m : Str → Option Value} {σ : Sto} {s : Shared} (S : St C fz m σ s) (k : Nat) : St C fz m σ { s with toks := k } :=
  ⟨⟨S.mem.bfz, S.mem.fzh, S.mem.kph, S.mem.trk, S.mem.nodup, S.mem.gens, S.mem.os⟩, S.ns, S.Lfz, S.Lkp, S.Lσ⟩
/-- the heap may grow -/
theorem Mem.grow {b kp fz : Heap} {σ : Sto} {os : OsState} {s s' : Shared} (S : Mem b kp fz σ os s) (k : s.heap.StaysIn s'.heap) (hg : s'.gens = s.gens) (ho : s'.os = s.os) : Mem b kp fz σ os s' :=
  ⟨S.bfz, fun a o e => k a o (S.fzh a o e), fun a o e => k a o (S.kph a o e), fun p hp => ⟨(S.trk p hp).1.at (k _), (S.trk p hp).2⟩, S.nodup, hg.trans S.gens, ho.trans S.os⟩
theorem ns_grow {h h' : Heap} {L : Addr} {m : Str → Option Value} (n : h.Ns L m) (k : h.StaysIn h') : h'.Ns L m := by
  obtain ⟨o, es, ep, ho, r⟩ := n; exact ⟨o, es, ep, k _ _ ho, r⟩
theorem St.grow {fz : Heap} {m : Str → Option Value} {σ : Sto} {s s' : Shared} (S : St C fz m σ s) (k : s.heap.StaysIn s'.heap) (hg : s'.gens = s.gens := by kernel_rfl) (ho : s'.os = s.os := by kernel_rfl) : St C fz m σ s' :=
  ⟨S.mem.grow k hg ho, ns_grow S.ns k, S.Lfz, S.Lkp, S.Lσ⟩

theorem Ev.mono {e : Expr} {Q' : AV → Sto → Prop} (h : Ev C e ρ σ Q) (hq : ∀ v σ, Q v σ → Q' v σ) : Ev C e ρ σ Q' := fun fz m s S P =>
  wpG_mono (h fz m s S P) (fun v s' ⟨fz', av, σ', x, S', i, q⟩ => ⟨fz', av, σ', x, S', i, hq _ _ q⟩) fun _ _ x => x
theorem Tst.mono {e : Expr} {Q Q' : Bool → Sto → Prop} (h : Tst C e ρ σ Q) (hq : ∀ v σ, Q v σ → Q' v σ) : Tst C e ρ σ Q' := fun fz m s S P =>
  wpG_mono (h fz m s S P) (fun v s' ⟨fz', σ', x, S', q⟩ => ⟨fz', σ', x, S', hq _ _ q⟩) fun _ _ x => x
theorem Ex.mono {e : Stmt} {Q Q' : Loc → Sto → Prop} {R R' : AV → Sto → Prop} (h : Ex C e ρ σ Q R) (hq : ∀ v σ, Q v σ → Q' v σ) (hr : ∀ v σ, R v σ → R' v σ) : Ex C e ρ σ Q' R' := fun fz m s S P =>
  wpG_mono (h fz m s S P) (fun f s' ⟨fz', m', σ', x, S', q⟩ => ⟨fz', m', σ', x, S', by
    cases f with
    | next => obtain ⟨ρ', h1, h2⟩ := q; exact ⟨ρ', h1, hq _ _ h2⟩
    | ret v => obtain ⟨av, h1, h2⟩ := q; exact ⟨av, h1, hr _ _ h2⟩
    | _ => exact q⟩) fun _ _ x => x
theorem Exs.mono {e : List Stmt} {Q Q' : Loc → Sto → Prop} {R R' : AV → Sto → Prop} (h : Exs C e ρ σ Q R) (hq : ∀ v σ, Q v σ → Q' v σ) (hr : ∀ v σ, R v σ → R' v σ) : Exs C e ρ σ Q' R' := fun fz m s S P =>
  wpG_mono (h fz m s S P) (fun f s' ⟨fz', m', σ', x, S', q⟩ => ⟨fz', m', σ', x, S', by
    cases f with
    | next => obtain ⟨ρ', h1, h2⟩ := q; exact ⟨ρ', h1, hq _ _ h2⟩
    | ret v => obtain ⟨av, h1, h2⟩ := q; exact ⟨av, h1, hr _ _ h2⟩
    | _ => exact q⟩) fun _ _ x => x

/-- a step: the value of one term, then what stands behind it -/
theorem EvAt.step {t : Sem Value} {fz : Heap} {m : Str → Option Value} {s : Shared} {Q₁ : AV → Sto → Prop} {P : Value → Shared → Prop} (h : EvAt C t fz m s Q₁)
    (hk : ∀ fz' av v σ' s', Ext C.kp fz fz' → St C fz' m σ' s' → Is fz' av v → Q₁ av σ' → P v s') : wpG C.M C.A t P C.E s :=
  wpG_mono h (fun v s' ⟨fz', av, σ', x, S', i, q⟩ => hk fz' av v σ' s' x S' i q) fun _ _ x => x

-- constants and names
theorem E_int {i : Int} {k pos} (h : Q (.int i) σ) : Ev C (.Constant (.int i) k pos) ρ σ Q := fun fz m s S P =>
  .of <| wpAny_Constant_int ⟨fz, .int i, σ, Ext.refl _ _, S.toks _, .int _ _, h⟩
theorem E_bool {c : Bool} {k pos} (h : Q (.bool c) σ) : Ev C (.Constant (.bool c) k pos) ρ σ Q := fun fz m s S P =>
  .of <| Constant_bool ⟨fz, .bool c, σ, Ext.refl _ _, S, .bool _, h⟩
theorem E_none {k pos} (h : Q .none σ) : Ev C (.Constant .none k pos) ρ σ Q := fun fz m s S P =>
  .of <| Constant_none ⟨fz, .none, σ, Ext.refl _ _, S, .none, h⟩
theorem E_name {x : Str} {pos} {av : AV} (hl : Lk ρ x av) (h : Q av σ) (hk : C.env.scope.kind = .function := by kernel_rfl) (hx : C.env.kindOf x = some .local := by kernel_rfl) (hd : (x == ("__debug__" : Str)) = false := by decide) :
    Ev C (.Name x pos) ρ σ Q := fun fz m s S P => by
  obtain ⟨v, h1, h2⟩ := P x av hl.eq
  exact .of <| wpAny_Name (wpAny_loadName_local hk hx S.ns h1 ⟨fz, av, σ, Ext.refl _ _, S, h2, h⟩) hd

/-- lookup, with what stands behind it -/
noncomputable def LkQ (ρ : Loc) (x : Str) (P : AV → Prop) : Prop := ∃ av, Lk ρ x av ∧ P av
theorem lkq_here {x : Str} {av : AV} {ρ : Loc} {P : AV → Prop} (h : P av) : LkQ ((x, av) :: ρ) x P := ⟨av, .here, h⟩
theorem lkq_there {x y : Str} {bv : AV} {ρ : Loc} {P : AV → Prop} (n : decide (x = y) = false) (h : LkQ ρ x P) : LkQ ((y, bv) :: ρ) x P :=
  let ⟨av, k, p⟩ := h; ⟨av, lk_there n k, p⟩
theorem E_nm {x : Str} {pos} (h : LkQ ρ x fun av => Q av σ) (hk : C.env.scope.kind = .function := by kernel_rfl) (hx : C.env.kindOf x = some .local := by kernel_rfl) (hd : (x == ("__debug__" : Str)) = false := by decide) :
    Ev C (.Name x pos) ρ σ Q := let ⟨_, k, p⟩ := h; E_name k p hk hx hd
-- binary operators
theorem E_bin {op l r pos} (h : Ev C l ρ σ fun a σ₁ => Ev C r ρ σ₁ fun b σ₂ => ∀ fz u v, Is fz a u → Is fz b v → Op C (binaryOp op u v) fz σ₂ Q) : Ev C (.BinOp l op r pos) ρ σ Q := fun fz m s S P => by
  refine G_BinOp ((h fz m s S P).step fun fz₁ a u σ₁ s₁ x₁ S₁ i₁ h₁ => ?_)
  refine (h₁ fz₁ m s₁ S₁ (P.mono x₁.1)).step fun fz₂ b v σ₂ s₂ x₂ S₂ i₂ h₂ => ?_
  exact (h₂ fz₂ u v (i₁.mono x₂.1) i₂ m s₂ S₂).ext (x₁.trans x₂)
end
end Mine

-- M2
set_option Elab.async false
set_option maxRecDepth 100000
set_option maxHeartbeats 1000000
set_option linter.all false
namespace Mine
open PySem PySem.W PySem.Calls PyProof.Rows PySem.Spec

/-- a binary operator over two abstract values -/
noncomputable def Bin (C : Act) (op : Operator) (a b : AV) (σ : Sto) (Q : AV → Sto → Prop) : Prop := ∀ fz u v, Is fz a u → Is fz b v → Op C (binaryOp op u v) fz σ Q
noncomputable def Cmp (C : Act) (op : CmpOp) (a b : AV) (σ : Sto) (Q : AV → Sto → Prop) : Prop := ∀ fz u v, Is fz a u → Is fz b v → Op C (compareOp op u v) fz σ Q
noncomputable def Tru (C : Act) (a : AV) (σ : Sto) (Q : Bool → Sto → Prop) : Prop :=
  ∀ fz u m s, Is fz a u → St C fz m σ s → wpG C.M C.A (truthy u) (fun v s' => ∃ fz' σ', Ext C.kp fz fz' ∧ St C fz' m σ' s' ∧ Q v σ') C.E s

section
variable {C : Act} {ρ : Loc} {σ : Sto} {Q : AV → Sto → Prop} {T : Bool → Sto → Prop}

theorem E_BinOp {op l r pos} (h : Ev C l ρ σ fun a σ₁ => Ev C r ρ σ₁ fun b σ₂ => Bin C op a b σ₂ Q) : Ev C (.BinOp l op r pos) ρ σ Q :=
  E_bin (h.mono fun a σ₁ h₁ => h₁.mono fun b σ₂ h₂ => fun fz u v i j => h₂ fz u v i j)

theorem here {fz : Heap} {m : Str → Option Value} {s' : Shared} {v : Value} {av : AV} {σ' : Sto} (S : St C fz m σ' s') (i : Is fz av v) (q : Q av σ') : EvPost C fz m Q v s' := ⟨fz, av, σ', Ext.refl _ _, S, i, q⟩
theorem hereT {fz : Heap} {m : Str → Option Value} {s' : Shared} {v : Bool} {σ' : Sto} (S : St C fz m σ' s') (q : T v σ') : ∃ fz' σ', Ext C.kp fz fz' ∧ St C fz' m σ' s' ∧ T v σ' := ⟨fz, σ', Ext.refl _ _, S, q⟩

-- ints
theorem B_add {a b : Int} (h : Q (.int (a + b)) σ) : Bin C .Add (.int a) (.int b) σ Q := fun fz u v i j m s S => by
  (first | obtain ⟨_, rfl⟩ := Is.intE i | obtain ⟨_, rfl⟩ := Is.bytesE i | obtain rfl := Is.refE i | obtain rfl := Is.boolE i | obtain rfl := Iss.nilE i | obtain rfl := Is.noneE i | obtain ⟨_, rfl⟩ := Is.strE i | cases i); (first | obtain ⟨_, rfl⟩ := Is.intE j | obtain ⟨_, rfl⟩ := Is.bytesE j | obtain rfl := Is.refE j | obtain rfl := Is.boolE j | obtain rfl := Iss.nilE j | obtain rfl := Is.noneE j | obtain ⟨_, rfl⟩ := Is.strE j | cases j); exact .of <| add_int (here (S.toks _) (.int _ _) h)
theorem B_sub {a b : Int} (h : Q (.int (a - b)) σ) : Bin C .Sub (.int a) (.int b) σ Q := fun fz u v i j m s S => by
  (first | obtain ⟨_, rfl⟩ := Is.intE i | obtain ⟨_, rfl⟩ := Is.bytesE i | obtain rfl := Is.refE i | obtain rfl := Is.boolE i | obtain rfl := Iss.nilE i | obtain rfl := Is.noneE i | obtain ⟨_, rfl⟩ := Is.strE i | cases i); (first | obtain ⟨_, rfl⟩ := Is.intE j | obtain ⟨_, rfl⟩ := Is.bytesE j | obtain rfl := Is.refE j | obtain rfl := Is.boolE j | obtain rfl := Iss.nilE j | obtain rfl := Is.noneE j | obtain ⟨_, rfl⟩ := Is.strE j | cases j); exact .of <| sub_int (here (S.toks _) (.int _ _) h)
theorem B_mul {a b : Int} (hm : IntMulOk a b) (h : Q (.int (a * b)) σ) : Bin C .Mult (.int a) (.int b) σ Q := fun fz u v i j m s S => by
  (first | obtain ⟨_, rfl⟩ := Is.intE i | obtain ⟨_, rfl⟩ := Is.bytesE i | obtain rfl := Is.refE i | obtain rfl := Is.boolE i | obtain rfl := Iss.nilE i | obtain rfl := Is.noneE i | obtain ⟨_, rfl⟩ := Is.strE i | cases i); (first | obtain ⟨_, rfl⟩ := Is.intE j | obtain ⟨_, rfl⟩ := Is.bytesE j | obtain rfl := Is.refE j | obtain rfl := Is.boolE j | obtain rfl := Iss.nilE j | obtain rfl := Is.noneE j | obtain ⟨_, rfl⟩ := Is.strE j | cases j); exact .of <| PySem.P.mul_int (here (S.toks _) (.int _ _) h) hm
theorem B_and {a b : Int} (h : Q (.int (Builtin.bitAnd a b)) σ) : Bin C .BitAnd (.int a) (.int b) σ Q := fun fz u v i j m s S => by
  (first | obtain ⟨_, rfl⟩ := Is.intE i | obtain ⟨_, rfl⟩ := Is.bytesE i | obtain rfl := Is.refE i | obtain rfl := Is.boolE i | obtain rfl := Iss.nilE i | obtain rfl := Is.noneE i | obtain ⟨_, rfl⟩ := Is.strE i | cases i); (first | obtain ⟨_, rfl⟩ := Is.intE j | obtain ⟨_, rfl⟩ := Is.bytesE j | obtain rfl := Is.refE j | obtain rfl := Is.boolE j | obtain rfl := Iss.nilE j | obtain rfl := Is.noneE j | obtain ⟨_, rfl⟩ := Is.strE j | cases j); exact .of <| and_int (here (S.toks _) (.int _ _) h)
theorem B_or {a b : Int} (h : Q (.int (Builtin.bitOr a b)) σ) : Bin C .BitOr (.int a) (.int b) σ Q := fun fz u v i j m s S => by
  (first | obtain ⟨_, rfl⟩ := Is.intE i | obtain ⟨_, rfl⟩ := Is.bytesE i | obtain rfl := Is.refE i | obtain rfl := Is.boolE i | obtain rfl := Iss.nilE i | obtain rfl := Is.noneE i | obtain ⟨_, rfl⟩ := Is.strE i | cases i); (first | obtain ⟨_, rfl⟩ := Is.intE j | obtain ⟨_, rfl⟩ := Is.bytesE j | obtain rfl := Is.refE j | obtain rfl := Is.boolE j | obtain rfl := Iss.nilE j | obtain rfl := Is.noneE j | obtain ⟨_, rfl⟩ := Is.strE j | cases j); exact .of <| or_int (here (S.toks _) (.int _ _) h)
theorem B_shl {a b : Int} (hn : 0 ≤ b) (hn2 : b ≤ 1000000) (ha : a.natAbs < 2 ^ 64) (h : Q (.int (a * 2 ^ b.toNat)) σ) : Bin C .LShift (.int a) (.int b) σ Q := fun fz u v i j m s S => by
  (first | obtain ⟨_, rfl⟩ := Is.intE i | obtain ⟨_, rfl⟩ := Is.bytesE i | obtain rfl := Is.refE i | obtain rfl := Is.boolE i | obtain rfl := Iss.nilE i | obtain rfl := Is.noneE i | obtain ⟨_, rfl⟩ := Is.strE i | cases i); (first | obtain ⟨_, rfl⟩ := Is.intE j | obtain ⟨_, rfl⟩ := Is.bytesE j | obtain rfl := Is.refE j | obtain rfl := Is.boolE j | obtain rfl := Iss.nilE j | obtain rfl := Is.noneE j | obtain ⟨_, rfl⟩ := Is.strE j | cases j); exact .of <| lshift_int_small hn hn2 ha (here (S.toks _) (.int _ _) h)
theorem B_shr {a b : Int} (hn : 0 ≤ b) (h : Q (.int (a.fdiv (2 ^ b.toNat))) σ) : Bin C .RShift (.int a) (.int b) σ Q := fun fz u v i j m s S => by
  (first | obtain ⟨_, rfl⟩ := Is.intE i | obtain ⟨_, rfl⟩ := Is.bytesE i | obtain rfl := Is.refE i | obtain rfl := Is.boolE i | obtain rfl := Iss.nilE i | obtain rfl := Is.noneE i | obtain ⟨_, rfl⟩ := Is.strE i | cases i); (first | obtain ⟨_, rfl⟩ := Is.intE j | obtain ⟨_, rfl⟩ := Is.bytesE j | obtain rfl := Is.refE j | obtain rfl := Is.boolE j | obtain rfl := Iss.nilE j | obtain rfl := Is.noneE j | obtain ⟨_, rfl⟩ := Is.strE j | cases j); exact .of <| rshift_int hn (here (S.toks _) (.int _ _) h)
theorem B_mod {a b : Int} (hb : b ≠ 0) (h : Q (.int (a.fmod b)) σ) : Bin C .Mod (.int a) (.int b) σ Q := fun fz u v i j m s S => by
  (first | obtain ⟨_, rfl⟩ := Is.intE i | obtain ⟨_, rfl⟩ := Is.bytesE i | obtain rfl := Is.refE i | obtain rfl := Is.boolE i | obtain rfl := Iss.nilE i | obtain rfl := Is.noneE i | obtain ⟨_, rfl⟩ := Is.strE i | cases i); (first | obtain ⟨_, rfl⟩ := Is.intE j | obtain ⟨_, rfl⟩ := Is.bytesE j | obtain rfl := Is.refE j | obtain rfl := Is.boolE j | obtain rfl := Iss.nilE j | obtain rfl := Is.noneE j | obtain ⟨_, rfl⟩ := Is.strE j | cases j); exact .of <| mod_int' hb (here (S.toks _) (.int _ _) h)
theorem B_div {a b : Int} (hb : b ≠ 0) (hp : Builtin.divisionGoesByPylong a b = false) (h : Q (.int (a.fdiv b)) σ) : Bin C .FloorDiv (.int a) (.int b) σ Q := fun fz u v i j m s S => by
  (first | obtain ⟨_, rfl⟩ := Is.intE i | obtain ⟨_, rfl⟩ := Is.bytesE i | obtain rfl := Is.refE i | obtain rfl := Is.boolE i | obtain rfl := Iss.nilE i | obtain rfl := Is.noneE i | obtain ⟨_, rfl⟩ := Is.strE i | cases i); (first | obtain ⟨_, rfl⟩ := Is.intE j | obtain ⟨_, rfl⟩ := Is.bytesE j | obtain rfl := Is.refE j | obtain rfl := Is.boolE j | obtain rfl := Iss.nilE j | obtain rfl := Is.noneE j | obtain ⟨_, rfl⟩ := Is.strE j | cases j); exact .of <| floordiv_int hb (here (S.toks _) (.int _ _) h) (.inl hp)
theorem B_pow {a b : Int} (hn : 0 ≤ b) (hn2 : b ≤ 1000000) (ha : a.natAbs < 2 ^ 64) (h : Q (.int (a ^ b.toNat)) σ) : Bin C .Pow (.int a) (.int b) σ Q := fun fz u v i j m s S => by
  (first | obtain ⟨_, rfl⟩ := Is.intE i | obtain ⟨_, rfl⟩ := Is.bytesE i | obtain rfl := Is.refE i | obtain rfl := Is.boolE i | obtain rfl := Iss.nilE i | obtain rfl := Is.noneE i | obtain ⟨_, rfl⟩ := Is.strE i | cases i); (first | obtain ⟨_, rfl⟩ := Is.intE j | obtain ⟨_, rfl⟩ := Is.bytesE j | obtain rfl := Is.refE j | obtain rfl := Is.boolE j | obtain rfl := Iss.nilE j | obtain rfl := Is.noneE j | obtain ⟨_, rfl⟩ := Is.strE j | cases j); exact .of <| pow_int_small hn hn2 ha (here (S.toks _) (.int _ _) h)
-- bytes
theorem B_addB {a b : List UInt8} (hz : a.length + b.length ≤ 16777216) (h : Q (.bytes (a ++ b)) σ) : Bin C .Add (.bytes a) (.bytes b) σ Q := fun fz u v i j m s S => by
  (first | obtain ⟨_, rfl⟩ := Is.intE i | obtain ⟨_, rfl⟩ := Is.bytesE i | obtain rfl := Is.refE i | obtain rfl := Is.boolE i | obtain rfl := Iss.nilE i | obtain rfl := Is.noneE i | obtain ⟨_, rfl⟩ := Is.strE i | cases i); (first | obtain ⟨_, rfl⟩ := Is.intE j | obtain ⟨_, rfl⟩ := Is.bytesE j | obtain rfl := Is.refE j | obtain rfl := Is.boolE j | obtain rfl := Iss.nilE j | obtain rfl := Is.noneE j | obtain ⟨_, rfl⟩ := Is.strE j | cases j)
  exact .of <| bytes_add_K (by simpa using hz) rfl fun t' k => here (S.toks _) (.bytes _ _) h

-- compares
theorem C_lt {a b : Int} (h : Q (.bool (decide (a < b))) σ) : Cmp C .Lt (.int a) (.int b) σ Q := fun fz u v i j m s S => by
  (first | obtain ⟨_, rfl⟩ := Is.intE i | obtain ⟨_, rfl⟩ := Is.bytesE i | obtain rfl := Is.refE i | obtain rfl := Is.boolE i | obtain rfl := Iss.nilE i | obtain rfl := Is.noneE i | obtain ⟨_, rfl⟩ := Is.strE i | cases i); (first | obtain ⟨_, rfl⟩ := Is.intE j | obtain ⟨_, rfl⟩ := Is.bytesE j | obtain rfl := Is.refE j | obtain rfl := Is.boolE j | obtain rfl := Iss.nilE j | obtain rfl := Is.noneE j | obtain ⟨_, rfl⟩ := Is.strE j | cases j); exact .of <| PySem.P.lt_int (here S (.bool _) h)
theorem C_le {a b : Int} (h : Q (.bool (decide (a ≤ b))) σ) : Cmp C .LtE (.int a) (.int b) σ Q := fun fz u v i j m s S => by
  (first | obtain ⟨_, rfl⟩ := Is.intE i | obtain ⟨_, rfl⟩ := Is.bytesE i | obtain rfl := Is.refE i | obtain rfl := Is.boolE i | obtain rfl := Iss.nilE i | obtain rfl := Is.noneE i | obtain ⟨_, rfl⟩ := Is.strE i | cases i); (first | obtain ⟨_, rfl⟩ := Is.intE j | obtain ⟨_, rfl⟩ := Is.bytesE j | obtain rfl := Is.refE j | obtain rfl := Is.boolE j | obtain rfl := Iss.nilE j | obtain rfl := Is.noneE j | obtain ⟨_, rfl⟩ := Is.strE j | cases j); exact .of <| PySem.P.le_int (here S (.bool _) h)
theorem C_gt {a b : Int} (h : Q (.bool (decide (a > b))) σ) : Cmp C .Gt (.int a) (.int b) σ Q := fun fz u v i j m s S => by
  (first | obtain ⟨_, rfl⟩ := Is.intE i | obtain ⟨_, rfl⟩ := Is.bytesE i | obtain rfl := Is.refE i | obtain rfl := Is.boolE i | obtain rfl := Iss.nilE i | obtain rfl := Is.noneE i | obtain ⟨_, rfl⟩ := Is.strE i | cases i); (first | obtain ⟨_, rfl⟩ := Is.intE j | obtain ⟨_, rfl⟩ := Is.bytesE j | obtain rfl := Is.refE j | obtain rfl := Is.boolE j | obtain rfl := Iss.nilE j | obtain rfl := Is.noneE j | obtain ⟨_, rfl⟩ := Is.strE j | cases j); exact .of <| PySem.P.gt_int (here S (.bool _) h)
theorem C_ge {a b : Int} (h : Q (.bool (decide (a ≥ b))) σ) : Cmp C .GtE (.int a) (.int b) σ Q := fun fz u v i j m s S => by
  (first | obtain ⟨_, rfl⟩ := Is.intE i | obtain ⟨_, rfl⟩ := Is.bytesE i | obtain rfl := Is.refE i | obtain rfl := Is.boolE i | obtain rfl := Iss.nilE i | obtain rfl := Is.noneE i | obtain ⟨_, rfl⟩ := Is.strE i | cases i); (first | obtain ⟨_, rfl⟩ := Is.intE j | obtain ⟨_, rfl⟩ := Is.bytesE j | obtain rfl := Is.refE j | obtain rfl := Is.boolE j | obtain rfl := Iss.nilE j | obtain rfl := Is.noneE j | obtain ⟨_, rfl⟩ := Is.strE j | cases j); exact .of <| PySem.P.ge_int (here S (.bool _) h)
theorem C_eq {a b : Int} (h : Q (.bool (decide (a = b))) σ) : Cmp C .Eq (.int a) (.int b) σ Q := fun fz u v i j m s S => by
  (first | obtain ⟨_, rfl⟩ := Is.intE i | obtain ⟨_, rfl⟩ := Is.bytesE i | obtain rfl := Is.refE i | obtain rfl := Is.boolE i | obtain rfl := Iss.nilE i | obtain rfl := Is.noneE i | obtain ⟨_, rfl⟩ := Is.strE i | cases i); (first | obtain ⟨_, rfl⟩ := Is.intE j | obtain ⟨_, rfl⟩ := Is.bytesE j | obtain rfl := Is.refE j | obtain rfl := Is.boolE j | obtain rfl := Iss.nilE j | obtain rfl := Is.noneE j | obtain ⟨_, rfl⟩ := Is.strE j | cases j); exact .of <| PySem.P.eq_int (here S (.bool _) (by rwa [show (a == b) = decide (a = b) from rfl]))
theorem C_eqB {a b : List UInt8} (h : Q (.bool (decide (a = b))) σ) : Cmp C .Eq (.bytes a) (.bytes b) σ Q := fun fz u v i j m s S => by
  (first | obtain ⟨_, rfl⟩ := Is.intE i | obtain ⟨_, rfl⟩ := Is.bytesE i | obtain rfl := Is.refE i | obtain rfl := Is.boolE i | obtain rfl := Iss.nilE i | obtain rfl := Is.noneE i | obtain ⟨_, rfl⟩ := Is.strE i | cases i); (first | obtain ⟨_, rfl⟩ := Is.intE j | obtain ⟨_, rfl⟩ := Is.bytesE j | obtain rfl := Is.refE j | obtain rfl := Is.boolE j | obtain rfl := Iss.nilE j | obtain rfl := Is.noneE j | obtain ⟨_, rfl⟩ := Is.strE j | cases j)
  exact .of <| eq_bytes (here S (.bool _) (by rwa [show (a.toArray.toList == b.toArray.toList) = decide (a = b) by by_cases e : a = b <;> simp [e]]))
theorem C_neB {a b : List UInt8} (h : Q (.bool (decide (a ≠ b))) σ) : Cmp C .NotEq (.bytes a) (.bytes b) σ Q := fun fz u v i j m s S => by
  (first | obtain ⟨_, rfl⟩ := Is.intE i | obtain ⟨_, rfl⟩ := Is.bytesE i | obtain rfl := Is.refE i | obtain rfl := Is.boolE i | obtain rfl := Iss.nilE i | obtain rfl := Is.noneE i | obtain ⟨_, rfl⟩ := Is.strE i | cases i); (first | obtain ⟨_, rfl⟩ := Is.intE j | obtain ⟨_, rfl⟩ := Is.bytesE j | obtain rfl := Is.refE j | obtain rfl := Is.boolE j | obtain rfl := Iss.nilE j | obtain rfl := Is.noneE j | obtain ⟨_, rfl⟩ := Is.strE j | cases j)
  exact .of <| ne_bytes (here S (.bool _) (by rwa [show (a.toArray.toList != b.toArray.toList) = decide (a ≠ b) by by_cases e : a = b <;> simp [e]]))

theorem Is.ne_none {fz : Heap} {a : AV} {v : Value} (i : Is fz a v) (h : a ≠ .none) : v ≠ .none := by
  cases i <;> first | exact absurd rfl h | (intro e; cases e)
theorem C_isNone {a : AV} (h : Q (.bool (match a with | .none => true | _ => false)) σ) : Cmp C .Is a .none σ Q := fun fz u v i j m s S => by
  (first | obtain ⟨_, rfl⟩ := Is.intE j | obtain ⟨_, rfl⟩ := Is.bytesE j | obtain rfl := Is.refE j | obtain rfl := Is.boolE j | obtain rfl := Iss.nilE j | obtain rfl := Is.noneE j | obtain ⟨_, rfl⟩ := Is.strE j | cases j)
  by_cases e : a = .none
  · subst e; (first | obtain ⟨_, rfl⟩ := Is.intE i | obtain ⟨_, rfl⟩ := Is.bytesE i | obtain rfl := Is.refE i | obtain rfl := Is.boolE i | obtain rfl := Iss.nilE i | obtain rfl := Is.noneE i | obtain ⟨_, rfl⟩ := Is.strE i | cases i); exact .of <| wpAny_is_self rfl (here S (.bool _) h)
  · refine .of <| is_none_ne (i.ne_none e) (here S (.bool _) ?_)
    cases a <;> first | exact absurd rfl e | exact h
theorem C_isNotNone {a : AV} (h : Q (.bool (match a with | .none => false | _ => true)) σ) : Cmp C .IsNot a .none σ Q := fun fz u v i j m s S => by
  (first | obtain ⟨_, rfl⟩ := Is.intE j | obtain ⟨_, rfl⟩ := Is.bytesE j | obtain rfl := Is.refE j | obtain rfl := Is.boolE j | obtain rfl := Iss.nilE j | obtain rfl := Is.noneE j | obtain ⟨_, rfl⟩ := Is.strE j | cases j)
  by_cases e : a = .none
  · subst e; (first | obtain ⟨_, rfl⟩ := Is.intE i | obtain ⟨_, rfl⟩ := Is.bytesE i | obtain rfl := Is.refE i | obtain rfl := Is.boolE i | obtain rfl := Iss.nilE i | obtain rfl := Is.noneE i | obtain ⟨_, rfl⟩ := Is.strE i | cases i); exact .of <| wpAny_isNot_self rfl (here S (.bool _) h)
  · refine .of <| isnot_none_ne (i.ne_none e) (here S (.bool _) ?_)
    cases a <;> first | exact absurd rfl e | exact h

-- truth
theorem U_bool {b : Bool} (h : T b σ) : Tru C (.bool b) σ T := fun fz u m s i S => by (first | obtain ⟨_, rfl⟩ := Is.intE i | obtain ⟨_, rfl⟩ := Is.bytesE i | obtain rfl := Is.refE i | obtain rfl := Is.boolE i | obtain rfl := Iss.nilE i | obtain rfl := Is.noneE i | obtain ⟨_, rfl⟩ := Is.strE i | cases i); exact .of <| wpAny_truthy_bool (hereT S h)


/-- a step over a truth -/
theorem tstep {α : Type} {t : Sem Bool} {fz : Heap} {m : Str → Option Value} {s : Shared} {P : Bool → Shared → Prop}
    (h : wpG C.M C.A t (fun v s' => ∃ fz' σ', Ext C.kp fz fz' ∧ St C fz' m σ' s' ∧ T v σ') C.E s)
    (hk : ∀ fz' v σ' s', Ext C.kp fz fz' → St C fz' m σ' s' → T v σ' → P v s') : wpG C.M C.A t P C.E s :=
  wpG_mono h (fun v s' ⟨fz', σ', x, S', q⟩ => hk fz' v σ' s' x S' q) fun _ _ x => x


theorem E_IfExp {test body orelse pos} (h : Tst C test ρ σ fun b σ₁ => (b = true → Ev C body ρ σ₁ Q) ∧ (b = false → Ev C orelse ρ σ₁ Q)) : Ev C (.IfExp test body orelse pos) ρ σ Q := fun fz m s S P => by
  refine G_IfExp (tstep (α := Unit) (h fz m s S P) fun fz₁ b σ₁ s₁ x₁ S₁ h₁ => ?_)
  cases b
  · exact ((h₁.2 rfl) fz₁ m s₁ S₁ (P.mono x₁.1)).ext x₁
  · exact ((h₁.1 rfl) fz₁ m s₁ S₁ (P.mono x₁.1)).ext x₁

theorem E_Compare1 {op l r pos} (h : Ev C l ρ σ fun a σ₁ => Ev C r ρ σ₁ fun b σ₂ => Cmp C op a b σ₂ Q) (hm : behindInMarks op r = false := by kernel_rfl) : Ev C (.Compare l [op] [r] pos) ρ σ Q := fun fz m s S P => by
  refine G_Compare1 ((h fz m s S P).step fun fz₁ a u σ₁ s₁ x₁ S₁ i₁ h₁ => ?_) hm
  refine (h₁ fz₁ m s₁ S₁ (P.mono x₁.1)).step fun fz₂ b v σ₂ s₂ x₂ S₂ i₂ h₂ => ?_
  exact (h₂ fz₂ u v (i₁.mono x₂.1) i₂ m s₂ S₂).ext (x₁.trans x₂)

-- tests
theorem Tst.ext' {t : Sem Bool} {fz fz' : Heap} {m : Str → Option Value} {s : Shared} (x : Ext C.kp fz fz')
    (h : wpG C.M C.A t (fun v s' => ∃ f σ', Ext C.kp fz' f ∧ St C f m σ' s' ∧ T v σ') C.E s) : wpG C.M C.A t (fun v s' => ∃ f σ', Ext C.kp fz f ∧ St C f m σ' s' ∧ T v σ') C.E s :=
  wpG_mono h (fun _ _ ⟨f, σ', y, r⟩ => ⟨f, σ', x.trans y, r⟩) fun _ _ e => e

theorem T_cmp {op l r pos} (h : Ev C l ρ σ fun a σ₁ => Ev C r ρ σ₁ fun b σ₂ => Cmp C op a b σ₂ fun c σ₃ => Tru C c σ₃ T) (hm : behindInMarks op r = false := by kernel_rfl) :
    Tst C (.Compare l [op] [r] pos) ρ σ T := fun fz m s S P => by
  refine G_isTrue_Compare1 ((h fz m s S P).step fun fz₁ a u σ₁ s₁ x₁ S₁ i₁ h₁ => ?_) hm
  refine (h₁ fz₁ m s₁ S₁ (P.mono x₁.1)).step fun fz₂ b v σ₂ s₂ x₂ S₂ i₂ h₂ => ?_
  refine (h₂ fz₂ u v (i₁.mono x₂.1) i₂ m s₂ S₂).step fun fz₃ c z σ₃ s₃ x₃ S₃ i₃ h₃ => ?_
  exact Tst.ext' ((x₁.trans x₂).trans x₃) (h₃ fz₃ z m s₃ i₃ S₃)
theorem T_not {x pos} (h : Tst C x ρ σ fun b σ₁ => T (!b) σ₁) : Tst C (.UnaryOp .Not x pos) ρ σ T := fun fz m s S P =>
  G_isTrue_not (wpG_mono (h fz m s S P) (fun _ _ x => x) fun _ _ x => x)
theorem T_and2 {x y pos} (h : Tst C x ρ σ fun b σ₁ => (b = true → Tst C y ρ σ₁ T) ∧ (b = false → T false σ₁)) : Tst C (.BoolOp .And [x, y] pos) ρ σ T := fun fz m s S P => by
  refine G_isTrue_and (tstep (α := Unit) (h fz m s S P) fun fz₁ b σ₁ s₁ x₁ S₁ h₁ => ?_)
  cases b
  · exact ⟨fz₁, σ₁, x₁, S₁, h₁.2 rfl⟩
  · refine G_isTrue_and (tstep (α := Unit) (h₁.1 rfl fz₁ m s₁ S₁ (P.mono x₁.1)) fun fz₂ b σ₂ s₂ x₂ S₂ h₂ => ?_)
    cases b
    · exact ⟨fz₂, σ₂, x₁.trans x₂, S₂, h₂⟩
    · exact G_isTrue_and_nil ⟨fz₂, σ₂, x₁.trans x₂, S₂, h₂⟩
theorem T_and3 {x y z pos} (h : Tst C x ρ σ fun b σ₁ => (b = true → Tst C y ρ σ₁ fun b σ₂ => (b = true → Tst C z ρ σ₂ T) ∧ (b = false → T false σ₂)) ∧ (b = false → T false σ₁)) : Tst C (.BoolOp .And [x, y, z] pos) ρ σ T := fun fz m s S P => by
  refine G_isTrue_and (tstep (α := Unit) (h fz m s S P) fun fz₁ b σ₁ s₁ x₁ S₁ h₁ => ?_)
  cases b
  · exact ⟨fz₁, σ₁, x₁, S₁, h₁.2 rfl⟩
  · refine G_isTrue_and (tstep (α := Unit) (h₁.1 rfl fz₁ m s₁ S₁ (P.mono x₁.1)) fun fz₂ b σ₂ s₂ x₂ S₂ h₂ => ?_)
    cases b
    · exact ⟨fz₂, σ₂, x₁.trans x₂, S₂, h₂.2 rfl⟩
    · refine G_isTrue_and (tstep (α := Unit) (h₂.1 rfl fz₂ m s₂ S₂ (P.mono (x₁.trans x₂).1)) fun fz₃ b σ₃ s₃ x₃ S₃ h₃ => ?_)
      cases b
      · exact ⟨fz₃, σ₃, (x₁.trans x₂).trans x₃, S₃, h₃⟩
      · exact G_isTrue_and_nil ⟨fz₃, σ₃, (x₁.trans x₂).trans x₃, S₃, h₃⟩
theorem T_or2 {x y pos} (h : Tst C x ρ σ fun b σ₁ => (b = true → T true σ₁) ∧ (b = false → Tst C y ρ σ₁ T)) : Tst C (.BoolOp .Or [x, y] pos) ρ σ T := fun fz m s S P => by
  refine G_isTrue_or (tstep (α := Unit) (h fz m s S P) fun fz₁ b σ₁ s₁ x₁ S₁ h₁ => ?_)
  cases b
  · refine G_isTrue_or (tstep (α := Unit) (h₁.2 rfl fz₁ m s₁ S₁ (P.mono x₁.1)) fun fz₂ b σ₂ s₂ x₂ S₂ h₂ => ?_)
    cases b
    · exact G_isTrue_or_nil ⟨fz₂, σ₂, x₁.trans x₂, S₂, h₂⟩
    · exact ⟨fz₂, σ₂, x₁.trans x₂, S₂, h₂⟩
  · exact ⟨fz₁, σ₁, x₁, S₁, h₁.1 rfl⟩
/-- the general test: a value and its truth -/
theorem T_plain {e : Expr} (h : Ev C e ρ σ fun a σ₁ => Tru C a σ₁ T) (he : isTrue e C.env (eval e C.env) = (do let v ← eval e C.env; standAt e.pos; holding [v] (truthy v)) := by kernel_rfl) : Tst C e ρ σ T := fun fz m s S P => by
  refine G_isTrue_plain ((h fz m s S P).step fun fz₁ a u σ₁ s₁ x₁ S₁ i₁ h₁ => ?_) he
  exact Tst.ext' x₁ (h₁ fz₁ u m s₁ i₁ S₁)
/-- a < b <= c as a test -/
theorem T_chain2 {l op₁ op₂ r₁ r₂ pos} (h : Ev C l ρ σ fun a σ₁ => Ev C r₁ ρ σ₁ fun b σ₂ => Cmp C op₁ a b σ₂ fun c σ₃ => Tru C c σ₃ fun t σ₄ =>
      (t = false → T false σ₄) ∧ (t = true → Ev C r₂ ρ σ₄ fun d σ₅ => Cmp C op₂ b d σ₅ fun c' σ₆ => Tru C c' σ₆ T))
    (hm : lastMarks [op₁, op₂] [r₁, r₂] = false := by kernel_rfl) : Tst C (.Compare l [op₁, op₂] [r₁, r₂] pos) ρ σ T := fun fz m s S P => by
  refine G_isTrue_chain ((h fz m s S P).step fun fz₁ a u σ₁ s₁ x₁ S₁ i₁ h₁ => ?_) hm
  refine G_test_link ((h₁ fz₁ m s₁ S₁ (P.mono x₁.1)).step fun fz₂ b v σ₂ s₂ x₂ S₂ i₂ h₂ => ?_)
  refine (h₂ fz₂ u v (i₁.mono x₂.1) i₂ m s₂ S₂).step fun fz₃ c z σ₃ s₃ x₃ S₃ i₃ h₃ => ?_
  refine tstep (α := Unit) (h₃ fz₃ z m s₃ i₃ S₃) fun fz₄ t σ₄ s₄ x₄ S₄ h₄ => ?_
  have x₀₄ := ((x₁.trans x₂).trans x₃).trans x₄
  cases t
  · exact ⟨fz₄, σ₄, x₀₄, S₄, h₄.1 rfl⟩
  · refine G_test_last ((h₄.2 rfl fz₄ m s₄ S₄ (P.mono x₀₄.1)).step fun fz₅ d y σ₅ s₅ x₅ S₅ i₅ h₅ => ?_)
    refine (h₅ fz₅ v y (i₂.mono ((x₃.trans x₄).trans x₅).1) i₅ m s₅ S₅).step fun fz₆ c' z' σ₆ s₆ x₆ S₆ i₆ h₆ => ?_
    exact Tst.ext' ((x₀₄.trans x₅).trans x₆) (h₆ fz₆ z' m s₆ i₆ S₆)
end

-- statements
section
variable {C : Act} {ρ : Loc} {σ : Sto} {Q : Loc → Sto → Prop} {R : AV → Sto → Prop}

theorem FlowPost.ext {fz fz' : Heap} {f : Flow} {s' : Shared} (x : Ext C.kp fz fz') (h : FlowPost C fz' Q R f s') : FlowPost C fz Q R f s' :=
  let ⟨f, m', σ', y, r⟩ := h; ⟨f, m', σ', x.trans y, r⟩
theorem X_nil (h : Q ρ σ) : Exs C [] ρ σ Q R := fun fz m s S P => .of <| wpAny_execs_nil ⟨fz, m, σ, Ext.refl _ _, S, ρ, P, h⟩
theorem X_cons {st : Stmt} {rest : List Stmt} (h : Ex C st ρ σ (fun ρ₁ σ₁ => Exs C rest ρ₁ σ₁ Q R) R) : Exs C (st :: rest) ρ σ Q R := fun fz m s S P => by
  refine G_execs_cons (wpG_mono (h fz m s S P) (fun f s₁ h₁ => ?_) fun _ _ x => x)
  obtain ⟨fz₁, m₁, σ₁, x₁, S₁, h₁⟩ := h₁
  cases f with
  | next =>
    obtain ⟨ρ₁, P₁, h₁⟩ := h₁
    exact wpG_mono (h₁ fz₁ m₁ s₁ S₁ P₁) (fun f s₂ => FlowPost.ext x₁) fun _ _ x => x
  | ret v => exact ⟨fz₁, m₁, σ₁, x₁, S₁, h₁⟩
  | brk => exact h₁.elim
  | cont => exact h₁.elim

theorem St.set {fz : Heap} {m : Str → Option Value} {s : Shared} {x : Str} {v : Value} (S : St C fz m σ s) {h' : Heap} (hn : h'.Ns C.env.locals (fun y => if y = x then some v else m y)) (hs : Heap.SameBut C.env.locals s.heap h') (k : Nat) :
    St C fz (fun y => if y = x then some v else m y) σ { s with heap := h', toks := k } :=
  ⟨⟨S.mem.bfz, fun a o e => (hs.2 a (fun q => by rw [q, S.Lfz] at e; cases e)).trans (S.mem.fzh a o e), fun a o e => (hs.2 a (fun q => by rw [q, S.Lkp] at e; cases e)).trans (S.mem.kph a o e),
    fun p hp => ⟨(S.mem.trk p hp).1.at fun ob e => (hs.2 _ (S.Lσ p hp)).trans e, (S.mem.trk p hp).2⟩, S.mem.nodup, S.mem.gens, S.mem.os⟩, hn, S.Lfz, S.Lkp, S.Lσ⟩

/-- storing in a local -/
theorem store_step {fz : Heap} {m : Str → Option Value} {s : Shared} {x : Str} {v : Value} {av : AV} {P' : Unit → Shared → Prop} (S : St C fz m σ s) (P : RhoOk fz ρ m) (i : Is fz av v)
    (h : ∀ m' s', St C fz m' σ s' → RhoOk fz ((x, av) :: ρ) m' → P' () s')
    (hk : C.env.scope.kind = .function := by kernel_rfl) (hx : C.env.kindOf x = some .local := by kernel_rfl) : wpG C.M C.A (storeName C.env x v) P' C.E s :=
  .of <| wpAny_storeName_local hx S.ns (fun h' hn hs => h _ _ (S.set hn hs _) (P.set i)) (by
    show (C.env.scope.kind == .class || (C.env.scope.kind == .module && C.env.locals != C.env.globals)) = false; rw [hk]; rfl)

theorem X_assign {x pos' value pos} (h : Ev C value ρ σ fun v σ₁ => Q ((x, v) :: ρ) σ₁) (hs : swapsWith value (some (.Name x pos')) pos.line C.env = pure false := by kernel_rfl)
    (hk : C.env.scope.kind = .function := by kernel_rfl) (hx : C.env.kindOf x = some .local := by kernel_rfl) : Ex C (.Assign [.Name x pos'] value pos) ρ σ Q R := fun fz m s S P => by
  refine G_Assign_Name ((h fz m s S P).step fun fz₁ a u σ₁ s₁ x₁ S₁ i₁ h₁ => ?_) hs
  exact store_step S₁ (P.mono x₁.1) i₁ (fun m' s' S' P' => ⟨fz₁, m', σ₁, x₁, S', _, P', h₁⟩) hk hx
theorem X_return {e pos} (h : Ev C e ρ σ R) : Ex C (.Return (some e) pos) ρ σ Q R := fun fz m s S P =>
  G_Return ((h fz m s S P).step fun fz₁ a u σ₁ s₁ x₁ S₁ i₁ h₁ => ⟨fz₁, m, σ₁, x₁, S₁, a, i₁, h₁⟩)
theorem X_if {test body orelse pos} (h : Tst C test ρ σ fun b σ₁ => (b = true → Exs C body ρ σ₁ Q R) ∧ (b = false → Exs C orelse ρ σ₁ Q R)) : Ex C (.If test body orelse pos) ρ σ Q R := fun fz m s S P => by
  refine G_If (tstep (α := Unit) (h fz m s S P) fun fz₁ b σ₁ s₁ x₁ S₁ h₁ => ?_)
  cases b
  · exact wpG_mono ((h₁.2 rfl) fz₁ m s₁ S₁ (P.mono x₁.1)) (fun f s₂ => FlowPost.ext x₁) fun _ _ x => x
  · exact wpG_mono ((h₁.1 rfl) fz₁ m s₁ S₁ (P.mono x₁.1)) (fun f s₂ => FlowPost.ext x₁) fun _ _ x => x

/-- what flies may fly on through an own activation -/
noncomputable def Act.Flies (C : Act) : Prop := ∀ e s, C.E e s → notedG C.M C.A C.env (fun e s' => cameBackG C.M C.A C.env C.E e s') e s

/-- while: an invariant over the locals and the tracked objects, with a measure -/
theorem X_while {test body pos} (hf : C.Flies) (I : Nat → Loc → Sto → Prop)
    (turn : ∀ n ρ' σ', I n ρ' σ' → Tst C test ρ' σ' fun b σ₁ => (b = true → Exs C body ρ' σ₁ (fun ρ₂ σ₂ => ∃ k, k < n ∧ ∃ ρ₃, Sub ρ₃ ρ₂ ∧ I k ρ₃ σ₂) R) ∧ (b = false → Q ρ' σ₁))
    (n : Nat) {ρ₀ : Loc} (hsub : Sub ρ₀ ρ) (h : I n ρ₀ σ) : Ex C (.While test body [] pos) ρ σ Q R := fun fz m s S P => by
  refine G_While ?_
  have key := codeG_whileLoop (prog := C.prog) (w := C.w) (A := C.A) (test := test) (body := body) (orelse := []) (env := C.env)
    (R := fun r s' => match r with | .ok f => FlowPost C fz Q R f s' | .error e => cameBackG C.M C.A C.env C.E e s')
    (fun n s => ∃ fz' m' ρ' σ', Ext C.kp fz fz' ∧ St C fz' m' σ' s ∧ RhoOk fz' ρ' m' ∧ I n ρ' σ') ?_ n (s := s) ⟨fz, m, ρ₀, σ, Ext.refl _ _, S, P.sub hsub, h⟩
  · exact key
  · rintro n s ⟨fz', m', ρ', σ', x, S', P', hI⟩
    refine wpG_mono (turn n ρ' σ' hI fz' m' s S' P') (fun b s₁ h₁ => ?_) fun e s' he => hf e s' he
    obtain ⟨fz₁, σ₁, x₁, S₁, h₁⟩ := h₁
    cases b
    · exact .of <| wpAny_execs_nil ⟨fz₁, m', σ₁, x.trans x₁, S₁, ρ', P'.mono x₁.1, h₁.2 rfl⟩
    · refine wpG_mono (h₁.1 rfl fz₁ m' s₁ S₁ (P'.mono x₁.1)) (fun f s₂ h₂ => ?_) fun e s' he => hf e s' he
      obtain ⟨fz₂, m₂, σ₂, x₂, S₂, h₂⟩ := h₂
      cases f with
      | next =>
        obtain ⟨ρ₂, P₂, k, hk, ρ₃, hs₃, hI₃⟩ := h₂
        exact ⟨k, hk, fz₂, m₂, ρ₃, σ₂, (x.trans x₁).trans x₂, S₂, P₂.sub hs₃, hI₃⟩
      | ret v => exact ⟨fz₂, m₂, σ₂, (x.trans x₁).trans x₂, S₂, h₂⟩
      | brk => exact h₂.elim
      | cont => exact h₂.elim
end
end Mine

-- M3
set_option Elab.async false
set_option maxRecDepth 100000
set_option maxHeartbeats 1000000
set_option linter.all false
namespace Mine
local macro_rules | `(tactic| omega) => `(tactic| lia)
open PySem PySem.W PySem.Calls PyProof.Rows PySem.Spec

structure Room (r : Nat) (A : Around) : Prop where
  hh : A.handled = none
  depth : A.depth + r < recursionLimit
  units : A.units + 4 * r + 20 < cLine
  gs : A.guards = some []
theorem Room.less {r r' : Nat} {A : Around} (x : Room r A) (h : r' ≤ r) : Room r' A := ⟨x.hh, by have := x.depth; omega, by have := x.units; omega, x.gs⟩
theorem Room.deeper {r : Nat} {A : Around} (env : Env) (x : Room (r + 1) A) : Room r (A.deeper env) :=
  ⟨x.hh, by have := x.depth; show A.depth + 1 + r < _; omega, by have := x.units; show A.units + 3 + 4 * r + 20 < _; omega, x.gs⟩

structure Bel (A : Around) (B : Heap) (outer : List Env) (kp : Heap) : Prop where
  fr : A.frames = some outer
  kf : kp.FunFrames B outer
  Bk : B.StaysIn kp

/-- what holds of an activation -/
structure Act.Ok (C : Act) (r : Nat) (B : Heap) (outer : List Env) : Prop where
  room : Room r C.A
  fr : C.A.frames = some (C.env :: outer)
  kf : C.kp.FunFrames B outer
  Bk : C.kp.get? C.env.locals = none
  BB : B.StaysIn C.kp
  kind : C.env.scope.kind = .function
  frame : C.env.frame = some C.env.locals
  globs : C.env.globals = mainGlobals
  bltns : C.env.builtins = builtinsNs

/-- a call of the value f -/
noncomputable def CallV (C : Act) (f : Value) (avs : List AV) (σ : Sto) (Q : AV → Sto → Prop) : Prop := ∀ fz vs, Iss fz avs vs → Op C (call f vs) fz σ Q

noncomputable def EvL (C : Act) (es : List Expr) (ρ : Loc) (σ : Sto) (Q : List AV → Sto → Prop) : Prop :=
  ∀ fz m s, St C fz m σ s → RhoOk fz ρ m → wpG C.M C.A (spliced (es.map fun e => (false, eval e C.env))) (fun vs s' => ∃ fz' avs σ', Ext C.kp fz fz' ∧ St C fz' m σ' s' ∧ Iss fz' avs vs ∧ Q avs σ') C.E s

section
variable {C : Act} {ρ : Loc} {σ : Sto} {Q : AV → Sto → Prop}

theorem EL_nil {Q : List AV → Sto → Prop} (h : Q [] σ) : EvL C [] ρ σ Q := fun fz m s S P => .of <| spliced_nil ⟨fz, [], σ, Ext.refl _ _, S, .nil, h⟩
theorem EL_cons {e : Expr} {es : List Expr} {Q : List AV → Sto → Prop} (h : Ev C e ρ σ fun a σ₁ => EvL C es ρ σ₁ fun l σ₂ => Q (a :: l) σ₂) : EvL C (e :: es) ρ σ Q := fun fz m s S P => by
  refine G_spliced_cons ((h fz m s S P).step fun fz₁ a u σ₁ s₁ x₁ S₁ i₁ h₁ => ?_)
  refine wpG_mono (h₁ fz₁ m s₁ S₁ (P.mono x₁.1)) (fun vs s₂ h₂ => ?_) fun _ _ x => x
  obtain ⟨fz₂, avs, σ₂, x₂, S₂, i₂, h₂⟩ := h₂
  exact ⟨fz₂, a :: avs, σ₂, x₁.trans x₂, S₂, .cons _ _ _ _ (i₁.mono x₂.1) i₂, h₂⟩

/-- a global name -/
noncomputable def Gl (b : Heap) (x : Str) (v : Value) : Prop := ∃ mg, b.Ns mainGlobals mg ∧ (mg x = some v ∨ (mg x = none ∧ ∃ mb, b.Ns builtinsNs mb ∧ mb x = some v))

theorem name_global {x : Str} {v : Value} {np : Pos} {fz : Heap} {m : Str → Option Value} {s : Shared} {P' : Value → Shared → Prop} (hg : Gl C.b x v) (S : St C fz m σ s) (h : P' v s)
    (e1 : C.env.globals = mainGlobals := by kernel_rfl) (e2 : C.env.builtins = builtinsNs := by kernel_rfl)
    (hk : C.env.scope.kind = .function := by kernel_rfl) (hx : C.env.kindOf x = some .globalImplicit := by kernel_rfl) (hd : (x == ("__debug__" : Str)) = false := by decide) : wpG C.M C.A (eval (.Name x np) C.env) P' C.E s := by
  have kb : C.b.StaysIn s.heap := fun a o e => S.mem.fzh a o (S.mem.bfz a o e)
  obtain ⟨mg, hm, hg | ⟨hn, mb, hb, hv⟩⟩ := hg
  · exact .of <| Name_function_global hk hx (loadGlobal_global (by rw [e1]; exact ns_grow hm kb) hg h) hd
  · exact .of <| Name_function_global hk hx (loadGlobal_builtin (by rw [e1]; exact ns_grow hm kb) hn (by rw [e2]; exact ns_grow hb kb) hv h) hd
theorem E_global_int {x : Str} {i : Int} {t : Tok} {np : Pos} (hg : Gl C.b x (.int i t)) (h : Q (.int i) σ) (e1 : C.env.globals = mainGlobals := by kernel_rfl) (e2 : C.env.builtins = builtinsNs := by kernel_rfl)
    (hk : C.env.scope.kind = .function := by kernel_rfl) (hx : C.env.kindOf x = some .globalImplicit := by kernel_rfl) (hd : (x == ("__debug__" : Str)) = false := by decide) : Ev C (.Name x np) ρ σ Q := fun fz m s S P =>
  name_global hg S (here S (.int _ _) h) e1 e2 hk hx hd

theorem evalArgs_list {f : Value} {es : List Expr} {pos : Pos} {P' : Args → Shared → Prop} {s : Shared} (ht : backTo pos (starEach es C.env) = es.map fun e => (false, eval e C.env))
    (h : wpG C.M C.A (spliced (es.map fun e => (false, eval e C.env))) (fun vs s' => P' ⟨vs, []⟩ s') C.E s) : wpG C.M C.A (evalArgs f true (backTo pos (starEach es C.env)) []) P' C.E s := by
  rw [ht]
  have := G_evalArgs (M := C.M) (A := C.A) (E := C.E) (s := s) (f := f) (ts := es.map fun e => eval e C.env) (Q := P') (by rw [List.map_map]; exact h)
  rw [List.map_map] at this
  exact this

theorem plain_any {es : List Expr} {pos : Pos} (ht : backTo pos (starEach es C.env) = es.map fun e => (false, eval e C.env)) : (backTo pos (starEach es C.env)).any (·.1) = false := by
  rw [ht]; induction es with
  | nil => rfl
  | cons e es ih =>
    simp only [List.map_cons, List.any_cons, Bool.false_or]
    clear ih ht
    induction es with
    | nil => rfl
    | cons e es ih => simpa using ih

/-- calls by a global name -/
theorem E_call_builtin {x : Str} {id : String} {es : List Expr} {np pos : Pos} (hg : Gl C.b x (.builtin id)) (h : EvL C es ρ σ fun avs σ₁ => CallV C (.builtin id) avs σ₁ Q)
    (ht : backTo pos (starEach es C.env) = es.map (fun e => (false, eval e C.env)) := by kernel_rfl) (e1 : C.env.globals = mainGlobals := by kernel_rfl) (e2 : C.env.builtins = builtinsNs := by kernel_rfl)
    (hk : C.env.scope.kind = .function := by kernel_rfl) (hx : C.env.kindOf x = some .globalImplicit := by kernel_rfl) (hd : (x == ("__debug__" : Str)) = false := by decide) : Ev C (.Call (.Name x np) es [] pos) ρ σ Q := fun fz m s S P => by
  refine G_Call_ofName (name_global hg S ?_ e1 e2 hk hx hd)
  refine G_callWith_plain rfl (plain_any ht) (evalArgs_list ht ?_)
  refine wpG_mono (h fz m s S P) (fun vs s₁ h₁ => ?_) fun _ _ x => x
  obtain ⟨fz₁, avs, σ₁, x₁, S₁, i₁, h₁⟩ := h₁
  exact (h₁ fz₁ vs i₁ m s₁ S₁).ext x₁
theorem E_call_type {x : Str} {id : String} {es : List Expr} {np pos : Pos} (hg : Gl C.b x (.type id)) (h : EvL C es ρ σ fun avs σ₁ => CallV C (.type id) avs σ₁ Q)
    (ht : backTo pos (starEach es C.env) = es.map (fun e => (false, eval e C.env)) := by kernel_rfl) (e1 : C.env.globals = mainGlobals := by kernel_rfl) (e2 : C.env.builtins = builtinsNs := by kernel_rfl)
    (hk : C.env.scope.kind = .function := by kernel_rfl) (hx : C.env.kindOf x = some .globalImplicit := by kernel_rfl) (hd : (x == ("__debug__" : Str)) = false := by decide) : Ev C (.Call (.Name x np) es [] pos) ρ σ Q := fun fz m s S P => by
  refine G_Call_ofName (name_global hg S ?_ e1 e2 hk hx hd)
  refine G_callWith_plain rfl (plain_any ht) (evalArgs_list ht ?_)
  refine wpG_mono (h fz m s S P) (fun vs s₁ h₁ => ?_) fun _ _ x => x
  obtain ⟨fz₁, avs, σ₁, x₁, S₁, i₁, h₁⟩ := h₁
  exact (h₁ fz₁ vs i₁ m s₁ S₁).ext x₁
theorem E_call_def {x : Str} {a : Addr} {o : Obj} {fd : FuncData} {es : List Expr} {np pos : Pos} (hg : Gl C.b x (.ref a)) (ho : C.b.get? a = some o) (hd' : o.data = .func fd) (h : EvL C es ρ σ fun avs σ₁ => CallV C (.ref a) avs σ₁ Q)
    (ht : backTo pos (starEach es C.env) = es.map (fun e => (false, eval e C.env)) := by kernel_rfl) (e1 : C.env.globals = mainGlobals := by kernel_rfl) (e2 : C.env.builtins = builtinsNs := by kernel_rfl)
    (hk : C.env.scope.kind = .function := by kernel_rfl) (hx : C.env.kindOf x = some .globalImplicit := by kernel_rfl) (hd : (x == ("__debug__" : Str)) = false := by decide) : Ev C (.Call (.Name x np) es [] pos) ρ σ Q := fun fz m s S P => by
  refine G_Call_ofName (name_global hg S ?_ e1 e2 hk hx hd)
  refine G_callWith_function (o := o) (fd := fd) (evalArgs_list ht ?_)
  refine wpG_mono (h fz m s S P) (fun vs s₁ h₁ => ?_) fun _ _ x => x
  obtain ⟨fz₁, avs, σ₁, x₁, S₁, i₁, h₁⟩ := h₁
  exact ⟨⟨S₁.mem.fzh _ _ (S₁.mem.bfz _ _ ho), hd'⟩, (h₁ fz₁ vs i₁ m s₁ S₁).ext x₁⟩

end

-- making and freezing
noncomputable def addTo (fz h : Heap) (n : Addr) : Heap := hideAll h ((List.range h.objs.size).filter fun a => decide (a ≠ n) && (fz.get? a).isNone)
theorem addTo_get {fz h : Heap} {n : Addr} (k : fz.StaysIn h) (a : Addr) : (addTo fz h n).get? a = if a = n then h.get? n else fz.get? a := by
  unfold addTo
  by_cases e : a = n
  · subst e
    rw [if_pos rfl]
    cases q : h.get? a with
    | none =>
      cases q' : (hideAll h ((List.range h.objs.size).filter fun b => decide (b ≠ a) && (fz.get? b).isNone)).get? a with
      | none => rfl
      | some o => have := of_hideAll _ q'; rw [q] at this; cases this
    | some o => exact hideAll_get _ q (by simp)
  · rw [if_neg e]
    cases q : fz.get? a with
    | some o => exact hideAll_get _ (k a o q) (by simp [q])
    | none =>
      by_cases hlt : a < h.objs.size
      · exact hideAll_none _ (by simp [hlt, e, q])
      · cases q' : (hideAll h ((List.range h.objs.size).filter fun b => decide (b ≠ n) && (fz.get? b).isNone)).get? a with
        | none => rfl
        | some o => exact absurd (Heap.lt_size (of_hideAll _ q')) hlt

section
variable {C : Act} {ρ : Loc} {σ : Sto} {Q : AV → Sto → Prop}
theorem push_stays (h : Heap) (o : Obj) : h.StaysIn (h.push o) := fun _ _ e => Heap.get?_push_of_some _ e

/-- an object at n, of which nobody knows, is frozen -/
theorem St.freeze {fz : Heap} {m : Str → Option Value} {s : Shared} {n : Addr} {o : Obj} (S : St C fz m σ s) (hn : s.heap.get? n = some o) (h1 : fz.get? n = none) (h2 : C.kp.get? n = none) (h3 : n ≠ C.env.locals) (h4 : ∀ p ∈ σ, p.1 ≠ n) :
    St C (addTo fz s.heap n) m σ s ∧ Ext C.kp fz (addTo fz s.heap n) ∧ (addTo fz s.heap n).get? n = some o := by
  have g := addTo_get (n := n) S.mem.fzh
  have k : fz.StaysIn (addTo fz s.heap n) := fun a o e => by rw [g, if_neg (fun q => by rw [q, h1] at e; cases e)]; exact e
  refine ⟨⟨⟨fun a o e => k a o (S.mem.bfz a o e), fun a o e => of_hideAll _ e, S.mem.kph, fun p hp => ⟨(S.mem.trk p hp).1.mono k, ?_, (S.mem.trk p hp).2.2⟩, S.mem.nodup, S.mem.gens, S.mem.os⟩, S.ns, ?_, S.Lkp, S.Lσ⟩, ⟨k, fun a o e n' => ?_⟩, ?_⟩
  · rw [g, if_neg (h4 p hp)]; exact (S.mem.trk p hp).2.1
  · rw [g, if_neg (Ne.symm h3)]; exact S.Lfz
  · rw [g, if_neg (fun q => by rw [q, h2] at e; cases e)]; exact n'
  · rw [g, if_pos rfl]; exact hn

theorem St.new_frozen {fz : Heap} {m : Str → Option Value} {s : Shared} {o : Obj} (S : St C fz m σ s) (hf : o.isFreed = false) (k : Nat) :
    St C (addTo fz (s.heap.push o) s.heap.objs.size) m σ { s with heap := s.heap.push o, toks := k } ∧ Ext C.kp fz (addTo fz (s.heap.push o) s.heap.objs.size) ∧ (addTo fz (s.heap.push o) s.heap.objs.size).get? s.heap.objs.size = some o := by
  have S' : St C fz m σ { s with heap := s.heap.push o, toks := k } := S.grow (push_stays _ _)
  refine S'.freeze (Heap.get?_push_size _ hf) S.mem.fzh.fresh S.mem.kph.fresh (Nat.ne_of_gt S.ns.lt) fun p hp => ?_
  obtain ⟨ob, hob⟩ := (S.mem.trk p hp).1.there
  exact Nat.ne_of_lt (Heap.lt_size hob)

theorem St.new_tracked {fz : Heap} {m : Str → Option Value} {s : Shared} {o : Obj} {ao : AO} (S : St C fz m σ s) (hf : o.isFreed = false) (k : Nat) (hh : ∀ h', h'.get? s.heap.objs.size = some o → Holds fz h' s.heap.objs.size ao) :
    St C fz m ((s.heap.objs.size, ao) :: σ) { s with heap := s.heap.push o, toks := k } := by
  have S' : St C fz m σ { s with heap := s.heap.push o, toks := k } := S.grow (push_stays _ _)
  have ne : ∀ p ∈ σ, p.1 ≠ s.heap.objs.size := fun p hp => by
    obtain ⟨ob, hob⟩ := (S.mem.trk p hp).1.there
    exact Nat.ne_of_lt (Heap.lt_size hob)
  refine ⟨⟨S'.mem.bfz, S'.mem.fzh, S'.mem.kph, fun p hp => ?_, ?_, S'.mem.gens, S'.mem.os⟩, S'.ns, S'.Lfz, S'.Lkp, fun p hp => ?_⟩
  · rcases List.mem_cons.mp hp with rfl | hp
    · exact ⟨hh _ (Heap.get?_push_size _ hf), S.mem.fzh.fresh, S.mem.kph.fresh⟩
    · exact S'.mem.trk p hp
  · simp only [List.map_cons, List.nodup_cons]
    refine ⟨fun hm => ?_, S.mem.nodup⟩
    obtain ⟨p, hp, e⟩ := List.mem_map.mp hm
    exact ne p hp e
  · rcases List.mem_cons.mp hp with rfl | hp
    · exact Nat.ne_of_gt S.ns.lt
    · exact S.Lσ p hp

theorem E_Tuple {es : List Expr} {k : Nat} {pos : Pos} (h : EvL C es ρ σ fun avs σ₁ => avs.length ≤ sizeLine ∧ Q (.tup avs) σ₁)
    (ht : backTo pos (starEach es C.env) = es.map (fun e => (false, eval e C.env)) := by kernel_rfl) : Ev C (.Tuple es k pos) ρ σ Q := fun fz m s S P => by
  refine G_Tuple ?_
  rw [ht]
  refine wpG_mono (h fz m s S P) (fun vs s₁ h₁ => ?_) fun _ _ x => x
  obtain ⟨fz₁, avs, σ₁, x₁, S₁, i₁, hz, h₁⟩ := h₁
  obtain ⟨S₂, x₂, g₂⟩ := S₁.new_frozen (o := { cls := .type "tuple", data := .seq vs.toArray }) rfl s₁.toks
  refine .of <| wpAny_newObj_type ⟨_, .tup avs, σ₁, x₁.trans x₂, S₂, .tup _ _ vs ⟨_, g₂, rfl, 0, rfl⟩ (i₁.mono x₂.1), h₁⟩ ?_
  show vs.toArray.size ≤ sizeLine
  rw [List.size_toArray, ← i₁.length]; exact hz
theorem E_List {es : List Expr} {pos : Pos} (h : EvL C es ρ σ fun avs σ₁ => avs.length ≤ sizeLine ∧ Q (.lst avs) σ₁)
    (ht : backTo pos (starEach es C.env) = es.map (fun e => (false, eval e C.env)) := by kernel_rfl) : Ev C (.List es pos) ρ σ Q := fun fz m s S P => by
  refine G_List ?_
  rw [ht]
  refine wpG_mono (h fz m s S P) (fun vs s₁ h₁ => ?_) fun _ _ x => x
  obtain ⟨fz₁, avs, σ₁, x₁, S₁, i₁, hz, h₁⟩ := h₁
  obtain ⟨S₂, x₂, g₂⟩ := S₁.new_frozen (o := { cls := .type "list", data := .seq vs.toArray }) rfl s₁.toks
  refine .of <| wpAny_newObj_type ⟨_, .lst avs, σ₁, x₁.trans x₂, S₂, .lst _ _ vs ⟨_, g₂, rfl, 0, rfl⟩ (i₁.mono x₂.1), h₁⟩ ?_
  show vs.toArray.size ≤ sizeLine
  rw [List.size_toArray, ← i₁.length]; exact hz
/-- a list that is going to be changed -/
theorem E_ListT {es : List Expr} {pos : Pos} (h : EvL C es ρ σ fun avs σ₁ => avs.length ≤ sizeLine ∧ ∀ a, (∀ p ∈ σ₁, p.1 ≠ a) → Q (.ref a) ((a, .list avs) :: σ₁))
    (ht : backTo pos (starEach es C.env) = es.map (fun e => (false, eval e C.env)) := by kernel_rfl) : Ev C (.List es pos) ρ σ Q := fun fz m s S P => by
  refine G_List ?_
  rw [ht]
  refine wpG_mono (h fz m s S P) (fun vs s₁ h₁ => ?_) fun _ _ x => x
  obtain ⟨fz₁, avs, σ₁, x₁, S₁, i₁, hz, h₁⟩ := h₁
  have S₂ := S₁.new_tracked (o := { cls := .type "list", data := .seq vs.toArray }) (ao := .list avs) rfl s₁.toks fun h' e => ⟨vs, ⟨0, e⟩, i₁⟩
  refine .of <| wpAny_newObj_type ⟨_, .ref _, _, x₁, S₂, .ref _, h₁ _ fun p hp => ?_⟩ ?_
  · obtain ⟨ob, hob⟩ := (S₁.mem.trk p hp).1.there
    exact Nat.ne_of_lt (Heap.lt_size hob)
  · show vs.toArray.size ≤ sizeLine
    rw [List.size_toArray, ← i₁.length]; exact hz
/-- a list whose items alone are going to be changed -/
theorem E_ListH {es : List Expr} {pos : Pos} (h : EvL C es ρ σ fun avs σ₁ => avs.length ≤ sizeLine ∧ ∀ a, (∀ p ∈ σ₁, p.1 ≠ a) → Q (.ref a) ((a, .hand avs) :: σ₁))
    (ht : backTo pos (starEach es C.env) = es.map (fun e => (false, eval e C.env)) := by kernel_rfl) : Ev C (.List es pos) ρ σ Q := fun fz m s S P => by
  refine G_List ?_
  rw [ht]
  refine wpG_mono (h fz m s S P) (fun vs s₁ h₁ => ?_) fun _ _ x => x
  obtain ⟨fz₁, avs, σ₁, x₁, S₁, i₁, hz, h₁⟩ := h₁
  have S₂ := S₁.new_tracked (o := { cls := .type "list", data := .seq vs.toArray }) (ao := .hand avs) rfl s₁.toks fun h' e => ⟨vs, ⟨_, e, rfl, 0, rfl⟩, i₁⟩
  refine .of <| wpAny_newObj_type ⟨_, .ref _, _, x₁, S₂, .ref _, h₁ _ fun p hp => ?_⟩ ?_
  · obtain ⟨ob, hob⟩ := (S₁.mem.trk p hp).1.there
    exact Nat.ne_of_lt (Heap.lt_size hob)
  · show vs.toArray.size ≤ sizeLine
    rw [List.size_toArray, ← i₁.length]; exact hz
theorem E_DictT {pos : Pos} (h : ∀ a, (∀ p ∈ σ, p.1 ≠ a) → (∀ x o, C.b.get? x = some o → x < a) → Q (.ref a) ((a, .dict []) :: σ)) : Ev C (.Dict [] [] pos) ρ σ Q := fun fz m s S P => by
  have S₂ := S.new_tracked (o := { cls := .type "dict", data := .dict #[] }) (ao := .dict []) rfl s.toks fun h' e => ⟨[], fun p w => ⟨_, #[], 0, e, ⟨rfl, rfl, rfl⟩, rfl, fun _ he => by simp at he, .nil, .nil⟩, .nil, _, e⟩
  refine .of <| wpAny_Dict_empty ⟨_, .ref _, _, Ext.refl _ _, S₂, .ref _, h _ (fun p hp => ?_) fun x o e => Heap.lt_size (S.mem.fzh _ _ (S.mem.bfz _ _ e))⟩
  obtain ⟨ob, hob⟩ := (S.mem.trk p hp).1.there
  exact Nat.ne_of_lt (Heap.lt_size hob)

/-- one object of the tracked ones changes -/
inductive Upd : Addr → AO → AO → Sto → Sto → Prop
  | here {a : Addr} {o o' : AO} {r : Sto} : Upd a o o' ((a, o) :: r) ((a, o') :: r)
  | there {a : Addr} {o o' : AO} {p : Addr × AO} {r r' : Sto} : Upd a o o' r r' → Upd a o o' (p :: r) (p :: r')
theorem Upd.mem {a : Addr} {o o' : AO} {r r' : Sto} (u : Upd a o o' r r') : (a, o) ∈ r := by induction u with | here => exact .head _ | there _ ih => exact .tail _ ih
theorem Upd.mem' {a : Addr} {o o' : AO} {r r' : Sto} (u : Upd a o o' r r') : ∀ p ∈ r', p = (a, o') ∨ p ∈ r := by
  induction u with
  | here => intro p hp; rcases List.mem_cons.mp hp with rfl | hp; exact .inl rfl; exact .inr (.tail _ hp)
  | there _ ih => intro p hp; rcases List.mem_cons.mp hp with rfl | hp; exact .inr (.head _); exact (ih p hp).imp id (.tail _)
theorem Upd.fst {a : Addr} {o o' : AO} {r r' : Sto} (u : Upd a o o' r r') : r'.map (·.1) = r.map (·.1) := by
  induction u with
  | here => rfl
  | there _ ih => simp [ih]
theorem Upd.other {a : Addr} {o o' : AO} {r r' : Sto} (u : Upd a o o' r r') (nd : (r.map (·.1)).Nodup) : ∀ p ∈ r', p ≠ (a, o') → p ∈ r ∧ p.1 ≠ a := by
  induction u with
  | here =>
    intro p hp hne
    rcases List.mem_cons.mp hp with rfl | hp
    · exact absurd rfl hne
    · refine ⟨.tail _ hp, fun e => ?_⟩
      simp only [List.map_cons, List.nodup_cons] at nd
      exact nd.1 (e ▸ List.mem_map_of_mem hp)
  | there u ih =>
    intro p hp hne
    simp only [List.map_cons, List.nodup_cons] at nd
    rcases List.mem_cons.mp hp with rfl | hp
    · exact ⟨.head _, fun e => nd.1 (e ▸ List.mem_map_of_mem u.mem)⟩
    · exact ⟨.tail _ (ih nd.2 p hp hne).1, (ih nd.2 p hp hne).2⟩

theorem St.upd {fz : Heap} {m : Str → Option Value} {s s' : Shared} {a : Addr} {o o' : AO} {σ' : Sto} (S : St C fz m σ s) (u : Upd a o o' σ σ') (k : ∀ b ob, b ≠ a → s.heap.get? b = some ob → s'.heap.get? b = some ob) (hh : Holds fz s'.heap a o')
    (hg : s'.gens = s.gens := by kernel_rfl) (ho : s'.os = s.os := by kernel_rfl) : St C fz m σ' s' := by
  have ha := S.mem.trk _ u.mem
  refine ⟨⟨S.mem.bfz, fun b ob e => k b ob (fun q => by rw [q, ha.2.1] at e; cases e) (S.mem.fzh b ob e), fun b ob e => k b ob (fun q => by rw [q, ha.2.2] at e; cases e) (S.mem.kph b ob e), fun p hp => ?_, ?_, hg.trans S.mem.gens, ho.trans S.mem.os⟩, ?_, S.Lfz, S.Lkp, fun p hp => ?_⟩
  · by_cases e : p = (a, o')
    · subst e; exact ⟨hh, ha.2⟩
    · obtain ⟨h1, h2⟩ := u.other S.mem.nodup p hp e
      exact ⟨(S.mem.trk p h1).1.at fun ob => k _ ob h2, (S.mem.trk p h1).2⟩
  · rw [u.fst]; exact S.mem.nodup
  · obtain ⟨ob, es, ep, hb, r⟩ := S.ns
    exact ⟨ob, es, ep, k _ _ (fun q => S.Lσ _ u.mem q.symm) hb, r⟩
  · rcases u.mem' p hp with rfl | hp
    · exact S.Lσ (a, o) u.mem
    · exact S.Lσ p hp

/-- a tracked list is frozen: nobody will change it any more -/
inductive Del : Addr → AO → Sto → Sto → Prop
  | here {a : Addr} {o : AO} {r : Sto} : Del a o ((a, o) :: r) r
  | there {a : Addr} {o : AO} {p : Addr × AO} {r r' : Sto} : Del a o r r' → Del a o (p :: r) (p :: r')
theorem Del.mem {a : Addr} {o : AO} {r r' : Sto} (u : Del a o r r') : (a, o) ∈ r := by induction u with | here => exact .head _ | there _ ih => exact .tail _ ih
theorem Del.sub {a : Addr} {o : AO} {r r' : Sto} (u : Del a o r r') : ∀ p ∈ r', p ∈ r := by
  induction u with
  | here => exact fun p hp => .tail _ hp
  | there _ ih => intro p hp; rcases List.mem_cons.mp hp with rfl | hp; exact .head _; exact .tail _ (ih p hp)
theorem Del.nodup {a : Addr} {o : AO} {r r' : Sto} (u : Del a o r r') (nd : (r.map (·.1)).Nodup) : (r'.map (·.1)).Nodup ∧ ∀ p ∈ r', p.1 ≠ a := by
  induction u with
  | here =>
    simp only [List.map_cons, List.nodup_cons] at nd
    exact ⟨nd.2, fun p hp e => nd.1 (e ▸ List.mem_map_of_mem hp)⟩
  | there u ih =>
    simp only [List.map_cons, List.nodup_cons] at nd
    refine ⟨?_, fun p hp => ?_⟩
    · simp only [List.map_cons, List.nodup_cons]
      refine ⟨fun hm => ?_, (ih nd.2).1⟩
      obtain ⟨q, hq, e⟩ := List.mem_map.mp hm
      exact nd.1 (e ▸ List.mem_map_of_mem (u.sub q hq))
    · rcases List.mem_cons.mp hp with rfl | hp
      · exact fun e => nd.1 (e ▸ List.mem_map_of_mem u.mem)
      · exact (ih nd.2).2 p hp
theorem St.drop {fz : Heap} {m : Str → Option Value} {s : Shared} {a : Addr} {o : AO} {σ' : Sto} (S : St C fz m σ s) (u : Del a o σ σ') : St C fz m σ' s :=
  ⟨⟨S.mem.bfz, S.mem.fzh, S.mem.kph, fun p hp => S.mem.trk p (u.sub p hp), (u.nodup S.mem.nodup).1, S.mem.gens, S.mem.os⟩, S.ns, S.Lfz, S.Lkp, fun p hp => S.Lσ p (u.sub p hp)⟩
theorem E_nameFreeze {x : Str} {pos} {a : Addr} {l : List AV} {σ' : Sto} (hl : Lk ρ x (.ref a)) (u : Del a (.list l) σ σ') (h : Q (.lst l) σ') (hk : C.env.scope.kind = .function := by kernel_rfl) (hx : C.env.kindOf x = some .local := by kernel_rfl) (hd : (x == ("__debug__" : Str)) = false := by decide) :
    Ev C (.Name x pos) ρ σ Q := fun fz m s S P => by
  obtain ⟨v, h1, h2⟩ := P x _ hl.eq
  cases h2
  have ha := S.mem.trk _ u.mem
  obtain ⟨vs, pl, hi⟩ := ha.1
  obtain ⟨ob, hob, hc⟩ := pl.isList
  obtain ⟨S₂, x₂, g₂⟩ := (S.drop u).freeze hob ha.2.1 ha.2.2 (S.Lσ _ u.mem) (u.nodup S.mem.nodup).2
  exact .of <| wpAny_Name (wpAny_loadName_local hk hx S.ns h1 ⟨_, .lst l, σ', x₂, S₂, .lst _ _ vs ⟨ob, g₂, hc⟩ (hi.mono x₂.1), h⟩) hd
end
end Mine

-- M4
set_option Elab.async false
set_option maxRecDepth 100000
set_option maxHeartbeats 1000000
set_option linter.all false
namespace Mine
local macro_rules | `(tactic| omega) => `(tactic| lia)
open PySem PySem.W PySem.Calls PyProof.Rows PySem.Spec

/-- what a call of f with these arguments gives (Z: how it may raise) -/
noncomputable def Fn (prog : Program) (w : World) (b : Heap) (r : Nat) (Z : Around → Heap → Heap → List Env → OsState → Value → Shared → Prop) (f : Value) (avs : List AV) (σ : Sto) (R : AV → Sto → Prop) : Prop :=
  ∀ (A : Around) (kp fz B : Heap) (outer : List Env) (os : OsState) (s : Shared) (vs : List Value), Room r A → Bel A B outer kp → Mem b kp fz σ os s → Iss fz avs vs →
    codeG (model prog w) A (.call f ⟨vs, []⟩) (fun r s' => match r with
      | .ok (.ret v) => ∃ fz' av σ', Ext kp fz fz' ∧ Mem b kp fz' σ' os s' ∧ Is fz' av v ∧ R av σ'
      | .ok _ => False
      | .error e => Z A kp B outer os e s') s

noncomputable def NoZ : Around → Heap → Heap → List Env → OsState → Value → Shared → Prop := fun _ _ _ _ _ _ _ => False

/-- what is handed to a call and what stays -/
inductive Split : Sto → Sto → Sto → Prop
  | nil : Split [] [] []
  | left {x : Addr × AO} {p r σ : Sto} : Split p r σ → Split (x :: p) r (x :: σ)
  | right {x : Addr × AO} {p r σ : Sto} : Split p r σ → Split p (x :: r) (x :: σ)
theorem Split.none : ∀ (σ : Sto), Split [] σ σ
  | [] => .nil
  | _ :: r => .right (Split.none r)
theorem Split.l {p r σ : Sto} (u : Split p r σ) : ∀ x ∈ p, x ∈ σ := by
  induction u with
  | nil => exact fun _ h => h
  | left _ ih => intro x hx; rcases List.mem_cons.mp hx with rfl | hx; exact .head _; exact .tail _ (ih x hx)
  | right _ ih => exact fun x hx => .tail _ (ih x hx)
theorem Split.r {p r σ : Sto} (u : Split p r σ) : ∀ x ∈ r, x ∈ σ := by
  induction u with
  | nil => exact fun _ h => h
  | right _ ih => intro x hx; rcases List.mem_cons.mp hx with rfl | hx; exact .head _; exact .tail _ (ih x hx)
  | left _ ih => exact fun x hx => .tail _ (ih x hx)
theorem Split.nodup {p r σ : Sto} (u : Split p r σ) (nd : (σ.map (·.1)).Nodup) : (p.map (·.1)).Nodup ∧ (r.map (·.1)).Nodup ∧ ∀ x ∈ p, ∀ y ∈ r, x.1 ≠ y.1 := by
  induction u with
  | nil => exact ⟨.nil, .nil, fun x hx => nomatch hx⟩
  | left u ih =>
    simp only [List.map_cons, List.nodup_cons] at nd ⊢
    obtain ⟨h1, h2, h3⟩ := ih nd.2
    refine ⟨⟨fun hm => ?_, h1⟩, h2, fun x hx y hy => ?_⟩
    · obtain ⟨q, hq, e⟩ := List.mem_map.mp hm
      exact nd.1 (e ▸ List.mem_map_of_mem (u.l q hq))
    · rcases List.mem_cons.mp hx with rfl | hx
      · exact fun e => nd.1 (e ▸ List.mem_map_of_mem (u.r y hy))
      · exact h3 x hx y hy
  | right u ih =>
    simp only [List.map_cons, List.nodup_cons] at nd ⊢
    obtain ⟨h1, h2, h3⟩ := ih nd.2
    refine ⟨h1, ⟨fun hm => ?_, h2⟩, fun x hx y hy => ?_⟩
    · obtain ⟨q, hq, e⟩ := List.mem_map.mp hm
      exact nd.1 (e ▸ List.mem_map_of_mem (u.r q hq))
    · rcases List.mem_cons.mp hy with rfl | hy
      · exact fun e => nd.1 (e ▸ List.mem_map_of_mem (u.l x hx))
      · exact h3 x hx y hy

section
variable {C : Act} {σ : Sto} {Q : AV → Sto → Prop}

theorem Act.Ok.hh {r : Nat} {B : Heap} {outer : List Env} (ok : C.Ok r B outer) : C.A.handled = none := ok.room.hh

/-- the heap that a call may not touch -/
theorem Ext.narrow {kp kp' fz fz' : Heap} (k : kp.StaysIn kp') (x : Ext kp' fz fz') : Ext kp fz fz' := ⟨x.1, fun a o e n => x.2 a o (k a o e) n⟩

theorem CallV_fn {r : Nat} {B : Heap} {outer : List Env} {Z} {f : Value} {avs : List AV} {σp σr : Sto} {R : AV → Sto → Prop} (hF : Fn C.prog C.w C.b r Z f avs σp R) (ok : C.Ok r B outer) (sp : Split σp σr σ)
    (hq : ∀ v σ', R v σ' → Q v (σ' ++ σr)) (hz : ∀ fz m s e s', St C fz m σ s → Z C.A (hideAll s.heap (σp.map (·.1))) B (C.env :: outer) C.os e s' → C.E e s') : CallV C f avs σ Q := fun fz vs i m s S => by
  have nd := sp.nodup S.mem.nodup
  have hid : ∀ b o, s.heap.get? b = some o → (∀ p ∈ σp, p.1 ≠ b) → (hideAll s.heap (σp.map (·.1))).get? b = some o := fun b o e n => hideAll_get _ e fun hm => by
    obtain ⟨p, hp, e⟩ := List.mem_map.mp hm
    exact n p hp e
  have kk : C.kp.StaysIn (hideAll s.heap (σp.map (·.1))) := fun b o e => hid b o (S.mem.kph b o e) fun p hp q => by
    have := (S.mem.trk p (sp.l p hp)).2.2; rw [q, e] at this; cases this
  obtain ⟨oL, es, ep, hoL, hdL, hrL⟩ := S.ns
  have hL' := hid _ _ hoL fun p hp => S.Lσ p (sp.l p hp)
  have bel : Bel C.A B (C.env :: outer) (hideAll s.heap (σp.map (·.1))) := by
    refine ⟨ok.fr, ⟨by rw [ok.kind]; decide, ⟨C.env.locals, oL, ok.frame, ?_, hL', fun vs q => by rw [hdL] at q; cases q⟩, ok.kf.of_keeps fun b o e _ => ⟨o, kk b o e, rfl⟩⟩, fun b o e => kk b o (ok.BB b o e)⟩
    cases q : B.get? C.env.locals with
    | none => rfl
    | some o => have := ok.BB _ _ q; rw [ok.Bk] at this; cases this
  have mem : Mem C.b (hideAll s.heap (σp.map (·.1))) fz σp C.os s :=
    ⟨S.mem.bfz, S.mem.fzh, fun b o e => of_hideAll _ e, fun p hp => ⟨(S.mem.trk p (sp.l p hp)).1, (S.mem.trk p (sp.l p hp)).2.1, hideAll_none _ (List.mem_map_of_mem hp)⟩, nd.1, S.mem.gens, S.mem.os⟩
  refine wpG_call (codeG_mono (hF C.A _ fz B _ C.os s vs ok.room bel mem i) fun res s' h => ?_)
  cases res with
  | error e => exact hz fz m s e s' S h
  | ok fl =>
    cases fl with
    | ret v =>
      obtain ⟨fz', av, σ', x, M', i', hR⟩ := h
      refine ⟨fz', av, σ' ++ σr, x.narrow kk, ⟨⟨M'.bfz, M'.fzh, fun b o e => M'.kph b o (kk b o e), fun p hp => ?_, ?_, M'.gens, M'.os⟩, ⟨oL, es, ep, M'.kph _ _ hL', hdL, hrL⟩, x.2 _ _ hL' S.Lfz, S.Lkp, fun p hp => ?_⟩, i', hq _ _ hR⟩
      · rcases List.mem_append.mp hp with hp | hp
        · refine ⟨(M'.trk p hp).1, (M'.trk p hp).2.1, ?_⟩
          cases q : C.kp.get? p.1 with
          | none => rfl
          | some o => have := (M'.trk p hp).2.2; rw [kk _ _ q] at this; cases this
        · have h0 := S.mem.trk p (sp.r p hp)
          obtain ⟨ob, hob⟩ := h0.1.there
          have hp' := hid _ _ hob fun q hq => nd.2.2 q hq p hp
          refine ⟨(h0.1.mono x.1).at fun ob' e => ?_, x.2 _ _ hp' h0.2.1, h0.2.2⟩
          rw [hob] at e; cases e
          exact M'.kph _ _ hp'
      · rw [List.map_append, List.nodup_append]
        refine ⟨M'.nodup, nd.2.1, fun a ha b hb e => ?_⟩
        obtain ⟨p, hp, rfl⟩ := List.mem_map.mp ha
        obtain ⟨q, hq, rfl⟩ := List.mem_map.mp hb
        obtain ⟨ob, hob⟩ := (S.mem.trk q (sp.r q hq)).1.there
        have := hid _ _ hob fun y hy => nd.2.2 y hy q hq
        have h2 := (M'.trk p hp).2.2
        rw [show p.1 = q.1 from e, this] at h2; cases h2
      · rcases List.mem_append.mp hp with hp | hp
        · intro e
          have h2 := (M'.trk p hp).2.2
          rw [e, hL'] at h2; cases h2
        · exact S.Lσ p (sp.r p hp)
    | _ => exact h
end

/-- a def's contract from its body -/
theorem fn_intro {prog : Program} {w : World} {b : Heap} {r : Nat} {Z : Around → Heap → Heap → List Env → OsState → Value → Shared → Prop} {a : Addr} {o : Obj} {name qual : Str} {params : Arguments} {body : List Stmt} {scope : Scope} {dV kV doc pm cdv ct : Value} {an : Option Addr} {avs : List AV} {σ : Sto} {R : AV → Sto → Prop} {xs : List Str}
    (ho : b.get? a = some o) (hd : o.data = .func (fnX name qual params body scope [] dV kV doc pm an cdv ct)) (hlim : b.NoLimit) (hcd : b.CodeRec cdv qual)
    (hbind : ∀ vs : List Value, vs.length = xs.length → bindArgs (fnX name qual params body scope [] dV kV doc pm an cdv ct) ⟨vs, []⟩ = pure (xs.zip vs)) (hlen : avs.length = xs.length)
    (hloc : ∀ x ∈ xs, scope.names.lookup x = some .local) (hnd : xs.Nodup) (hcell : ∀ x ∈ scope.names, x.2 ≠ .cell)
    (E : Around → Heap → Heap → List Env → OsState → Addr → Value → Shared → Prop)
    (h : ∀ (A : Around) (kp B : Heap) (outer : List Env) (os : OsState) (L : Addr) (C : Act), C = ⟨prog, w, A.deeper (envX qual scope L a cdv []), envX qual scope L a cdv [], b, kp, os, E A kp B outer os L⟩ → C.Ok r B outer → Exs C body (xs.zip avs) σ (fun _ σ' => R .none σ') R)
    (hE : ∀ A kp B outer os L e s', Room (r + 1) A → Bel A B outer kp → B.get? L = none → E A kp B outer os L e s' → wpG (model prog w) (A.deeper (envX qual scope L a cdv [])) (leaving (envX qual scope L a cdv []) e) (fun _ s'' => Z A kp B outer os e s'') (fun e' s'' => Z A kp B outer os e' s'') s')
    (hco : scope.isCoroutine = false := by kernel_rfl) (hgen : scope.isGenerator = false := by kernel_rfl) (hk : scope.kind = .function := by kernel_rfl) : Fn prog w b (r + 1) Z (.ref a) avs σ R := by
  intro A kp fz B outer os s vs room bel M i
  have kb : b.StaysIn s.heap := fun a o e => M.fzh a o (M.bfz a o e)
  have hvl : vs.length = xs.length := i.length ▸ hlen
  have hL1 : kp.get? s.heap.objs.size = none := M.kph.fresh
  have hBL : B.get? s.heap.objs.size = none := by
    cases q : B.get? s.heap.objs.size with
    | none => rfl
    | some o => have := bel.Bk _ _ q; rw [hL1] at this; cases this
  refine codeG_call_def (fd := fnX name qual params body scope [] dV kV doc pm an cdv ct) (body := body) (binds := xs.zip vs) (by have := room.depth; omega) (kb _ _ ho) hd (hlim.keeps kb) ?_ rfl (BindsTo.of_eq (hbind vs hvl)) hcell (fun x hx => hloc _ (List.of_mem_zip hx).1) (fun h₁ hns hk₁ => ?_) hco hgen hk
  · obtain ⟨c₂, o₂, vs₂, t₂, e₂, g₂, r₂⟩ := hcd
    exact ⟨c₂, o₂, vs₂, t₂, e₂, kb _ _ g₂, r₂⟩
  have ok : Act.Ok ⟨prog, w, A.deeper (envX qual scope s.heap.objs.size a cdv []), envX qual scope s.heap.objs.size a cdv [], b, kp, os, E A kp B outer os s.heap.objs.size⟩ r B outer :=
    ⟨room.deeper _, by show (A.frames.map _) = _; rw [bel.fr]; rfl, bel.kf, hL1, bel.Bk, hk, rfl, rfl, rfl⟩
  have S : St ⟨prog, w, A.deeper (envX qual scope s.heap.objs.size a cdv []), envX qual scope s.heap.objs.size a cdv [], b, kp, os, E A kp B outer os s.heap.objs.size⟩ fz (fun x => (xs.zip vs).reverse.lookup x) σ { s with heap := h₁, toks := s.toks + (xs.zip vs).length } :=
    ⟨M.grow (s' := { s with heap := h₁, toks := s.toks + (xs.zip vs).length }) hk₁ rfl rfl, hns, M.fzh.fresh, hL1, fun p hp => by
      obtain ⟨ob, hob⟩ := (M.trk p hp).1.there
      exact Nat.ne_of_lt (Heap.lt_size hob)⟩
  have P : RhoOk fz (xs.zip avs) (fun x => (xs.zip vs).reverse.lookup x) := by
    intro x av e
    have key : ∀ (xs : List Str) (avs : List AV) (vs : List Value), xs.Nodup → Iss fz avs vs → (xs.zip avs).lookup x = some av → ∃ v, (xs.zip vs).lookup x = some v ∧ Is fz av v := by
      intro xs
      induction xs with
      | nil => intro avs vs _ _ e; cases e
      | cons y ys ih =>
        intro avs vs nd i e
        cases i with
        | nil => cases e
        | cons a l v vs i1 i2 =>
          simp only [List.zip_cons_cons, List.lookup_cons] at e ⊢
          split at e
          · rename_i hy; cases e; exact ⟨v, by simp [hy], i1⟩
          · rename_i hy
            obtain ⟨u, hu, iu⟩ := ih l vs (List.nodup_cons.mp nd).2 i2 e
            exact ⟨u, by simp [hy, hu], iu⟩
    obtain ⟨v, hv, iv⟩ := key xs avs vs hnd i e
    refine ⟨v, ?_, iv⟩
    have hrev : ∀ (l : List (Str × Value)), (l.map (·.1)).Nodup → l.reverse.lookup x = l.lookup x := by
      intro l
      induction l with
      | nil => intro _; rfl
      | cons p l ih =>
        intro nd
        simp only [List.map_cons, List.nodup_cons] at nd
        rw [List.reverse_cons, List.lookup_append, ih nd.2, List.lookup_cons]
        obtain ⟨y, v⟩ := p
        by_cases hx : x = y
        · subst hx
          have : l.lookup x = none := by
            cases q : l.lookup x with
            | none => rfl
            | some u =>
              exfalso; apply nd.1
              clear ih nd hv e S
              induction l with
              | nil => cases q
              | cons p l ih =>
                obtain ⟨z, w'⟩ := p
                rw [List.lookup_cons] at q
                split at q
                · rename_i hz; simp [beq_iff_eq.mp hz]
                · exact .tail _ (ih q)
          simp [this]
        · have hb : (x == y) = false := beq_eq_false_iff_ne.mpr hx
          simp [List.lookup_cons, hb]
    show (xs.zip vs).reverse.lookup x = some v
    rw [hrev _ (by rw [List.map_fst_zip (by omega)]; exact hnd)]
    exact hv
  refine wpG_mono (h A kp B outer os s.heap.objs.size _ rfl ok fz _ _ S P) (fun f s' hf => ?_) fun e s' he => hE A kp B outer os _ e s' room bel hBL he
  obtain ⟨fz', m', σ', x, S', hf⟩ := hf
  cases f with
  | next => obtain ⟨ρ', P', hR⟩ := hf; exact ⟨fz', .none, σ', x, S'.mem, .none, hR⟩
  | ret v => obtain ⟨av, i', hR⟩ := hf; exact ⟨fz', av, σ', x, S'.mem, i', hR⟩
  | brk => exact hf.elim
  | cont => exact hf.elim

/-- … of a def that raises nothing -/
theorem fn_quiet {prog : Program} {w : World} {b : Heap} {r : Nat} {a : Addr} {o : Obj} {name qual : Str} {params : Arguments} {body : List Stmt} {scope : Scope} {dV kV doc pm cdv ct : Value} {an : Option Addr} {avs : List AV} {σ : Sto} {R : AV → Sto → Prop} {xs : List Str}
    (ho : b.get? a = some o) (hd : o.data = .func (fnX name qual params body scope [] dV kV doc pm an cdv ct)) (hlim : b.NoLimit) (hcd : b.CodeRec cdv qual)
    (hbind : ∀ vs : List Value, vs.length = xs.length → bindArgs (fnX name qual params body scope [] dV kV doc pm an cdv ct) ⟨vs, []⟩ = pure (xs.zip vs)) (hlen : avs.length = xs.length)
    (hloc : ∀ x ∈ xs, scope.names.lookup x = some .local) (hnd : xs.Nodup) (hcell : ∀ x ∈ scope.names, x.2 ≠ .cell)
    (h : ∀ (A : Around) (kp B : Heap) (outer : List Env) (os : OsState) (L : Addr) (C : Act), C = ⟨prog, w, A.deeper (envX qual scope L a cdv []), envX qual scope L a cdv [], b, kp, os, fun _ _ => False⟩ → C.Ok r B outer → Exs C body (xs.zip avs) σ (fun _ σ' => R .none σ') R)
    (hco : scope.isCoroutine = false := by kernel_rfl) (hgen : scope.isGenerator = false := by kernel_rfl) (hk : scope.kind = .function := by kernel_rfl) : Fn prog w b (r + 1) NoZ (.ref a) avs σ R :=
  fn_intro ho hd hlim hcd hbind hlen hloc hnd hcell (fun _ _ _ _ _ _ _ _ => False) h (fun _ _ _ _ _ _ _ _ _ _ _ x => x.elim) hco hgen hk
end Mine

-- H0
set_option Elab.async false
set_option maxRecDepth 100000
set_option maxHeartbeats 8000000
set_option linter.all false
namespace MineHead
open PySem PySem.W PySem.Calls PyProof.Rows PySem.Spec Mine
open Sem (wp)

theorem caller_clean : Clean ⟨.builtin "claim.caller" {}, none, none, [], none⟩ := ⟨by decide +kernel, fun _ hx => nomatch hx⟩

/-- a thread of the caller's ends as its tree says at the clean stack -/
theorem thread_clean {prog : Program} {w : World} {t : Sem Fin} {s : Shared} {R : Result → Shared → Prop} (hreg : s.asleep)
    (h : wpG (model prog w) callerA t (fun fin s' => ∃ f, fin = .done f ∧ (R (.ok f) s' ∧ leftWithCleanup s'.gens = false)) (fun e s' => R (.error e) s' ∧ leftWithCleanup s'.gens = false) s) :
    ∃ n r s' s'', runN (denote table) prog w n s ⟨t, .builtin "claim.caller" {}, default, []⟩ = .halted (outcomeOf r) s' ∧
      schedN (denote table) prog w n (.single s ⟨t, .builtin "claim.caller" {}, default, []⟩) = .halted (outcomeOf r) s' ∧ s'.forget = s''.forget ∧ R r s'' := by
  have h' : wp (model prog w) ⟨.builtin "claim.caller" {}, none, none, [], none⟩ t (Sem.finPost (model prog w) ⟨.builtin "claim.caller" {}, none, none, [], none⟩ fun r s' => R r s' ∧ leftWithCleanup s'.gens = false)
      (fun e _ s' => R (.error e) s' ∧ leftWithCleanup s'.gens = false) default s := by
    refine Sem.wp_mono _ _ t (fun fin p' s' h' => ?_) (fun _ _ _ h' => h') default s (h _ default caller_in caller_clean)
    obtain ⟨f, rfl, hf⟩ := h'
    exact hf
  obtain ⟨n, r, s₁, s₂, hs, hn, hfo, hR⟩ := wp_halts_full (M := model prog w) (R := R) hreg h'
  exact ⟨n, r, s₂, s₁, hn, hs, hfo, hR⟩

/-- the walk of a law, at the caller's clean stack -/
abbrev WalkC (q : Program) (loose : List Str) (XP : (Str → Option Value) → Heap → Prop) (YP : World → Heap → Prop) (r : RowW) (d : DefRec) (kwd : List (Str × Expr)) : Prop :=
  ∀ (w : World) (s₀ s₁ : Shared) (mg mb : Str → Option Value), Ground q loose r.records XP w s₀ mg mb s₁.heap → YP w s₁.heap → ∀ (a : Addr) (o : Obj) (pm cd doc dV kV : Value), s₁.heap.get? a = some o →
    o.data = .func { docDef d.name d.params d.body d.scope pm cd doc with defaults := dV, kwdefaults := kV } → s₁.heap.CodeRec cd d.name → Dflts mg s₁.heap d.params kwd dV kV → mg d.name = some (.ref a) → s₁.gens = #[] →
    ∀ (args : List WData) (vals : List Value) (as : List Addr), r.claim.pre args = true → WData.layableAll args = true → ReadsAllW r.records (classAt s₀.heap) s₁.heap vals args as → WellAll w.params s₁.heap vals args → (∀ a ∈ as, (a == sysModules) = false) →
      wpG (model r.prog w) callerA (PySem.call (.ref a) vals) (fun v s' => GoodWG r.claim (classAt s₀.heap) (ExcName.means s₀.heap) args s₁ (.ok (.ret v)) s')
        (fun e s' => GoodWG r.claim (classAt s₀.heap) (ExcName.means s₀.heap) args s₁ (.error e) s') s₁

theorem PySem.W.holds_open {r : OpenRow} {q : Program} {loose : List Str} {Xt : Shared → Bool} {XP : (Str → Option Value) → Heap → Prop} {α : Type} {Yf : Shared → α} {Ya : World → α} {YP : World → Heap → Prop} {d : DefRec} {kwd : List (Str × Expr)} {N : Nat}
    (left : LeftO r.prog q loose Xt Yf Ya N) (hY : ∀ w s, Yf s = Ya w → YP w s.heap) (hYk : ∀ w h h', YP w h → (∀ b o, h.get? b = some o → h'.get? b = some o) → YP w h')
    (hX : ∀ s, Xt s = true → XP (s.heap.nsMap mainGlobals) s.heap) (hXk : ∀ mg h h', XP mg h → (∀ b o, h.get? b = some o → h'.get? b = some o) → XP mg h')
    (hdef : defOf q r.name = some (d, kwd)) (hp : r.prog.theDef r.name = some (d.params, d.body, d.scope)) (hk : kwWritten? d.params.kwonlyargs d.params.kw_defaults = some kwd) (hRf : ∀ s, Xt s = true → RecFacts r.records s.heap) (hwr : (!r.writes || r.records.isEmpty) = true)
    (k1 : r.wellSaid = true) (ok : (chainsOk q && opensWell r.prog && (frees r.toRowW && r.within.isEmpty)) = true) (hb : r.prog.bare) (hw : r.toRowW.promised)
    (call : WalkC q loose XP YP r.toRowW d kwd) : r.Holds := by
  obtain ⟨ok, k5⟩ := Bool.and_eq_true_iff.mp ok
  obtain ⟨hch, o1⟩ := Bool.and_eq_true_iff.mp ok
  obtain ⟨k5, k6⟩ := Bool.and_eq_true_iff.mp k5
  obtain ⟨hsame, hu, ha, hap, hm⟩ := frees_parts k5
  refine ⟨k1, hw, ⟨hb, o1, by show r.makers.map _ = []; rw [hm]; rfl⟩, hw.witness, fun w => ⟨(left.behind hX hch w).1, fun s' hs' => ?_⟩⟩
  obtain ⟨s₀, hf, hg0, s, hT, hz, hgens, hg, G00, y⟩ := (left.behind (XP := fun mg h => XP mg h ∧ RecFacts r.records h) (fun s hs => ⟨hX s hs, hRf s hs⟩) hch w).2 s' hs'
  have G0 : Ground q loose [] XP w s (s.heap.nsMap mainGlobals) (s.heap.nsMap builtinsNs) s.heap := ⟨G00.T, G00.B, G00.D, G00.TE, G00.TD, G00.W, G00.X.1, G00.cls, G00.has, G00.apart, G00.once, G00.K⟩
  have RF := G00.X.2
  have hgens : s.gens = #[] := Array.eq_empty_of_size_eq_zero (beq_iff_eq.mp hgens)
  have G : Ground q loose r.records XP w s _ _ s.heap := RF.ground G0
  refine ⟨s₀, hf, hg0, s, hT, fun n hn => ?_, RF.1, RF.2.1, fun args hpre hlay ord hord => ?_⟩
  · obtain rfl : n = r.name := by split at hn <;> simp_all
    exact pinned_of_view hg G0 hdef hp hk
  obtain ⟨⟨vs, s₁⟩, hlaid⟩ := Option.isSome_iff_exists.mp (layAllW_isSome (P := w.params) (ord := ord) G.has args r.args s (pre_splitW hpre).1)
  have keeps := layAllW_keeps _ _ _ hlaid
  have hal := layAllW_rest _ _ _ hlaid
  obtain ⟨as, hrd, hin, hold⟩ := reads_layAllW hord _ _ _ hlaid hlay s₁.heap (fun _ _ e => e)
  have L : Laid r.records w s s₁ args vs as := ⟨⟨ord, hord, hlaid⟩, hrd, hin, hold, keeps, hal.1.trans hgens, hal.2.2.1⟩
  have G₁ := G.keeps hXk keeps
  have Y₁ := hYk _ _ _ (hY w s y) keeps
  obtain ⟨a, o, pm, cd, doc, dV, kV, h1, h2, h3, h4, h5⟩ := G₁.fn hdef
  have h := call w s s₁ _ _ G₁ Y₁ a o pm cd doc dV kV h2 h3 h4 h5 (defOf_name hdef ▸ h1) L.gens args vs as hpre hlay L.reads L.well (L.low G.low)
  have hi := ident_freeW hu ha hap
  have hwi : r.claim.within = [] := List.isEmpty_iff.mp k6
  have hcode : wpG (model r.prog w) callerA (do match ← nsGet mainNs r.name with
      | some f => do ret (← PySem.call f vs)
      | none => unsupported "claim.caller:no-such-global") (fun fin s' => ∃ f, fin = .done f ∧ GoodWG r.claim (classAt s.heap) (ExcName.means s.heap) args s₁ (.ok f) s')
      (fun e s' => GoodWG r.claim (classAt s.heap) (ExcName.means s.heap) args s₁ (.error e) s') s₁ :=
    wpG_bind (.of (wpAny_nsGet G₁.T.g (by
      rw [h1]
      exact wpG_bind (wpG_mono h (fun v s' x => wpG_pure ⟨_, rfl, x⟩) fun _ _ x => x))))
  obtain ⟨k, res, s', s'', hrun, hsched, hfo, g⟩ := thread_clean (R := fun res s' => GoodWG r.claim (classAt s.heap) (ExcName.means s.heap) args s₁ res s') (Shared.asleep_of_life hal.2.2.2 hz)
    (wpG_mono hcode (fun fin s' ⟨f, e, x⟩ => ⟨f, e, x, leftWithCleanup_false_of_bare (x.laid (c := r.claim) hsame hwi hi L).2.2⟩) fun e s' x => ⟨x, leftWithCleanup_false_of_bare (x.laid (c := r.claim) hsame hwi hi L).2.2⟩)
  have z := g.laid (c := r.claim) hsame hwi hi L
  obtain ⟨eh, _, _, eo, _⟩ := Shared.forget_eq hfo
  have hcase := z.1.congr eh
  have hos : s'.os = s.os := eo.trans z.2.1
  have hlife : s'.heap.life = s.heap.life := (runN_life _ _ _ hrun).trans hal.2.2.2
  refine ⟨vs, s₁, hlaid, k, _, s', hsched, ?_, (fun _ i x hx => by rw [hgens] at hx; simp at hx), fun q => ⟨?_, noTable hwr q⟩, by rw [hlife], Shared.rest_eq hos⟩
  · rcases hcase with ⟨v, rfl, d1, d2, d3, d4, d5⟩ | ⟨e, ob, cls, rfl, d1, d2, d3, d4, d5⟩
    · exact .inl ⟨v, rfl, d1, d2, d3, fun b o y _ => d4 b o y, d5⟩
    · exact .inr ⟨e, ob, cls, rfl, d1, d2, d3, d4, fun b o y _ => d5 b o y⟩
  · rw [eh]; exact namesKept_of hT hg _ keeps g.2.1.old
end MineHead

-- KF
set_option Elab.async false
set_option maxRecDepth 100000
set_option maxHeartbeats 8000000
set_option linter.all false
open PySem PySem.W PyProof.Rows PySem.Calls
namespace MineTop

noncomputable def stm (i : Nat) : PySem.Stmt := (PySem.Challenge.pw_np0178_01.main.body.drop i).headD (.Return none ⟨0, 0, 0, 0⟩)
noncomputable def fdP : PySem.Stmt → PySem.Arguments
  | .FunctionDef _ a _ _ _ _ _ _ _ _ => a
  | _ => ⟨[], [], none, [], [], none, []⟩
noncomputable def fdB : PySem.Stmt → List PySem.Stmt
  | .FunctionDef _ _ b _ _ _ _ _ _ _ => b
  | _ => []
noncomputable def fdS : PySem.Stmt → PySem.Scope
  | .FunctionDef _ _ _ _ _ _ s _ _ _ => s
  | _ => PySem.Challenge.pw_np0178_01.main.scope
noncomputable def inner : PySem.Stmt → PySem.Stmt
  | .ClassDef _ _ _ (s :: _) _ _ _ _ _ _ _ => s
  | s => s
/-- the objects that the top leaves, as far as the law reaches them -/
noncomputable def fragRaw (P : Params) : Frag := [
  (2, { cls := PySem.Value.none, data := PySem.Data.dict #[{ hash := PySem.PyData.keyHash P (PySem.Str.ofString "type.__subclasses__.Exception.0"), key := PySem.Value.str (PySem.Str.ofString "type.__subclasses__.Exception.0") 214, val := PySem.Value.int 31 0 }, { hash := PySem.PyData.keyHash P (PySem.Str.ofString "type.__subclasses__.Exception.n"), key := PySem.Value.str (PySem.Str.ofString "type.__subclasses__.Exception.n") 215, val := PySem.Value.int 1 0 }] 2 }),
  (3, { cls := PySem.Value.type "dict", data := PySem.Data.dict #[{ hash := PySem.PyData.keyHash P (PySem.Str.ofString "__name__"), key := PySem.Value.str (PySem.Str.ofString "__name__") 165, val := PySem.Value.str (PySem.Str.ofString "law_np0178_01") 365 }, { hash := PySem.PyData.keyHash P (PySem.Str.ofString "__doc__"), key := PySem.Value.str (PySem.Str.ofString "__doc__") 166, val := PySem.Value.none }, { hash := PySem.PyData.keyHash P (PySem.Str.ofString "__package__"), key := PySem.Value.str (PySem.Str.ofString "__package__") 167, val := PySem.Value.none }, { hash := PySem.PyData.keyHash P (PySem.Str.ofString "__loader__"), key := PySem.Value.str (PySem.Str.ofString "__loader__") 168, val := PySem.Value.builtin "__main__.__loader__#opaque" }, { hash := PySem.PyData.keyHash P (PySem.Str.ofString "__spec__"), key := PySem.Value.str (PySem.Str.ofString "__spec__") 169, val := PySem.Value.none }, { hash := PySem.PyData.keyHash P (PySem.Str.ofString "__annotations__"), key := PySem.Value.str (PySem.Str.ofString "__annotations__") 170, val := PySem.Value.ref 6 }, { hash := PySem.PyData.keyHash P (PySem.Str.ofString "__builtins__"), key := PySem.Value.str (PySem.Str.ofString "__builtins__") 171, val := PySem.Value.ref 4 }, { hash := PySem.PyData.keyHash P (PySem.Str.ofString "__file__"), key := PySem.Value.str (PySem.Str.ofString "__file__") 173, val := PySem.Value.str (PySem.Str.ofString "/claim/cut.py") 172 }, { hash := PySem.PyData.keyHash P (PySem.Str.ofString "__cached__"), key := PySem.Value.str (PySem.Str.ofString "__cached__") 174, val := PySem.Value.none }, { hash := PySem.PyData.keyHash P (PySem.Str.ofString "PoolFault"), key := PySem.Value.str (PySem.Str.ofString "PoolFault") 217, val := PySem.Value.ref 31 }, { hash := PySem.PyData.keyHash P (PySem.Str.ofString "Corrupt"), key := PySem.Value.str (PySem.Str.ofString "Corrupt") 233, val := PySem.Value.ref 44 }, { hash := PySem.PyData.keyHash P (PySem.Str.ofString "LEAST_COPY"), key := PySem.Value.str (PySem.Str.ofString "LEAST_COPY") 237, val := PySem.Value.int 4 236 }, { hash := PySem.PyData.keyHash P (PySem.Str.ofString "LAST_LITERALS"), key := PySem.Value.str (PySem.Str.ofString "LAST_LITERALS") 239, val := PySem.Value.int 5 238 }, { hash := PySem.PyData.keyHash P (PySem.Str.ofString "LAST_BEGIN"), key := PySem.Value.str (PySem.Str.ofString "LAST_BEGIN") 241, val := PySem.Value.int 12 240 }, { hash := PySem.PyData.keyHash P (PySem.Str.ofString "MOST_BACK"), key := PySem.Value.str (PySem.Str.ofString "MOST_BACK") 243, val := PySem.Value.int 65535 242 }, { hash := PySem.PyData.keyHash P (PySem.Str.ofString "FULL"), key := PySem.Value.str (PySem.Str.ofString "FULL") 245, val := PySem.Value.int 15 244 }, { hash := PySem.PyData.keyHash P (PySem.Str.ofString "more_octets"), key := PySem.Value.str (PySem.Str.ofString "more_octets") 253, val := PySem.Value.ref 53 }, { hash := PySem.PyData.keyHash P (PySem.Str.ofString "word_at"), key := PySem.Value.str (PySem.Str.ofString "word_at") 261, val := PySem.Value.ref 60 }, { hash := PySem.PyData.keyHash P (PySem.Str.ofString "like_octets"), key := PySem.Value.str (PySem.Str.ofString "like_octets") 272, val := PySem.Value.ref 67 }, { hash := PySem.PyData.keyHash P (PySem.Str.ofString "like_ahead"), key := PySem.Value.str (PySem.Str.ofString "like_ahead") 283, val := PySem.Value.ref 74 }, { hash := PySem.PyData.keyHash P (PySem.Str.ofString "sequence"), key := PySem.Value.str (PySem.Str.ofString "sequence") 294, val := PySem.Value.ref 81 }, { hash := PySem.PyData.keyHash P (PySem.Str.ofString "last_sequence"), key := PySem.Value.str (PySem.Str.ofString "last_sequence") 301, val := PySem.Value.ref 88 }, { hash := PySem.PyData.keyHash P (PySem.Str.ofString "copy_at"), key := PySem.Value.str (PySem.Str.ofString "copy_at") 315, val := PySem.Value.ref 95 }, { hash := PySem.PyData.keyHash P (PySem.Str.ofString "lz4_pack"), key := PySem.Value.str (PySem.Str.ofString "lz4_pack") 328, val := PySem.Value.ref 102 }, { hash := PySem.PyData.keyHash P (PySem.Str.ofString "length_in"), key := PySem.Value.str (PySem.Str.ofString "length_in") 338, val := PySem.Value.ref 109 }, { hash := PySem.PyData.keyHash P (PySem.Str.ofString "copy_in"), key := PySem.Value.str (PySem.Str.ofString "copy_in") 352, val := PySem.Value.ref 116 }, { hash := PySem.PyData.keyHash P (PySem.Str.ofString "lz4_unpack"), key := PySem.Value.str (PySem.Str.ofString "lz4_unpack") 364, val := PySem.Value.ref 123 }, { hash := PySem.PyData.keyHash P (PySem.Str.ofString "_law_draw"), key := PySem.Value.str (PySem.Str.ofString "_law_draw") 375, val := PySem.Value.ref 130 }, { hash := PySem.PyData.keyHash P (PySem.Str.ofString "_law_octets"), key := PySem.Value.str (PySem.Str.ofString "_law_octets") 390, val := PySem.Value.ref 137 }, { hash := PySem.PyData.keyHash P (PySem.Str.ofString "_law_length"), key := PySem.Value.str (PySem.Str.ofString "_law_length") 400, val := PySem.Value.ref 144 }, { hash := PySem.PyData.keyHash P (PySem.Str.ofString "_law_read"), key := PySem.Value.str (PySem.Str.ofString "_law_read") 417, val := PySem.Value.ref 151 }, { hash := PySem.PyData.keyHash P (PySem.Str.ofString "_law_copies_right"), key := PySem.Value.str (PySem.Str.ofString "_law_copies_right") 423, val := PySem.Value.ref 156 }, { hash := PySem.PyData.keyHash P (PySem.Str.ofString "_law_pack_right"), key := PySem.Value.str (PySem.Str.ofString "_law_pack_right") 435, val := PySem.Value.ref 163 }, { hash := PySem.PyData.keyHash P (PySem.Str.ofString "_law_heard"), key := PySem.Value.str (PySem.Str.ofString "_law_heard") 444, val := PySem.Value.ref 170 }, { hash := PySem.PyData.keyHash P (PySem.Str.ofString "_law_more"), key := PySem.Value.str (PySem.Str.ofString "_law_more") 452, val := PySem.Value.ref 177 }, { hash := PySem.PyData.keyHash P (PySem.Str.ofString "_law_sequence"), key := PySem.Value.str (PySem.Str.ofString "_law_sequence") 458, val := PySem.Value.ref 182 }, { hash := PySem.PyData.keyHash P (PySem.Str.ofString "_law_any"), key := PySem.Value.str (PySem.Str.ofString "_law_any") 464, val := PySem.Value.ref 187 }, { hash := PySem.PyData.keyHash P (PySem.Str.ofString "law"), key := PySem.Value.str (PySem.Str.ofString "law") 478, val := PySem.Value.ref 194 }] 38 }),
  (15, { cls := PySem.Value.type "tuple", data := PySem.Data.seq #[PySem.Value.type "Exception"] }),
  (22, { cls := PySem.Value.type "tuple", data := PySem.Data.seq #[] }),
  (24, { cls := PySem.Value.type "tuple", data := PySem.Data.seq #[PySem.Value.str (PySem.Str.ofString "self") 204, PySem.Value.str (PySem.Str.ofString "why") 205] }),
  (25, { cls := PySem.Value.type "tuple", data := PySem.Data.seq #[] }),
  (27, { cls := PySem.Value.type "code", data := PySem.Data.fields #[PySem.Value.str (PySem.Str.ofString "__init__") 201, PySem.Value.str (PySem.Str.ofString "PoolFault.__init__") 202, PySem.Value.str (PySem.Str.ofString "/claim/cut.py") 203, PySem.Value.int 4 0, PySem.Value.int 2 0, PySem.Value.int 0 0, PySem.Value.int 0 0, PySem.Value.int 3 0, PySem.Value.ref 22, PySem.Value.bool true, PySem.Value.int 181 0, PySem.Value.ref 23, PySem.Value.none, PySem.Value.ref 24, PySem.Value.ref 25, PySem.Value.ref 26, PySem.Value.int 206 0, PySem.Value.int 4 0, PySem.Value.str (PySem.Str.ofString "/claim/cut.py") 207] }),
  (28, { cls := PySem.Value.type "function", data := PySem.Data.func { name := PySem.Str.ofString "__init__", qualname := PySem.Str.ofString "PoolFault.__init__", params := (fdP (inner (stm 1))), body := PySem.FuncBody.stmts (fdB (inner (stm 1))), scope := (fdS (inner (stm 1))), globals := 3, closure := [], defaults := PySem.Value.none, kwdefaults := PySem.Value.none, pyModule := PySem.Value.str (PySem.Str.ofString "treepool.faults") 187, code := PySem.Value.ref 27 } }),
  (29, { cls := PySem.Value.type "tuple", data := PySem.Data.seq #[PySem.Value.str (PySem.Str.ofString "why") 209] }),
  (30, { cls := PySem.Value.type "dict", data := PySem.Data.dict #[{ hash := PySem.PyData.keyHash P (PySem.Str.ofString "__module__"), key := PySem.Value.str (PySem.Str.ofString "__module__") 196, val := PySem.Value.str (PySem.Str.ofString "treepool.faults") 187 }, { hash := PySem.PyData.keyHash P (PySem.Str.ofString "__firstlineno__"), key := PySem.Value.str (PySem.Str.ofString "__firstlineno__") 200, val := PySem.Value.int 2 199 }, { hash := PySem.PyData.keyHash P (PySem.Str.ofString "__init__"), key := PySem.Value.str (PySem.Str.ofString "__init__") 208, val := PySem.Value.ref 28 }, { hash := PySem.PyData.keyHash P (PySem.Str.ofString "__static_attributes__"), key := PySem.Value.str (PySem.Str.ofString "__static_attributes__") 210, val := PySem.Value.ref 29 }, { hash := PySem.PyData.keyHash P (PySem.Str.ofString "__weakref__"), key := PySem.Value.str (PySem.Str.ofString "__weakref__") 212, val := PySem.Value.ref 32 }, { hash := PySem.PyData.keyHash P (PySem.Str.ofString "__doc__"), key := PySem.Value.str (PySem.Str.ofString "__doc__") 213, val := PySem.Value.none }] 3 }),
  (31, { cls := PySem.Value.type "type", data := PySem.Data.cls { name := PySem.Str.ofString "PoolFault", bases := [PySem.Value.type "Exception"], mro := [PySem.Value.ref 31, PySem.Value.type "Exception", PySem.Value.type "BaseException", PySem.Value.type "object"], ns := 30, qualname := PySem.Str.ofString "PoolFault", subclasses := [PySem.Value.ref 44] }, slots := #[some (PySem.Value.ref 15), none, some (PySem.Value.str (PySem.Str.ofString "PoolFault") 189), some (PySem.Value.str (PySem.Str.ofString "PoolFault") 197), some (PySem.Value.builtin "Exception.__new__"), some (PySem.Value.bool true)] }),
  (32, { cls := PySem.Value.type "getset_descriptor", data := PySem.Data.fields #[PySem.Value.str (PySem.Str.ofString "__weakref__") 211, PySem.Value.ref 31, PySem.Value.builtin "ExceptionGroup.__weakref__", PySem.Value.none] }),
  (35, { cls := PySem.Value.type "tuple", data := PySem.Data.seq #[PySem.Value.ref 31] }),
  (42, { cls := PySem.Value.type "tuple", data := PySem.Data.seq #[] }),
  (43, { cls := PySem.Value.type "dict", data := PySem.Data.dict #[{ hash := PySem.PyData.keyHash P (PySem.Str.ofString "__module__"), key := PySem.Value.str (PySem.Str.ofString "__module__") 225, val := PySem.Value.str (PySem.Str.ofString "treepool.faults") 187 }, { hash := PySem.PyData.keyHash P (PySem.Str.ofString "__firstlineno__"), key := PySem.Value.str (PySem.Str.ofString "__firstlineno__") 229, val := PySem.Value.int 7 228 }, { hash := PySem.PyData.keyHash P (PySem.Str.ofString "__static_attributes__"), key := PySem.Value.str (PySem.Str.ofString "__static_attributes__") 230, val := PySem.Value.ref 42 }, { hash := PySem.PyData.keyHash P (PySem.Str.ofString "__doc__"), key := PySem.Value.str (PySem.Str.ofString "__doc__") 231, val := PySem.Value.none }] 2 }),
  (44, { cls := PySem.Value.type "type", data := PySem.Data.cls { name := PySem.Str.ofString "Corrupt", bases := [PySem.Value.ref 31], mro := [PySem.Value.ref 44, PySem.Value.ref 31, PySem.Value.type "Exception", PySem.Value.type "BaseException", PySem.Value.type "object"], ns := 43, qualname := PySem.Str.ofString "Corrupt" }, slots := #[some (PySem.Value.ref 35), none, some (PySem.Value.str (PySem.Str.ofString "Corrupt") 218), some (PySem.Value.str (PySem.Str.ofString "Corrupt") 226), some (PySem.Value.builtin "Exception.__new__"), some (PySem.Value.bool true)] }),
  (47, { cls := PySem.Value.type "tuple", data := PySem.Data.seq #[] }),
  (49, { cls := PySem.Value.type "tuple", data := PySem.Data.seq #[PySem.Value.str (PySem.Str.ofString "number") 249, PySem.Value.str (PySem.Str.ofString "rest") 250] }),
  (50, { cls := PySem.Value.type "tuple", data := PySem.Data.seq #[] }),
  (52, { cls := PySem.Value.type "code", data := PySem.Data.fields #[PySem.Value.str (PySem.Str.ofString "more_octets") 246, PySem.Value.str (PySem.Str.ofString "more_octets") 247, PySem.Value.str (PySem.Str.ofString "/claim/cut.py") 248, PySem.Value.int 15 0, PySem.Value.int 1 0, PySem.Value.int 0 0, PySem.Value.int 0 0, PySem.Value.int 3 0, PySem.Value.ref 47, PySem.Value.bool true, PySem.Value.int 181 0, PySem.Value.ref 48, PySem.Value.none, PySem.Value.ref 49, PySem.Value.ref 50, PySem.Value.ref 51, PySem.Value.int 251 0, PySem.Value.int 15 0, PySem.Value.str (PySem.Str.ofString "/claim/cut.py") 252] }),
  (53, { cls := PySem.Value.type "function", data := PySem.Data.func { name := PySem.Str.ofString "more_octets", qualname := PySem.Str.ofString "more_octets", params := (fdP (stm 9)), body := PySem.FuncBody.stmts (fdB (stm 9)), scope := (fdS (stm 9)), globals := 3, closure := [], defaults := PySem.Value.none, kwdefaults := PySem.Value.none, pyModule := PySem.Value.str (PySem.Str.ofString "treepool.lz4") 234, code := PySem.Value.ref 52 } }),
  (54, { cls := PySem.Value.type "tuple", data := PySem.Data.seq #[] }),
  (56, { cls := PySem.Value.type "tuple", data := PySem.Data.seq #[PySem.Value.str (PySem.Str.ofString "octets") 257, PySem.Value.str (PySem.Str.ofString "at") 258] }),
  (57, { cls := PySem.Value.type "tuple", data := PySem.Data.seq #[] }),
  (59, { cls := PySem.Value.type "code", data := PySem.Data.fields #[PySem.Value.str (PySem.Str.ofString "word_at") 254, PySem.Value.str (PySem.Str.ofString "word_at") 255, PySem.Value.str (PySem.Str.ofString "/claim/cut.py") 256, PySem.Value.int 20 0, PySem.Value.int 2 0, PySem.Value.int 0 0, PySem.Value.int 0 0, PySem.Value.int 3 0, PySem.Value.ref 54, PySem.Value.bool true, PySem.Value.int 181 0, PySem.Value.ref 55, PySem.Value.none, PySem.Value.ref 56, PySem.Value.ref 57, PySem.Value.ref 58, PySem.Value.int 259 0, PySem.Value.int 20 0, PySem.Value.str (PySem.Str.ofString "/claim/cut.py") 260] }),
  (60, { cls := PySem.Value.type "function", data := PySem.Data.func { name := PySem.Str.ofString "word_at", qualname := PySem.Str.ofString "word_at", params := (fdP (stm 10)), body := PySem.FuncBody.stmts (fdB (stm 10)), scope := (fdS (stm 10)), globals := 3, closure := [], defaults := PySem.Value.none, kwdefaults := PySem.Value.none, pyModule := PySem.Value.str (PySem.Str.ofString "treepool.lz4") 234, code := PySem.Value.ref 59 } }),
  (61, { cls := PySem.Value.type "tuple", data := PySem.Data.seq #[] }),
  (63, { cls := PySem.Value.type "tuple", data := PySem.Data.seq #[PySem.Value.str (PySem.Str.ofString "octets") 265, PySem.Value.str (PySem.Str.ofString "at") 266, PySem.Value.str (PySem.Str.ofString "other") 267, PySem.Value.str (PySem.Str.ofString "end") 268, PySem.Value.str (PySem.Str.ofString "many") 269] }),
  (64, { cls := PySem.Value.type "tuple", data := PySem.Data.seq #[] }),
  (66, { cls := PySem.Value.type "code", data := PySem.Data.fields #[PySem.Value.str (PySem.Str.ofString "like_octets") 262, PySem.Value.str (PySem.Str.ofString "like_octets") 263, PySem.Value.str (PySem.Str.ofString "/claim/cut.py") 264, PySem.Value.int 22 0, PySem.Value.int 4 0, PySem.Value.int 0 0, PySem.Value.int 0 0, PySem.Value.int 3 0, PySem.Value.ref 61, PySem.Value.bool true, PySem.Value.int 181 0, PySem.Value.ref 62, PySem.Value.none, PySem.Value.ref 63, PySem.Value.ref 64, PySem.Value.ref 65, PySem.Value.int 270 0, PySem.Value.int 22 0, PySem.Value.str (PySem.Str.ofString "/claim/cut.py") 271] }),
  (67, { cls := PySem.Value.type "function", data := PySem.Data.func { name := PySem.Str.ofString "like_octets", qualname := PySem.Str.ofString "like_octets", params := (fdP (stm 11)), body := PySem.FuncBody.stmts (fdB (stm 11)), scope := (fdS (stm 11)), globals := 3, closure := [], defaults := PySem.Value.none, kwdefaults := PySem.Value.none, pyModule := PySem.Value.str (PySem.Str.ofString "treepool.lz4") 234, code := PySem.Value.ref 66 } }),
  (68, { cls := PySem.Value.type "tuple", data := PySem.Data.seq #[] }),
  (70, { cls := PySem.Value.type "tuple", data := PySem.Data.seq #[PySem.Value.str (PySem.Str.ofString "octets") 276, PySem.Value.str (PySem.Str.ofString "at") 277, PySem.Value.str (PySem.Str.ofString "other") 278, PySem.Value.str (PySem.Str.ofString "least") 279, PySem.Value.str (PySem.Str.ofString "many") 280] }),
  (71, { cls := PySem.Value.type "tuple", data := PySem.Data.seq #[] }),
  (73, { cls := PySem.Value.type "code", data := PySem.Data.fields #[PySem.Value.str (PySem.Str.ofString "like_ahead") 273, PySem.Value.str (PySem.Str.ofString "like_ahead") 274, PySem.Value.str (PySem.Str.ofString "/claim/cut.py") 275, PySem.Value.int 27 0, PySem.Value.int 4 0, PySem.Value.int 0 0, PySem.Value.int 0 0, PySem.Value.int 3 0, PySem.Value.ref 68, PySem.Value.bool true, PySem.Value.int 181 0, PySem.Value.ref 69, PySem.Value.none, PySem.Value.ref 70, PySem.Value.ref 71, PySem.Value.ref 72, PySem.Value.int 281 0, PySem.Value.int 27 0, PySem.Value.str (PySem.Str.ofString "/claim/cut.py") 282] }),
  (74, { cls := PySem.Value.type "function", data := PySem.Data.func { name := PySem.Str.ofString "like_ahead", qualname := PySem.Str.ofString "like_ahead", params := (fdP (stm 12)), body := PySem.FuncBody.stmts (fdB (stm 12)), scope := (fdS (stm 12)), globals := 3, closure := [], defaults := PySem.Value.none, kwdefaults := PySem.Value.none, pyModule := PySem.Value.str (PySem.Str.ofString "treepool.lz4") 234, code := PySem.Value.ref 73 } }),
  (75, { cls := PySem.Value.type "tuple", data := PySem.Data.seq #[] }),
  (77, { cls := PySem.Value.type "tuple", data := PySem.Data.seq #[PySem.Value.str (PySem.Str.ofString "literals") 287, PySem.Value.str (PySem.Str.ofString "back") 288, PySem.Value.str (PySem.Str.ofString "many") 289, PySem.Value.str (PySem.Str.ofString "token") 290, PySem.Value.str (PySem.Str.ofString "head") 291] }),
  (78, { cls := PySem.Value.type "tuple", data := PySem.Data.seq #[] }),
  (80, { cls := PySem.Value.type "code", data := PySem.Data.fields #[PySem.Value.str (PySem.Str.ofString "sequence") 284, PySem.Value.str (PySem.Str.ofString "sequence") 285, PySem.Value.str (PySem.Str.ofString "/claim/cut.py") 286, PySem.Value.int 32 0, PySem.Value.int 3 0, PySem.Value.int 0 0, PySem.Value.int 0 0, PySem.Value.int 3 0, PySem.Value.ref 75, PySem.Value.bool true, PySem.Value.int 181 0, PySem.Value.ref 76, PySem.Value.none, PySem.Value.ref 77, PySem.Value.ref 78, PySem.Value.ref 79, PySem.Value.int 292 0, PySem.Value.int 32 0, PySem.Value.str (PySem.Str.ofString "/claim/cut.py") 293] }),
  (81, { cls := PySem.Value.type "function", data := PySem.Data.func { name := PySem.Str.ofString "sequence", qualname := PySem.Str.ofString "sequence", params := (fdP (stm 13)), body := PySem.FuncBody.stmts (fdB (stm 13)), scope := (fdS (stm 13)), globals := 3, closure := [], defaults := PySem.Value.none, kwdefaults := PySem.Value.none, pyModule := PySem.Value.str (PySem.Str.ofString "treepool.lz4") 234, code := PySem.Value.ref 80 } }),
  (82, { cls := PySem.Value.type "tuple", data := PySem.Data.seq #[] }),
  (84, { cls := PySem.Value.type "tuple", data := PySem.Data.seq #[PySem.Value.str (PySem.Str.ofString "literals") 298] }),
  (85, { cls := PySem.Value.type "tuple", data := PySem.Data.seq #[] }),
  (87, { cls := PySem.Value.type "code", data := PySem.Data.fields #[PySem.Value.str (PySem.Str.ofString "last_sequence") 295, PySem.Value.str (PySem.Str.ofString "last_sequence") 296, PySem.Value.str (PySem.Str.ofString "/claim/cut.py") 297, PySem.Value.int 36 0, PySem.Value.int 1 0, PySem.Value.int 0 0, PySem.Value.int 0 0, PySem.Value.int 3 0, PySem.Value.ref 82, PySem.Value.bool true, PySem.Value.int 181 0, PySem.Value.ref 83, PySem.Value.none, PySem.Value.ref 84, PySem.Value.ref 85, PySem.Value.ref 86, PySem.Value.int 299 0, PySem.Value.int 36 0, PySem.Value.str (PySem.Str.ofString "/claim/cut.py") 300] }),
  (88, { cls := PySem.Value.type "function", data := PySem.Data.func { name := PySem.Str.ofString "last_sequence", qualname := PySem.Str.ofString "last_sequence", params := (fdP (stm 14)), body := PySem.FuncBody.stmts (fdB (stm 14)), scope := (fdS (stm 14)), globals := 3, closure := [], defaults := PySem.Value.none, kwdefaults := PySem.Value.none, pyModule := PySem.Value.str (PySem.Str.ofString "treepool.lz4") 234, code := PySem.Value.ref 87 } }),
  (89, { cls := PySem.Value.type "tuple", data := PySem.Data.seq #[] }),
  (91, { cls := PySem.Value.type "tuple", data := PySem.Data.seq #[PySem.Value.str (PySem.Str.ofString "octets") 305, PySem.Value.str (PySem.Str.ofString "at") 306, PySem.Value.str (PySem.Str.ofString "begin") 307, PySem.Value.str (PySem.Str.ofString "known") 308, PySem.Value.str (PySem.Str.ofString "word") 309, PySem.Value.str (PySem.Str.ofString "other") 310, PySem.Value.str (PySem.Str.ofString "ahead") 311, PySem.Value.str (PySem.Str.ofString "many") 312] }),
  (92, { cls := PySem.Value.type "tuple", data := PySem.Data.seq #[] }),
  (94, { cls := PySem.Value.type "code", data := PySem.Data.fields #[PySem.Value.str (PySem.Str.ofString "copy_at") 302, PySem.Value.str (PySem.Str.ofString "copy_at") 303, PySem.Value.str (PySem.Str.ofString "/claim/cut.py") 304, PySem.Value.int 38 0, PySem.Value.int 4 0, PySem.Value.int 0 0, PySem.Value.int 0 0, PySem.Value.int 3 0, PySem.Value.ref 89, PySem.Value.bool true, PySem.Value.int 181 0, PySem.Value.ref 90, PySem.Value.none, PySem.Value.ref 91, PySem.Value.ref 92, PySem.Value.ref 93, PySem.Value.int 313 0, PySem.Value.int 38 0, PySem.Value.str (PySem.Str.ofString "/claim/cut.py") 314] }),
  (95, { cls := PySem.Value.type "function", data := PySem.Data.func { name := PySem.Str.ofString "copy_at", qualname := PySem.Str.ofString "copy_at", params := (fdP (stm 15)), body := PySem.FuncBody.stmts (fdB (stm 15)), scope := (fdS (stm 15)), globals := 3, closure := [], defaults := PySem.Value.none, kwdefaults := PySem.Value.none, pyModule := PySem.Value.str (PySem.Str.ofString "treepool.lz4") 234, code := PySem.Value.ref 94 } }),
  (96, { cls := PySem.Value.type "tuple", data := PySem.Data.seq #[] }),
  (98, { cls := PySem.Value.type "tuple", data := PySem.Data.seq #[PySem.Value.str (PySem.Str.ofString "octets") 319, PySem.Value.str (PySem.Str.ofString "most") 320, PySem.Value.str (PySem.Str.ofString "found") 321, PySem.Value.str (PySem.Str.ofString "known") 322, PySem.Value.str (PySem.Str.ofString "begin") 323, PySem.Value.str (PySem.Str.ofString "at") 324, PySem.Value.str (PySem.Str.ofString "copy") 325] }),
  (99, { cls := PySem.Value.type "tuple", data := PySem.Data.seq #[] }),
  (101, { cls := PySem.Value.type "code", data := PySem.Data.fields #[PySem.Value.str (PySem.Str.ofString "lz4_pack") 316, PySem.Value.str (PySem.Str.ofString "lz4_pack") 317, PySem.Value.str (PySem.Str.ofString "/claim/cut.py") 318, PySem.Value.int 47 0, PySem.Value.int 2 0, PySem.Value.int 0 0, PySem.Value.int 0 0, PySem.Value.int 3 0, PySem.Value.ref 96, PySem.Value.bool true, PySem.Value.int 181 0, PySem.Value.ref 97, PySem.Value.none, PySem.Value.ref 98, PySem.Value.ref 99, PySem.Value.ref 100, PySem.Value.int 326 0, PySem.Value.int 47 0, PySem.Value.str (PySem.Str.ofString "/claim/cut.py") 327] }),
  (102, { cls := PySem.Value.type "function", data := PySem.Data.func { name := PySem.Str.ofString "lz4_pack", qualname := PySem.Str.ofString "lz4_pack", params := (fdP (stm 16)), body := PySem.FuncBody.stmts (fdB (stm 16)), scope := (fdS (stm 16)), globals := 3, closure := [], defaults := PySem.Value.none, kwdefaults := PySem.Value.none, pyModule := PySem.Value.str (PySem.Str.ofString "treepool.lz4") 234, code := PySem.Value.ref 101 } }),
  (103, { cls := PySem.Value.type "tuple", data := PySem.Data.seq #[] }),
  (105, { cls := PySem.Value.type "tuple", data := PySem.Data.seq #[PySem.Value.str (PySem.Str.ofString "octets") 332, PySem.Value.str (PySem.Str.ofString "at") 333, PySem.Value.str (PySem.Str.ofString "told") 334, PySem.Value.str (PySem.Str.ofString "length") 335] }),
  (106, { cls := PySem.Value.type "tuple", data := PySem.Data.seq #[] }),
  (108, { cls := PySem.Value.type "code", data := PySem.Data.fields #[PySem.Value.str (PySem.Str.ofString "length_in") 329, PySem.Value.str (PySem.Str.ofString "length_in") 330, PySem.Value.str (PySem.Str.ofString "/claim/cut.py") 331, PySem.Value.int 60 0, PySem.Value.int 3 0, PySem.Value.int 0 0, PySem.Value.int 0 0, PySem.Value.int 3 0, PySem.Value.ref 103, PySem.Value.bool true, PySem.Value.int 181 0, PySem.Value.ref 104, PySem.Value.none, PySem.Value.ref 105, PySem.Value.ref 106, PySem.Value.ref 107, PySem.Value.int 336 0, PySem.Value.int 60 0, PySem.Value.str (PySem.Str.ofString "/claim/cut.py") 337] }),
  (109, { cls := PySem.Value.type "function", data := PySem.Data.func { name := PySem.Str.ofString "length_in", qualname := PySem.Str.ofString "length_in", params := (fdP (stm 17)), body := PySem.FuncBody.stmts (fdB (stm 17)), scope := (fdS (stm 17)), globals := 3, closure := [], defaults := PySem.Value.none, kwdefaults := PySem.Value.none, pyModule := PySem.Value.str (PySem.Str.ofString "treepool.lz4") 234, code := PySem.Value.ref 108 } }),
  (110, { cls := PySem.Value.type "tuple", data := PySem.Data.seq #[] }),
  (112, { cls := PySem.Value.type "tuple", data := PySem.Data.seq #[PySem.Value.str (PySem.Str.ofString "octets") 342, PySem.Value.str (PySem.Str.ofString "at") 343, PySem.Value.str (PySem.Str.ofString "told") 344, PySem.Value.str (PySem.Str.ofString "found") 345, PySem.Value.str (PySem.Str.ofString "size") 346, PySem.Value.str (PySem.Str.ofString "back") 347, PySem.Value.str (PySem.Str.ofString "many") 348, PySem.Value.str (PySem.Str.ofString "turn") 349] }),
  (113, { cls := PySem.Value.type "tuple", data := PySem.Data.seq #[] }),
  (115, { cls := PySem.Value.type "code", data := PySem.Data.fields #[PySem.Value.str (PySem.Str.ofString "copy_in") 339, PySem.Value.str (PySem.Str.ofString "copy_in") 340, PySem.Value.str (PySem.Str.ofString "/claim/cut.py") 341, PySem.Value.int 70 0, PySem.Value.int 5 0, PySem.Value.int 0 0, PySem.Value.int 0 0, PySem.Value.int 3 0, PySem.Value.ref 110, PySem.Value.bool true, PySem.Value.int 181 0, PySem.Value.ref 111, PySem.Value.none, PySem.Value.ref 112, PySem.Value.ref 113, PySem.Value.ref 114, PySem.Value.int 350 0, PySem.Value.int 70 0, PySem.Value.str (PySem.Str.ofString "/claim/cut.py") 351] }),
  (116, { cls := PySem.Value.type "function", data := PySem.Data.func { name := PySem.Str.ofString "copy_in", qualname := PySem.Str.ofString "copy_in", params := (fdP (stm 18)), body := PySem.FuncBody.stmts (fdB (stm 18)), scope := (fdS (stm 18)), globals := 3, closure := [], defaults := PySem.Value.none, kwdefaults := PySem.Value.none, pyModule := PySem.Value.str (PySem.Str.ofString "treepool.lz4") 234, code := PySem.Value.ref 115 } }),
  (117, { cls := PySem.Value.type "tuple", data := PySem.Data.seq #[] }),
  (119, { cls := PySem.Value.type "tuple", data := PySem.Data.seq #[PySem.Value.str (PySem.Str.ofString "octets") 356, PySem.Value.str (PySem.Str.ofString "size") 357, PySem.Value.str (PySem.Str.ofString "found") 358, PySem.Value.str (PySem.Str.ofString "at") 359, PySem.Value.str (PySem.Str.ofString "token") 360, PySem.Value.str (PySem.Str.ofString "many") 361] }),
  (120, { cls := PySem.Value.type "tuple", data := PySem.Data.seq #[] }),
  (122, { cls := PySem.Value.type "code", data := PySem.Data.fields #[PySem.Value.str (PySem.Str.ofString "lz4_unpack") 353, PySem.Value.str (PySem.Str.ofString "lz4_unpack") 354, PySem.Value.str (PySem.Str.ofString "/claim/cut.py") 355, PySem.Value.int 83 0, PySem.Value.int 2 0, PySem.Value.int 0 0, PySem.Value.int 0 0, PySem.Value.int 3 0, PySem.Value.ref 117, PySem.Value.bool true, PySem.Value.int 181 0, PySem.Value.ref 118, PySem.Value.none, PySem.Value.ref 119, PySem.Value.ref 120, PySem.Value.ref 121, PySem.Value.int 362 0, PySem.Value.int 83 0, PySem.Value.str (PySem.Str.ofString "/claim/cut.py") 363] }),
  (123, { cls := PySem.Value.type "function", data := PySem.Data.func { name := PySem.Str.ofString "lz4_unpack", qualname := PySem.Str.ofString "lz4_unpack", params := (fdP (stm 19)), body := PySem.FuncBody.stmts (fdB (stm 19)), scope := (fdS (stm 19)), globals := 3, closure := [], defaults := PySem.Value.none, kwdefaults := PySem.Value.none, pyModule := PySem.Value.str (PySem.Str.ofString "treepool.lz4") 234, code := PySem.Value.ref 122 } }),
  (124, { cls := PySem.Value.type "tuple", data := PySem.Data.seq #[] }),
  (126, { cls := PySem.Value.type "tuple", data := PySem.Data.seq #[PySem.Value.str (PySem.Str.ofString "script") 370, PySem.Value.str (PySem.Str.ofString "hand") 371, PySem.Value.str (PySem.Str.ofString "below") 372] }),
  (127, { cls := PySem.Value.type "tuple", data := PySem.Data.seq #[] }),
  (129, { cls := PySem.Value.type "code", data := PySem.Data.fields #[PySem.Value.str (PySem.Str.ofString "_law_draw") 367, PySem.Value.str (PySem.Str.ofString "_law_draw") 368, PySem.Value.str (PySem.Str.ofString "/claim/cut.py") 369, PySem.Value.int 100 0, PySem.Value.int 3 0, PySem.Value.int 0 0, PySem.Value.int 0 0, PySem.Value.int 3 0, PySem.Value.ref 124, PySem.Value.bool true, PySem.Value.int 181 0, PySem.Value.ref 125, PySem.Value.none, PySem.Value.ref 126, PySem.Value.ref 127, PySem.Value.ref 128, PySem.Value.int 373 0, PySem.Value.int 100 0, PySem.Value.str (PySem.Str.ofString "/claim/cut.py") 374] }),
  (130, { cls := PySem.Value.type "function", data := PySem.Data.func { name := PySem.Str.ofString "_law_draw", qualname := PySem.Str.ofString "_law_draw", params := (fdP (stm 21)), body := PySem.FuncBody.stmts (fdB (stm 21)), scope := (fdS (stm 21)), globals := 3, closure := [], defaults := PySem.Value.none, kwdefaults := PySem.Value.none, pyModule := PySem.Value.str (PySem.Str.ofString "law_np0178_01") 365, code := PySem.Value.ref 129 } }),
  (131, { cls := PySem.Value.type "tuple", data := PySem.Data.seq #[] }),
  (133, { cls := PySem.Value.type "tuple", data := PySem.Data.seq #[PySem.Value.str (PySem.Str.ofString "script") 379, PySem.Value.str (PySem.Str.ofString "hand") 380, PySem.Value.str (PySem.Str.ofString "found") 381, PySem.Value.str (PySem.Str.ofString "turn") 382, PySem.Value.str (PySem.Str.ofString "digits") 383, PySem.Value.str (PySem.Str.ofString "way") 384, PySem.Value.str (PySem.Str.ofString "number") 385, PySem.Value.str (PySem.Str.ofString "many") 386, PySem.Value.str (PySem.Str.ofString "begin") 387] }),
  (134, { cls := PySem.Value.type "tuple", data := PySem.Data.seq #[] }),
  (136, { cls := PySem.Value.type "code", data := PySem.Data.fields #[PySem.Value.str (PySem.Str.ofString "_law_octets") 376, PySem.Value.str (PySem.Str.ofString "_law_octets") 377, PySem.Value.str (PySem.Str.ofString "/claim/cut.py") 378, PySem.Value.int 105 0, PySem.Value.int 2 0, PySem.Value.int 0 0, PySem.Value.int 0 0, PySem.Value.int 3 0, PySem.Value.ref 131, PySem.Value.bool true, PySem.Value.int 181 0, PySem.Value.ref 132, PySem.Value.none, PySem.Value.ref 133, PySem.Value.ref 134, PySem.Value.ref 135, PySem.Value.int 388 0, PySem.Value.int 105 0, PySem.Value.str (PySem.Str.ofString "/claim/cut.py") 389] }),
  (137, { cls := PySem.Value.type "function", data := PySem.Data.func { name := PySem.Str.ofString "_law_octets", qualname := PySem.Str.ofString "_law_octets", params := (fdP (stm 22)), body := PySem.FuncBody.stmts (fdB (stm 22)), scope := (fdS (stm 22)), globals := 3, closure := [], defaults := PySem.Value.none, kwdefaults := PySem.Value.none, pyModule := PySem.Value.str (PySem.Str.ofString "law_np0178_01") 365, code := PySem.Value.ref 136 } }),
  (138, { cls := PySem.Value.type "tuple", data := PySem.Data.seq #[] }),
  (140, { cls := PySem.Value.type "tuple", data := PySem.Data.seq #[PySem.Value.str (PySem.Str.ofString "octets") 394, PySem.Value.str (PySem.Str.ofString "at") 395, PySem.Value.str (PySem.Str.ofString "half") 396, PySem.Value.str (PySem.Str.ofString "end") 397] }),
  (141, { cls := PySem.Value.type "tuple", data := PySem.Data.seq #[] }),
  (143, { cls := PySem.Value.type "code", data := PySem.Data.fields #[PySem.Value.str (PySem.Str.ofString "_law_length") 391, PySem.Value.str (PySem.Str.ofString "_law_length") 392, PySem.Value.str (PySem.Str.ofString "/claim/cut.py") 393, PySem.Value.int 118 0, PySem.Value.int 3 0, PySem.Value.int 0 0, PySem.Value.int 0 0, PySem.Value.int 3 0, PySem.Value.ref 138, PySem.Value.bool true, PySem.Value.int 181 0, PySem.Value.ref 139, PySem.Value.none, PySem.Value.ref 140, PySem.Value.ref 141, PySem.Value.ref 142, PySem.Value.int 398 0, PySem.Value.int 118 0, PySem.Value.str (PySem.Str.ofString "/claim/cut.py") 399] }),
  (144, { cls := PySem.Value.type "function", data := PySem.Data.func { name := PySem.Str.ofString "_law_length", qualname := PySem.Str.ofString "_law_length", params := (fdP (stm 23)), body := PySem.FuncBody.stmts (fdB (stm 23)), scope := (fdS (stm 23)), globals := 3, closure := [], defaults := PySem.Value.none, kwdefaults := PySem.Value.none, pyModule := PySem.Value.str (PySem.Str.ofString "law_np0178_01") 365, code := PySem.Value.ref 143 } }),
  (145, { cls := PySem.Value.type "tuple", data := PySem.Data.seq #[] }),
  (147, { cls := PySem.Value.type "tuple", data := PySem.Data.seq #[PySem.Value.str (PySem.Str.ofString "octets") 404, PySem.Value.str (PySem.Str.ofString "size") 405, PySem.Value.str (PySem.Str.ofString "found") 406, PySem.Value.str (PySem.Str.ofString "copies") 407, PySem.Value.str (PySem.Str.ofString "ends") 408, PySem.Value.str (PySem.Str.ofString "at") 409, PySem.Value.str (PySem.Str.ofString "token") 410, PySem.Value.str (PySem.Str.ofString "told") 411, PySem.Value.str (PySem.Str.ofString "many") 412, PySem.Value.str (PySem.Str.ofString "back") 413, PySem.Value.str (PySem.Str.ofString "length") 414] }),
  (148, { cls := PySem.Value.type "tuple", data := PySem.Data.seq #[] }),
  (150, { cls := PySem.Value.type "code", data := PySem.Data.fields #[PySem.Value.str (PySem.Str.ofString "_law_read") 401, PySem.Value.str (PySem.Str.ofString "_law_read") 402, PySem.Value.str (PySem.Str.ofString "/claim/cut.py") 403, PySem.Value.int 125 0, PySem.Value.int 2 0, PySem.Value.int 0 0, PySem.Value.int 0 0, PySem.Value.int 3 0, PySem.Value.ref 145, PySem.Value.bool true, PySem.Value.int 181 0, PySem.Value.ref 146, PySem.Value.none, PySem.Value.ref 147, PySem.Value.ref 148, PySem.Value.ref 149, PySem.Value.int 415 0, PySem.Value.int 125 0, PySem.Value.str (PySem.Str.ofString "/claim/cut.py") 416] }),
  (151, { cls := PySem.Value.type "function", data := PySem.Data.func { name := PySem.Str.ofString "_law_read", qualname := PySem.Str.ofString "_law_read", params := (fdP (stm 24)), body := PySem.FuncBody.stmts (fdB (stm 24)), scope := (fdS (stm 24)), globals := 3, closure := [], defaults := PySem.Value.none, kwdefaults := PySem.Value.none, pyModule := PySem.Value.str (PySem.Str.ofString "law_np0178_01") 365, code := PySem.Value.ref 150 } }),
  (152, { cls := PySem.Value.type "tuple", data := PySem.Data.seq #[] }),
  (155, { cls := PySem.Value.type "code", data := PySem.Data.fields #[PySem.Value.str (PySem.Str.ofString "_law_copies_right") 418, PySem.Value.str (PySem.Str.ofString "_law_copies_right") 419, PySem.Value.str (PySem.Str.ofString "/claim/cut.py") 420, PySem.Value.int 152 0, PySem.Value.int 2 0, PySem.Value.int 0 0, PySem.Value.int 0 0, PySem.Value.int 3 0, PySem.Value.ref 152, PySem.Value.bool true, PySem.Value.int 181 0, PySem.Value.ref 153, PySem.Value.none, PySem.Value.none, PySem.Value.none, PySem.Value.ref 154, PySem.Value.int 421 0, PySem.Value.int 152 0, PySem.Value.str (PySem.Str.ofString "/claim/cut.py") 422] }),
  (156, { cls := PySem.Value.type "function", data := PySem.Data.func { name := PySem.Str.ofString "_law_copies_right", qualname := PySem.Str.ofString "_law_copies_right", params := (fdP (stm 25)), body := PySem.FuncBody.stmts (fdB (stm 25)), scope := (fdS (stm 25)), globals := 3, closure := [], defaults := PySem.Value.none, kwdefaults := PySem.Value.none, pyModule := PySem.Value.str (PySem.Str.ofString "law_np0178_01") 365, code := PySem.Value.ref 155 } }),
  (157, { cls := PySem.Value.type "tuple", data := PySem.Data.seq #[] }),
  (159, { cls := PySem.Value.type "tuple", data := PySem.Data.seq #[PySem.Value.str (PySem.Str.ofString "octets") 427, PySem.Value.str (PySem.Str.ofString "limit") 428, PySem.Value.str (PySem.Str.ofString "whole") 429, PySem.Value.str (PySem.Str.ofString "told") 430, PySem.Value.str (PySem.Str.ofString "copies") 431, PySem.Value.str (PySem.Str.ofString "ends") 432] }),
  (160, { cls := PySem.Value.type "tuple", data := PySem.Data.seq #[] }),
  (162, { cls := PySem.Value.type "code", data := PySem.Data.fields #[PySem.Value.str (PySem.Str.ofString "_law_pack_right") 424, PySem.Value.str (PySem.Str.ofString "_law_pack_right") 425, PySem.Value.str (PySem.Str.ofString "/claim/cut.py") 426, PySem.Value.int 165 0, PySem.Value.int 2 0, PySem.Value.int 0 0, PySem.Value.int 0 0, PySem.Value.int 3 0, PySem.Value.ref 157, PySem.Value.bool true, PySem.Value.int 181 0, PySem.Value.ref 158, PySem.Value.none, PySem.Value.ref 159, PySem.Value.ref 160, PySem.Value.ref 161, PySem.Value.int 433 0, PySem.Value.int 165 0, PySem.Value.str (PySem.Str.ofString "/claim/cut.py") 434] }),
  (163, { cls := PySem.Value.type "function", data := PySem.Data.func { name := PySem.Str.ofString "_law_pack_right", qualname := PySem.Str.ofString "_law_pack_right", params := (fdP (stm 26)), body := PySem.FuncBody.stmts (fdB (stm 26)), scope := (fdS (stm 26)), globals := 3, closure := [], defaults := PySem.Value.none, kwdefaults := PySem.Value.none, pyModule := PySem.Value.str (PySem.Str.ofString "law_np0178_01") 365, code := PySem.Value.ref 162 } }),
  (164, { cls := PySem.Value.type "tuple", data := PySem.Data.seq #[] }),
  (166, { cls := PySem.Value.type "tuple", data := PySem.Data.seq #[PySem.Value.str (PySem.Str.ofString "octets") 439, PySem.Value.str (PySem.Str.ofString "size") 440, PySem.Value.str (PySem.Str.ofString "fault") 441] }),
  (167, { cls := PySem.Value.type "tuple", data := PySem.Data.seq #[] }),
  (169, { cls := PySem.Value.type "code", data := PySem.Data.fields #[PySem.Value.str (PySem.Str.ofString "_law_heard") 436, PySem.Value.str (PySem.Str.ofString "_law_heard") 437, PySem.Value.str (PySem.Str.ofString "/claim/cut.py") 438, PySem.Value.int 173 0, PySem.Value.int 2 0, PySem.Value.int 0 0, PySem.Value.int 0 0, PySem.Value.int 3 0, PySem.Value.ref 164, PySem.Value.bool true, PySem.Value.int 181 0, PySem.Value.ref 165, PySem.Value.none, PySem.Value.ref 166, PySem.Value.ref 167, PySem.Value.ref 168, PySem.Value.int 442 0, PySem.Value.int 173 0, PySem.Value.str (PySem.Str.ofString "/claim/cut.py") 443] }),
  (170, { cls := PySem.Value.type "function", data := PySem.Data.func { name := PySem.Str.ofString "_law_heard", qualname := PySem.Str.ofString "_law_heard", params := (fdP (stm 27)), body := PySem.FuncBody.stmts (fdB (stm 27)), scope := (fdS (stm 27)), globals := 3, closure := [], defaults := PySem.Value.none, kwdefaults := PySem.Value.none, pyModule := PySem.Value.str (PySem.Str.ofString "law_np0178_01") 365, code := PySem.Value.ref 169 } }),
  (171, { cls := PySem.Value.type "tuple", data := PySem.Data.seq #[] }),
  (173, { cls := PySem.Value.type "tuple", data := PySem.Data.seq #[PySem.Value.str (PySem.Str.ofString "number") 448, PySem.Value.str (PySem.Str.ofString "found") 449] }),
  (174, { cls := PySem.Value.type "tuple", data := PySem.Data.seq #[] }),
  (176, { cls := PySem.Value.type "code", data := PySem.Data.fields #[PySem.Value.str (PySem.Str.ofString "_law_more") 445, PySem.Value.str (PySem.Str.ofString "_law_more") 446, PySem.Value.str (PySem.Str.ofString "/claim/cut.py") 447, PySem.Value.int 178 0, PySem.Value.int 1 0, PySem.Value.int 0 0, PySem.Value.int 0 0, PySem.Value.int 3 0, PySem.Value.ref 171, PySem.Value.bool true, PySem.Value.int 181 0, PySem.Value.ref 172, PySem.Value.none, PySem.Value.ref 173, PySem.Value.ref 174, PySem.Value.ref 175, PySem.Value.int 450 0, PySem.Value.int 178 0, PySem.Value.str (PySem.Str.ofString "/claim/cut.py") 451] }),
  (177, { cls := PySem.Value.type "function", data := PySem.Data.func { name := PySem.Str.ofString "_law_more", qualname := PySem.Str.ofString "_law_more", params := (fdP (stm 28)), body := PySem.FuncBody.stmts (fdB (stm 28)), scope := (fdS (stm 28)), globals := 3, closure := [], defaults := PySem.Value.none, kwdefaults := PySem.Value.none, pyModule := PySem.Value.str (PySem.Str.ofString "law_np0178_01") 365, code := PySem.Value.ref 176 } }),
  (178, { cls := PySem.Value.type "tuple", data := PySem.Data.seq #[] }),
  (181, { cls := PySem.Value.type "code", data := PySem.Data.fields #[PySem.Value.str (PySem.Str.ofString "_law_sequence") 453, PySem.Value.str (PySem.Str.ofString "_law_sequence") 454, PySem.Value.str (PySem.Str.ofString "/claim/cut.py") 455, PySem.Value.int 184 0, PySem.Value.int 2 0, PySem.Value.int 0 0, PySem.Value.int 0 0, PySem.Value.int 3 0, PySem.Value.ref 178, PySem.Value.bool true, PySem.Value.int 181 0, PySem.Value.ref 179, PySem.Value.none, PySem.Value.none, PySem.Value.none, PySem.Value.ref 180, PySem.Value.int 456 0, PySem.Value.int 184 0, PySem.Value.str (PySem.Str.ofString "/claim/cut.py") 457] }),
  (182, { cls := PySem.Value.type "function", data := PySem.Data.func { name := PySem.Str.ofString "_law_sequence", qualname := PySem.Str.ofString "_law_sequence", params := (fdP (stm 29)), body := PySem.FuncBody.stmts (fdB (stm 29)), scope := (fdS (stm 29)), globals := 3, closure := [], defaults := PySem.Value.none, kwdefaults := PySem.Value.none, pyModule := PySem.Value.str (PySem.Str.ofString "law_np0178_01") 365, code := PySem.Value.ref 181 } }),
  (183, { cls := PySem.Value.type "tuple", data := PySem.Data.seq #[] }),
  (186, { cls := PySem.Value.type "code", data := PySem.Data.fields #[PySem.Value.str (PySem.Str.ofString "_law_any") 459, PySem.Value.str (PySem.Str.ofString "_law_any") 460, PySem.Value.str (PySem.Str.ofString "/claim/cut.py") 461, PySem.Value.int 192 0, PySem.Value.int 2 0, PySem.Value.int 0 0, PySem.Value.int 0 0, PySem.Value.int 3 0, PySem.Value.ref 183, PySem.Value.bool true, PySem.Value.int 181 0, PySem.Value.ref 184, PySem.Value.none, PySem.Value.none, PySem.Value.none, PySem.Value.ref 185, PySem.Value.int 462 0, PySem.Value.int 192 0, PySem.Value.str (PySem.Str.ofString "/claim/cut.py") 463] }),
  (187, { cls := PySem.Value.type "function", data := PySem.Data.func { name := PySem.Str.ofString "_law_any", qualname := PySem.Str.ofString "_law_any", params := (fdP (stm 30)), body := PySem.FuncBody.stmts (fdB (stm 30)), scope := (fdS (stm 30)), globals := 3, closure := [], defaults := PySem.Value.none, kwdefaults := PySem.Value.none, pyModule := PySem.Value.str (PySem.Str.ofString "law_np0178_01") 365, code := PySem.Value.ref 186 } }),
  (188, { cls := PySem.Value.type "tuple", data := PySem.Data.seq #[] }),
  (190, { cls := PySem.Value.type "tuple", data := PySem.Data.seq #[PySem.Value.str (PySem.Str.ofString "script") 468, PySem.Value.str (PySem.Str.ofString "hand") 469, PySem.Value.str (PySem.Str.ofString "octets") 470, PySem.Value.str (PySem.Str.ofString "turn") 471, PySem.Value.str (PySem.Str.ofString "form") 472, PySem.Value.str (PySem.Str.ofString "ends") 473, PySem.Value.str (PySem.Str.ofString "size") 474, PySem.Value.str (PySem.Str.ofString "asked") 475] }),
  (191, { cls := PySem.Value.type "tuple", data := PySem.Data.seq #[] }),
  (193, { cls := PySem.Value.type "code", data := PySem.Data.fields #[PySem.Value.str (PySem.Str.ofString "law") 465, PySem.Value.str (PySem.Str.ofString "law") 466, PySem.Value.str (PySem.Str.ofString "/claim/cut.py") 467, PySem.Value.int 199 0, PySem.Value.int 1 0, PySem.Value.int 0 0, PySem.Value.int 0 0, PySem.Value.int 3 0, PySem.Value.ref 188, PySem.Value.bool true, PySem.Value.int 181 0, PySem.Value.ref 189, PySem.Value.none, PySem.Value.ref 190, PySem.Value.ref 191, PySem.Value.ref 192, PySem.Value.int 476 0, PySem.Value.int 199 0, PySem.Value.str (PySem.Str.ofString "/claim/cut.py") 477] }),
  (194, { cls := PySem.Value.type "function", data := PySem.Data.func { name := PySem.Str.ofString "law", qualname := PySem.Str.ofString "law", params := (fdP (stm 31)), body := PySem.FuncBody.stmts (fdB (stm 31)), scope := (fdS (stm 31)), globals := 3, closure := [], defaults := PySem.Value.none, kwdefaults := PySem.Value.none, pyModule := PySem.Value.str (PySem.Str.ofString "law_np0178_01") 365, code := PySem.Value.ref 193 } })]
noncomputable def fragLit : PSigma fun f : Params → Frag => f = fragRaw := ⟨_, by unfold fragRaw; dsimp only [stm, fdP, fdB, fdS, inner, PySem.Challenge.pw_np0178_01, List.drop, List.headD]⟩
noncomputable def frag : Params → Frag := fragLit.1
noncomputable def fragAt : List Addr := [2, 3, 15, 22, 24, 25, 27, 28, 29, 30, 31, 32, 35, 42, 43, 44, 47, 49, 50, 52, 53, 54, 56, 57, 59, 60, 61, 63, 64, 66, 67, 68, 70, 71, 73, 74, 75, 77, 78, 80, 81, 82, 84, 85, 87, 88, 89, 91, 92, 94, 95, 96, 98, 99, 101, 102, 103, 105, 106, 108, 109, 110, 112, 113, 115, 116, 117, 119, 120, 122, 123, 124, 126, 127, 129, 130, 131, 133, 134, 136, 137, 138, 140, 141, 143, 144, 145, 147, 148, 150, 151, 152, 155, 156, 157, 159, 160, 162, 163, 164, 166, 167, 169, 170, 171, 173, 174, 176, 177, 178, 181, 182, 183, 186, 187, 188, 190, 191, 193, 194]
noncomputable def view : Program := { PySem.Challenge.pw_np0178_01 with main := { PySem.Challenge.pw_np0178_01.main with body := (PySem.Challenge.pw_np0178_01.main.body.drop 1).take 2 ++ (PySem.Challenge.pw_np0178_01.main.body.drop 4).take 16 ++ PySem.Challenge.pw_np0178_01.main.body.drop 21 } }
noncomputable def hook : Hook := kHook frag fragAt fun _ => by kernel_rfl
end MineTop

-- HL
set_option Elab.async false
set_option maxRecDepth 100000
set_option maxHeartbeats 8000000
set_option linter.all false
open PySem PySem.W PyProof.Rows PySem.Calls
namespace MineTop
theorem said : OpenLaw.wellSaid PySem.Challenge.rw_np0178_01 = true := by
  unfold OpenLaw.wellSaid OpenRow.wellSaid OpenRow.partSaid looksOpen
  repeat' with_reducible refine look_both ?_ ?_
  all_goals decide +kernel
theorem left : LeftO PySem.Challenge.rw_np0178_01.row.prog view [] (fun s => xlAt view [] s && recOk (RowW.records PySem.Challenge.rw_np0178_01.row.toRowW) s) (Hook.obs hook) (Hook.val hook) 2570 := fun w => by kernel_rfl
end MineTop

-- MB
set_option Elab.async false
set_option maxRecDepth 100000
set_option maxHeartbeats 1000000
set_option linter.all false
namespace Mine
local macro_rules | `(tactic| omega) => `(tactic| lia)
open PySem PySem.W PySem.Calls PyProof.Rows PySem.Spec
open Builtin

namespace BA
theorem slot_append : Slot "bytearray" "append" "bytearray.append" :=
  .of (owner := "bytearray") (n := "append") (by rw [typeLookup_type, builtinLookup_eq_fast]; kernel_rfl) (by decide +kernel) (by decide +kernel) (by decide +kernel)
    (by first | exact .inl (by decide +kernel) | exact .inr (by decide +kernel)) (by rw [isSubtype_type]; kernel_rfl)
theorem slot_extend : Slot "bytearray" "extend" "bytearray.extend" :=
  .of (owner := "bytearray") (n := "extend") (by rw [typeLookup_type, builtinLookup_eq_fast]; kernel_rfl) (by decide +kernel) (by decide +kernel) (by decide +kernel)
    (by first | exact .inl (by decide +kernel) | exact .inr (by decide +kernel)) (by rw [isSubtype_type]; kernel_rfl)
theorem slot_len : Slot "bytearray" "__len__" "bytearray.__len__" :=
  .of (owner := "bytearray") (n := "__len__") (by rw [typeLookup_type, builtinLookup_eq_fast]; kernel_rfl) (by decide +kernel) (by decide +kernel) (by decide +kernel)
    (by first | exact .inl (by decide +kernel) | exact .inr (by decide +kernel)) (by rw [isSubtype_type]; kernel_rfl)
theorem slot_getitem : Slot "bytearray" "__getitem__" "bytearray.__getitem__" :=
  .of (owner := "bytearray") (n := "__getitem__") (by rw [typeLookup_type, builtinLookup_eq_fast]; kernel_rfl) (by decide +kernel) (by decide +kernel) (by decide +kernel)
    (by first | exact .inl (by decide +kernel) | exact .inr (by decide +kernel)) (by rw [isSubtype_type]; kernel_rfl)
theorem entry_append : entryFor table "bytearray.append" = some Builtin.«bytearray.append» := by first | exact entryFor_of_tree (by kernel_rfl) | exact entryFor_of_fast (by kernel_rfl)
theorem entry_extend : entryFor table "bytearray.extend" = some Builtin.«bytearray.extend» := by first | exact entryFor_of_tree (by kernel_rfl) | exact entryFor_of_fast (by kernel_rfl)
theorem entry_getitem : entryFor table "bytearray.__getitem__" = some Builtin.«bytearray.__getitem__» := by first | exact entryFor_of_tree (by kernel_rfl) | exact entryFor_of_fast (by kernel_rfl)
theorem type_append : typeOf (.builtin "bytearray.append") = pure (.type "method_descriptor") := by show builtinType _ = _; rw [builtinType_eq_fast]; kernel_rfl
theorem type_extend : typeOf (.builtin "bytearray.extend") = pure (.type "method_descriptor") := by show builtinType _ = _; rw [builtinType_eq_fast]; kernel_rfl
theorem plain : PlainAttrs "bytearray" :=
  ⟨⟨"bytearray.__getattribute__", by rw [typeLookup_type, builtinLookup_eq_fast]; kernel_rfl, by decide +kernel⟩, by rw [typeLookup_type, builtinLookup_eq_fast]; kernel_rfl⟩
theorem args_append (a b : Value) : argsOk "bytearray.append" ⟨[a, b], []⟩ := by unfold argsOk; kernel_rfl
theorem args_extend (a b : Value) : argsOk "bytearray.extend" ⟨[a, b], []⟩ := by unfold argsOk; kernel_rfl
theorem args_getitem (a b : Value) : argsOk "bytearray.__getitem__" ⟨[a, b], []⟩ := by unfold argsOk; kernel_rfl

section
variable {prog : Program} {w : World} {A : Around} {E : Value → Shared → Prop} {s : Shared} {a : Addr} {b : List UInt8} {sl : Array (Option Value)}

theorem G_call_entry {T : String} {name : Str} {id : String} {bi : Builtin} {self : Value} {rest : List Value} {Q : Value → Shared → Prop} (h : Slot T name id) (hT : s.TypeIs self T)
    (hb : entryFor table id = some bi) (hdec : Builtin.Bytes.decodersThatHold.contains id = false)
    (hc : wpG (model prog w) A.in1 (bi ⟨self :: rest, []⟩) (fun fin s' => ∃ v, fin = .done (.ret v) ∧ Q v s') E s)
    (ha : argsOk id ⟨self :: rest, []⟩) :
    wpG (model prog w) A (call (.builtin id) (self :: rest)) Q E s := by
  refine wpG_call (codeG_of_tree rfl ?_)
  show wpG _ A.in1 (do checkBuiltinCall id ⟨self :: rest, []⟩; again (.builtin id ⟨self :: rest, []⟩)) _ _ s
  refine wpG_bind (.of (h.check _ _ _ _ _ _ _ _ hT ha (wpG_pure ⟨plainId_quiet h.plain _, codeG_of_tree hdec ?_⟩)))
  rw [Around.under_plainId h.plain]
  show wpG _ _ (match entryFor table id with | some b => b ⟨self :: rest, []⟩ | none => unsupported ((withoutEnding? id "#data").getD id)) _ _ s
  rw [hb]
  refine wpG_mono hc (fun fin s' h' => ?_) fun _ _ x => x
  obtain ⟨v, rfl, hv⟩ := h'
  exact hv

abbrev obj (b : Array UInt8) (sl : Array (Option Value)) : Obj := { cls := .type "bytearray", data := .bytearray b 0, slots := sl }

theorem guardsOf_nil : ∀ {l : List (Code × Pos)}, guardsOf l = [] → ∀ x ∈ l, x.1.isGuard = false
  | [], _, x, hx => nomatch hx
  | (c, p) :: l, h, x, hx => by
    rw [guardsOf_cons] at h
    obtain ⟨h1, h2⟩ := List.append_eq_nil_iff.mp h
    rcases List.mem_cons.mp hx with rfl | hx
    · cases q : c.isGuard with
      | false => rfl
      | true => simp [Code.guards, q] at h1
    · exact guardsOf_nil h2 x hx

theorem dite_not {c : Prop} [Decidable c] {t : c → Bool} {e : ¬c → Bool} (hc : ¬c) (he : ∀ h, e h ≠ true) : dite c t e ≠ true := by
  rw [dif_neg hc]; exact he hc
theorem not_of_guard {nm x : String} {a : Args} (g : (Code.builtin nm a).isGuard = false) (hx : ∀ a, (Code.builtin x a).isGuard = true) : ¬ nm = x := by
  rintro rfl
  rw [hx] at g; cases g
theorem held_not {v : Value} {x : Code × Pos} (g1 : x.1.isGuard = false) (g2 : isDec x.1 = false) :
    ¬ (Bytes.exported.match_1 (fun _ => Bool) x (fun v' _ _ _ => Bytes.sameRef v' v) (fun v' _ _ _ => Bytes.sameRef v' v) (fun _ v' _ _ _ => Bytes.sameRef v' v) (fun v' _ _ _ => Bytes.sameRef v' v)
      (fun _ _ held _ _ => held.any (Bytes.sameRef v)) (fun nm v' _ _ _ => Bytes.sameRef v' v && Bytes.decodersThatHold.contains nm) fun _ => false) = true := by
  obtain ⟨c, q⟩ := x
  cases c with
  | builtin nm a =>
    obtain ⟨l, kw⟩ := a
    delta Bytes.exported.match_1
    show dite (nm = "bytearray.__contains__") _ _ ≠ true
    refine dite_not (not_of_guard (x := "bytearray.__contains__") g1 fun _ => by simp only [Code.isGuard]; decide) fun _ => ?_
    refine dite_not (not_of_guard (x := "bytearray.__mod__") g1 fun _ => by simp only [Code.isGuard]; decide) fun _ => ?_
    refine dite_not (not_of_guard (x := "bytearray.__rmod__") g1 fun _ => by simp only [Code.isGuard]; decide) fun _ => ?_
    refine dite_not (not_of_guard (x := "_struct.pack_into.held") g1 fun _ => by simp only [Code.isGuard]; decide) fun _ => ?_
    refine dite_not (not_of_guard (x := "bytearray.find.held") g1 fun _ => by simp only [Code.isGuard]; decide) fun _ => ?_
    cases l with
    | nil => exact Bool.false_ne_true
    | cons v' r =>
      show ¬ (Bytes.sameRef v' v && Bytes.decodersThatHold.contains nm) = true
      rw [show Bytes.decodersThatHold.contains nm = false from g2, Bool.and_false]; exact Bool.false_ne_true
  | _ => exact Bool.false_ne_true

theorem exported_false {M : Model} {Q : Bool → Shared → Prop} {v : Value} (hg : A.guards = some []) (h : Q false s) : wpG M A (Bytes.exported v) Q E s := fun Γ p hΓ hc => by
  unfold Bytes.exported
  show Q (List.any ((Γ.code, p) :: Γ.below) _) s
  have hno : guardsOf ((Γ.code, p) :: Γ.below) = [] := by rw [guardsOf_cons]; exact hΓ.2.2.2.1 [] hg
  have hno' := guardsOf_nil hno
  have hd : ∀ x ∈ ((Γ.code, p) :: Γ.below), isDec x.1 = false := fun x hx => by
    rcases List.mem_cons.mp hx with rfl | hx
    · exact hc.1
    · exact hc.2 x hx
  have hl : ∀ x ∈ ((Γ.code, p) :: Γ.below), x.1.isGuard = false ∧ isDec x.1 = false := fun x hx => ⟨hno' x hx, hd x hx⟩
  refine (congrArg (fun b => Q b s) (List.any_eq_false.mpr fun x hx => ?_)).mpr h
  exact held_not (hl x hx).1 (hl x hx).2

theorem checkResize_ok {M : Model} {Q : Unit → Shared → Prop} (hg : A.guards = some []) (ho : s.heap.get? a = some (obj b.toArray sl)) (h : Q () s) : wpG M A (Bytes.checkResize (.ref a)) Q E s := by
  unfold Bytes.checkResize
  refine wpG_bind (m := Bytes.exported (.ref a) <||> _) ?_
  show wpG M A (Bytes.exported (.ref a) >>= _) _ _ s
  refine wpG_bind (exported_false hg ?_)
  show wpG M A (Bytes.exportsOf (.ref a) >>= _) _ _ s
  refine wpG_bind ?_
  show wpG M A (load a >>= _) _ _ s
  refine wpG_bind (.of (wpAny_load ho (wpG_pure (wpG_pure ?_))))
  exact wpG_pure h

theorem write_ok {M : Model} {f : Array UInt8 → Array UInt8} {Q : Unit → Shared → Prop} (ho : s.heap.get? a = some (obj b.toArray sl)) (hz : (f b.toArray).size ≤ sizeLine)
    (h : ∀ h', h'.get? a = some (obj (f b.toArray) sl) → Heap.SameBut a s.heap h' → Q () { s with heap := h' }) : wpAny M A (Bytes.write (.ref a) f) Q E s := by
  show wpAny M A (updateBytearray a f) Q E s
  unfold updateBytearray
  refine wpAny_bind (wpAny_load ho ?_)
  refine wpAny_bind (wpAny_update ho ?_)
  have g := Heap.get?_update_self (Obj.mapBytearray f) ho rfl
  refine wpAny_lookBehind g ?_ (h _ g (Heap.SameBut.update ..))
  show (if (f b.toArray).size > sizeLine then some "bytearray:memory" else none) = none
  rw [if_neg (by omega)]

theorem byteValue_ok {M : Model} {i : Int} {t : Tok} {Q : UInt8 → Shared → Prop} (h0 : 0 ≤ i) (h1 : i < 256) (h : Q i.toNat.toUInt8 s) : wpAny M A (Bytes.byteValue (.int i t)) Q E s := by
  unfold Bytes.byteValue
  refine wpAny_bind (wpAny_of_eq (a := i) rfl ?_)
  have e : (decide (i < 0) || decide (i ≥ 256)) = false := by simp; omega
  rw [e]
  exact wpAny_pure h

theorem call_append {i : Int} {t : Tok} {Q : Value → Shared → Prop} (hg : A.guards = some []) (ho : s.heap.get? a = some (obj b.toArray sl)) (h0 : 0 ≤ i) (h1 : i < 256) (hz : b.length + 1 ≤ sizeLine)
    (h : ∀ h', h'.get? a = some (obj (b ++ [i.toNat.toUInt8]).toArray sl) → Heap.SameBut a s.heap h' → Q .none { s with heap := h' }) :
    wpG (model prog w) A (call (.builtin "bytearray.append") [.ref a, .int i t]) Q E s := by
  refine G_call_entry slot_append ⟨_, ho, rfl⟩ entry_append (by decide +kernel) ?_ (args_append _ _)
  show wpG _ _ (Bytes.byteValue (.int i t) >>= _) _ _ s
  refine wpG_bind (.of (byteValue_ok h0 h1 ?_))
  refine wpG_bind (checkResize_ok (by exact hg) ho ?_)
  refine wpG_bind (.of (write_ok ho (by simpa using hz) fun h' g' hs => ?_))
  exact wpG_pure ⟨_, rfl, h h' (by simpa using g') hs⟩

theorem payload_ok {M : Model} {Q : Array UInt8 → Shared → Prop} (ho : s.heap.get? a = some (obj b.toArray sl)) (h : Q b.toArray s) : wpAny M A (Bytes.payload (.ref a)) Q E s := by
  unfold Bytes.payload Bytes.payload?
  refine wpAny_bind (wpAny_bind (wpAny_load ho (wpAny_pure ?_)))
  exact wpAny_pure h
theorem take_eq {nm : String} {m : Array UInt8} {t : Tok} : Bytes.takeBuffer? nm (.bytes m t) 0 = pure (some (m, none)) := by
  unfold Bytes.takeBuffer?
  rw [KBy.special_eq KBy.look_buffer, pure_bind]
  simp only [KBy.own_buffer, pure_bind, Bool.not_true, Bool.false_eq_true, if_false, KBy.buffer_eq]
  rw [show ((0 : Int) == Bytes.fullReadOnly) = false from by decide, KBy.buffer_eq]
  rfl
theorem call_extend {m : List UInt8} {t : Tok} {Q : Value → Shared → Prop} (hg : A.guards = some []) (ho : s.heap.get? a = some (obj b.toArray sl)) (hz : b.length + m.length ≤ sizeLine)
    (h : ∀ h', h'.get? a = some (obj (b ++ m).toArray sl) → Heap.SameBut a s.heap h' → Q .none { s with heap := h' }) :
    wpG (model prog w) A (call (.builtin "bytearray.extend") [.ref a, .bytes m.toArray t]) Q E s := by
  refine G_call_entry slot_extend ⟨_, ho, rfl⟩ entry_extend (by decide +kernel) ?_ (args_extend _ _)
  unfold Builtin.«bytearray.extend»
  refine wpG_bind (wpG_of_eq (a := (Value.ref a, Value.bytes m.toArray t)) rfl ?_)
  refine wpG_bind (wpG_of_eq (KBy.special_eq KBy.look_buffer) ?_)
  refine wpG_ite ?_
  rw [if_pos (show (some (Value.builtin "bytes.__buffer__")).isSome = true from rfl)]
  refine wpG_bind (wpG_rule ?_)
  refine wpG_bind (.of (payload_ok ho ?_))
  refine wpG_bind ?_
  unfold Bytes.takeBufferQuiet?
  rw [take_eq]
  refine wpG_bind (wpG_attempt (wpG_pure (wpG_pure ?_)))
  refine wpG_ite ?_
  rw [if_pos (show (none : Option Value).isNone = true from rfl)]
  have fin : wpG (model prog w) A.in1 (do Bytes.write (.ref a) (· ++ m.toArray); ret .none) (fun fin s' => ∃ v, fin = Fin.done (Flow.ret v) ∧ Q v s') E s := by
    refine wpG_bind (.of (write_ok ho (by simpa using hz) fun h' g' hs => ?_))
    exact wpG_pure ⟨_, rfl, h h' (by simpa using g') hs⟩
  show wpG _ _ (if (!m.toArray.isEmpty) = true then (Bytes.checkResize (.ref a) >>= fun _ => (Bytes.write (.ref a) (· ++ m.toArray) >>= fun _ => ret .none)) else (Bytes.write (.ref a) (· ++ m.toArray) >>= fun _ => ret .none)) _ _ _
  refine wpG_ite ?_
  split
  · exact wpG_bind (checkResize_ok (by exact hg) ho fin)
  · exact fin

theorem entry_len : entryFor table "bytearray.__len__" = some Builtin.«bytearray.__len__» := by first | exact entryFor_of_tree (by kernel_rfl) | exact entryFor_of_fast (by kernel_rfl)
theorem args_len (a : Value) : argsOk "bytearray.__len__" ⟨[a], []⟩ := by unfold argsOk; kernel_rfl
theorem call_len {Q : Value → Shared → Prop} (ho : s.heap.get? a = some (obj b.toArray sl)) (hfit : b.length ≤ sizeLine)
    (h : ∀ k, Q (.int b.length k) { s with toks := k + 1 }) : wpAny (model prog w) A (call (.builtin "len") [.ref a]) Q E s := by
  have hT : s.TypeIs (.ref a) "bytearray" := ⟨_, ho, rfl⟩
  refine call_function_entry kind_len plain_len PySem.entry_len (args_len1 _) ?_
  unfold Builtin.«len»
  refine wpAny_bind (m := oneArg "len" _) (wpAny_pure ?_)
  refine wpAny_bind (m := callSpecial? (.ref a) (Str.ofString "__len__")) (wpAny_callSpecial?_slot (name := Str.ofString "__len__") hT slot_len
    (wpAny_call_entry slot_len hT entry_len ?_ (args_len _)))
  unfold Builtin.«bytearray.__len__»
  refine wpAny_bind (wpAny_of_eq (a := (Value.ref a, ([] : List Value))) rfl ?_)
  refine wpAny_bind (payload_ok ho ?_)
  refine wpAny_bind (wpAny_mkInt (wpAny_pure ⟨_, rfl, ?_⟩))
  refine wpAny_bind (wpAny_holding (wpAny_pure ?_))
  refine wpAny_bind (wpAny_letGo ?_)
  have e : b.toArray.size = b.length := by simp
  rw [sizeLine_eq] at hfit
  rw [e]
  show wpAny _ _ (if ((b.length : Nat) : Int) < 0 then _ else _) _ _ _
  rw [if_neg (by omega)]
  show wpAny _ _ (if ((b.length : Nat) : Int) ≥ 2 ^ 63 then _ else _) _ _ _
  rw [if_neg (by omega)]
  exact wpAny_bind (wpAny_mkInt (wpAny_pure ⟨_, rfl, h _⟩))
theorem getitem {i : Int} {t : Tok} {x : UInt8} {Q : Value → Shared → Prop} (ho : s.heap.get? a = some (obj b.toArray sl)) (h0 : 0 ≤ i) (hi : i < 2 ^ 63) (hx : b[i.toNat]? = some x)
    (h : ∀ t' k, Q (.int x.toNat t') { s with toks := k }) : wpAny (model prog w) A (getItem (.ref a) (.int i t)) Q E s := by
  have hT : s.TypeIs (.ref a) "bytearray" := ⟨_, ho, rfl⟩
  refine wpAny_getItem_slot hT (by decide) slot_getitem (wpAny_call_entry slot_getitem hT entry_getitem ?_ (args_getitem _ _))
  unfold Builtin.«bytearray.__getitem__»
  refine wpAny_bind (wpAny_of_eq (a := (Value.ref a, [Value.int i t])) rfl ?_)
  have hf : Bytes.fitsIndex i = true := by simp only [Bytes.fitsIndex, Bool.and_eq_true, decide_eq_true_eq]; omega
  have hlt : i.toNat < b.length := (List.getElem?_eq_some_iff.mp hx).1
  have hq : (seqIndex? i b.toArray.size).bind (b.toArray[·]?) = some x := by
    have e : seqIndex? i b.toArray.size = some i.toNat := by
      simp [seqIndex?]; omega
    rw [e]; simpa using hx
  refine wpAny_bind ?_
  unfold Bytes.subscript?
  refine wpAny_bind (wpAny_specialOf (typeIs_int s i t) F.slot_int_index.lookup ?_)
  show wpAny _ _ (if (!Bytes.fitsIndex i) = true then _ else pure (some i)) _ _ s
  rw [hf]
  refine wpAny_pure ?_
  refine wpAny_bind (payload_ok ho ?_)
  show wpAny _ _ (match (seqIndex? i b.toArray.size).bind (b.toArray[·]?) with | some x => _ | none => _) _ _ s
  rw [hq]
  refine wpAny_bind (wpAny_mkInt (wpAny_pure ⟨_, rfl, h _ _⟩))
end
end BA
end Mine

-- MBt
set_option Elab.async false
set_option maxRecDepth 100000
set_option maxHeartbeats 1000000
set_option linter.all false
namespace Mine
open PySem PySem.W PySem.Calls PyProof.Rows PySem.Spec
open Builtin
namespace BA
theorem slot_init : Slot "bytearray" "__init__" "bytearray.__init__" :=
  .of (owner := "bytearray") (n := "__init__") (by rw [typeLookup_type, builtinLookup_eq_fast]; kernel_rfl) (by decide +kernel) (by decide +kernel) (by decide +kernel)
    (by first | exact .inl (by decide +kernel) | exact .inr (by decide +kernel)) (by rw [isSubtype_type]; kernel_rfl)
theorem look_new : typeLookup (.type "bytearray") "__new__" = pure (some (.builtin "bytearray.__new__")) := by rw [typeLookup_type, builtinLookup_eq_fast]; kernel_rfl
theorem mro_ba : mroOf (.type "bytearray") = pure [.type "bytearray", .type "object"] := by rw [mroOf_type]; kernel_rfl
theorem called : TypeCalled "bytearray" "bytearray.__new__" "bytearray.__init__" :=
  ⟨by decide +kernel, by decide +kernel, ⟨_, _, mro_ba⟩, madeBy_type mro_ba look_new (by decide +kernel), by decide +kernel, by rw [isSubtype_type]; kernel_rfl, slot_init⟩
theorem typeCall : checkTypeCall "bytearray" ⟨[], []⟩ = pure () := by kernel_rfl
theorem newCall : checkBuiltinCall "bytearray.__new__" ⟨[.type "bytearray"], []⟩ = pure () := by kernel_rfl
theorem entry_new : entryFor table "bytearray.__new__" = some Builtin.«list.__new__» := entryFor_alias (id' := "list.__new__") (by rw [fastTable_eq_tree]; kernel_rfl) rfl (by decide +kernel) (by rw [fastTable_eq_tree]; kernel_rfl)
theorem entry_init : entryFor table "bytearray.__init__" = some Builtin.«bytearray.__init__» := by first | exact entryFor_of_tree (by kernel_rfl) | exact entryFor_of_fast (by kernel_rfl)
theorem args_init (a : Value) : argsOk "bytearray.__init__" ⟨[a], []⟩ := by unfold argsOk; kernel_rfl
theorem plain_new : plainId "bytearray.__new__" = true := by decide +kernel
set_option maxRecDepth 1000000 in
set_option maxHeartbeats 4000000 in
theorem owner_new : ("bytearray.__new__".splitOn ".__new__").headD "" = "bytearray" := by simp +decide [String.splitOn, String.splitOnAux]

section
variable {prog : Program} {w : World} {A : Around} {E : Value → Shared → Prop} {s : Shared}
theorem code_new {Q₁ : Value → Shared → Prop}
    (h : Q₁ (.ref s.heap.objs.size) { s with heap := s.heap.push (obj #[] #[]) }) :
    codeAny (model prog w) A (.call (.builtin "bytearray.__new__") ⟨[.type "bytearray"], []⟩) (wants Q₁ E) s := by
  refine codeAny_of_tree ?_
  show wpAny _ A.in1 (do checkBuiltinCall "bytearray.__new__" ⟨[.type "bytearray"], []⟩; again (.builtin "bytearray.__new__" ⟨[.type "bytearray"], []⟩)) _ _ s
  refine wpAny_bind (wpAny_of_eq newCall (wpAny_pure ⟨plainId_quiet plain_new _, codeAny_builtin_stack entry_new rfl fun p st => ?_⟩))
  rw [Around.under_plainId plain_new _]
  have hsub := F.sub_bytearray_bytearray
  have hown := owner_new
  obtain ⟨hp, g, d, tk, os⟩ := s
  simp only [hown]
  wp_walk
  exact h

theorem codeG_builtin {id : String} {args : Args} {b : Builtin} {R : Result → Shared → Prop} (hb : entryFor table id = some b) (hdec : Bytes.decodersThatHold.contains id = false)
    (h : wpG (model prog w) (A.under (.builtin id args)) (b args)
      (fun fin s' => match fin with | .done f => R (.ok f) s' | .again c' => c'.quiet = true ∧ codeG (model prog w) A c' R s') (fun e s' => R (.error e) s') s) :
    codeG (model prog w) A (.builtin id args) R s := by
  refine codeG_of_tree hdec ?_
  show wpG _ _ (match entryFor table id with | some b => b args | none => unsupported ((withoutEnding? id "#data").getD id)) _ _ s
  rw [hb]; exact h
theorem G_callSpecial {T : String} {v : Value} {name : Str} {id : String} {Q : Option Value → Shared → Prop} (hT : s.TypeIs v T) (slot : Slot T name id)
    (hc : wpG (model prog w) A (call (.builtin id) [v]) (fun r s' => Q (some r) s') E s) : wpG (model prog w) A (callSpecial? v name) Q E s := by
  unfold callSpecial?
  refine wpG_bind (.of (wpAny_specialOf hT slot.lookup ?_))
  refine wpG_holding (wpG_bind (wpG_of_eq (slot.bind v) ?_))
  exact wpG_bind (wpG_mono hc (fun r s' h => wpG_pure h) fun _ _ x => x)

theorem look_buf : typeLookup (.type "bytearray") "__buffer__" = pure (some (.builtin "bytearray.__buffer__")) := by rw [typeLookup_type, builtinLookup_eq_fast]; kernel_rfl
theorem look_rel : typeLookup (.type "bytearray") "__release_buffer__" = pure (some (.builtin "bytearray.__release_buffer__")) := by rw [typeLookup_type, builtinLookup_eq_fast]; kernel_rfl
theorem own_rel {M : Model} {l : Addr} {Q : Bool → Shared → Prop} (hT : s.TypeIs (.ref l) "bytearray") (h : Q false s) : wpAny M A (Bytes.ownRelease (.ref l)) Q E s := by
  unfold Bytes.ownRelease Bytes.slotIsOwn
  refine wpAny_bind (wpAny_bind (wpAny_specialOf hT look_rel ?_))
  have e1 : ("bytearray.__release_buffer__".endsWith ("." ++ "__release_buffer__")) = true := by decide +kernel
  have e2 : ("bytearray.__release_buffer__".dropRight ("__release_buffer__".length + 1)) = "bytearray" := by decide +kernel
  dsimp only
  rw [e1, e2]
  refine wpAny_isInstance hT F.sub_bytearray_bytearray ?_
  exact wpAny_pure h
theorem own_buf {M : Model} {l : Addr} {Q : Bool → Shared → Prop} (hT : s.TypeIs (.ref l) "bytearray") (h : Q true s) : wpAny M A (Bytes.slotIsOwn (.ref l) "__buffer__") Q E s := by
  unfold Bytes.slotIsOwn
  refine wpAny_bind (wpAny_specialOf hT look_buf ?_)
  have e1 : ("bytearray.__buffer__".endsWith ("." ++ "__buffer__")) = true := by decide +kernel
  have e2 : ("bytearray.__buffer__".dropRight ("__buffer__".length + 1)) = "bytearray" := by decide +kernel
  dsimp only
  rw [e1, e2]
  exact wpAny_isInstance hT F.sub_bytearray_bytearray h
theorem bind_init : Bytes.bindOptional "bytearray.__init__" "bytearray" ["source", "encoding", "errors"] [] [] = pure [none, none, none] := by kernel_rfl

theorem init_none {l : Addr} {Q : Value → Shared → Prop} (hg : A.guards = some []) (ho : s.heap.get? l = some (obj #[] #[]))
    (h : ∀ h', h'.get? l = some (obj #[] #[]) → Heap.SameBut l s.heap h' → Q .none { s with heap := h' }) :
    wpG (model prog w) A (call (.builtin "bytearray.__init__") [.ref l]) Q E s := by
  have ho' : s.heap.get? l = some (obj ([] : List UInt8).toArray #[]) := ho
  have hT : s.TypeIs (.ref l) "bytearray" := ⟨_, ho, rfl⟩
  refine G_call_entry slot_init hT entry_init (by decide +kernel) ?_ (args_init _)
  unfold Builtin.«bytearray.__init__»
  refine wpG_bind (.of (own_rel hT ?_))
  refine wpG_ite ?_
  rw [if_neg Bool.false_ne_true]
  refine wpG_bind (wpG_of_eq bind_init ?_)
  refine wpG_bind (wpG_pure ?_)
  refine wpG_bind (wpG_pure ?_)
  refine wpG_bind (m := Bytes.exported (.ref l) <||> _) ?_
  show wpG _ _ (Bytes.exported (.ref l) >>= _) _ _ s
  refine wpG_bind (exported_false (by exact hg) ?_)
  show wpG _ _ (Bytes.exportsOf (.ref l) >>= _) _ _ s
  refine wpG_bind ?_
  show wpG _ _ (load l >>= _) _ _ s
  refine wpG_bind (.of (wpAny_load ho (wpG_pure (wpG_pure ?_))))
  refine wpG_ite ?_
  rw [if_neg (by decide)]
  refine wpG_bind (.of (write_ok (f := fun _ => #[]) ho' (by simp) fun h' g' hs => ?_))
  refine wpG_bind (wpG_pure ?_)
  exact wpG_pure ⟨_, rfl, h h' g' hs⟩

theorem call_new {Q : Value → Shared → Prop} (hg : A.guards = some []) (h : ∀ h', h'.get? s.heap.objs.size = some (obj #[] #[]) → s.heap.StaysIn h' → Q (.ref s.heap.objs.size) { s with heap := h' }) :
    wpG (model prog w) A (call (.type "bytearray") []) Q E s := by
  refine wpG_call (codeG_of_tree rfl ?_)
  show wpG _ _ (callAny (.type "bytearray") _) _ _ _
  refine wpG_pure ⟨Code.quiet_builtin _ (by decide +kernel), codeG_builtin F.entry_type_call (by decide +kernel) ?_⟩
  rw [Around.under_plain (weight_type_call_type "bytearray" [] []) rfl]
  unfold Builtin.«type.__call__»
  refine wpG_ite ?_
  rw [if_neg (show ¬ ((Value.type "bytearray" == Value.type "type") = true) by decide)]
  refine wpG_ite ?_
  rw [if_neg (by rw [called.canCreate]; exact Bool.false_ne_true)]
  refine wpG_bind (wpG_of_eq typeCall ?_)
  refine wpG_bind (wpG_of_eq mro_ba ?_)
  refine wpG_ite ?_
  rw [if_neg (show ¬ (List.isEmpty [Value.type "bytearray", .type "object"] = true) by decide)]
  refine wpG_bind (wpG_of_eq called.made ?_)
  refine wpG_bind (wpG_pure ?_)
  refine wpG_bind (wpG_holding (wpG_call (codeG_mono (.of (code_new (E := fun _ _ => False) (Q₁ := fun v s' => v = .ref s.heap.objs.size ∧ s' = { s with heap := s.heap.push (obj #[] #[]) }) ⟨rfl, rfl⟩)) fun r s' hr => ?_)))
  cases r with
  | error e => exact hr.elim
  | ok fl =>
  cases fl with
  | ret v =>
    obtain ⟨rfl, rfl⟩ := hr
    have g0 := Heap.get?_push_size (h := s.heap) (o := obj #[] #[]) rfl
    have hT : ({ s with heap := s.heap.push (obj #[] #[]) } : Shared).TypeIs (.ref s.heap.objs.size) "bytearray" := ⟨_, g0, rfl⟩
    refine wpG_bind (.of (wpAny_isInstance hT F.sub_bytearray_bytearray ?_))
    refine wpG_ite ?_
    rw [if_neg (show ¬ ((!true) = true) by decide)]
    refine wpG_bind (wpG_holding (G_callSpecial hT slot_init (init_none (by exact hg) g0 fun h' g' hs => ?_)))
    refine wpG_ite ?_
    rw [if_neg (show ¬ ((Value.none != Value.none) = true) by decide)]
    exact wpG_pure (h h' g' fun b o e => (hs.2 b (Nat.ne_of_lt (Heap.lt_size e))).trans (Heap.get?_push_of_some _ e))
  | _ => exact hr.elim

theorem no_bytes : typeLookup (.type "bytearray") "__bytes__" = pure none := by rw [typeLookup_type, builtinLookup_eq_fast]; kernel_rfl
theorem noIdx : typeLookup (.type "bytearray") "__index__" = pure none := by rw [typeLookup_type, builtinLookup_eq_fast]; kernel_rfl
theorem buffer_ok {M : Model} {l : Addr} {b : List UInt8} {sl : Array (Option Value)} {nm : String} {full : Bool} {Q : Option (Array UInt8) → Shared → Prop} (ho : s.heap.get? l = some (obj b.toArray sl)) (h : Q (some b.toArray) s) :
    wpAny M A (Bytes.buffer? nm (.ref l) full) Q E s := by
  have hT : s.TypeIs (.ref l) "bytearray" := ⟨_, ho, rfl⟩
  unfold Bytes.buffer?
  refine wpAny_bind (wpAny_specialOf hT look_buf ?_)
  refine wpAny_bind (own_buf hT ?_)
  refine wpAny_ite ?_
  rw [if_neg (by decide)]
  refine wpAny_bind (wpAny_specialOf hT look_buf ?_)
  refine wpAny_bind (own_rel hT ?_)
  refine wpAny_ite ?_
  rw [if_neg (by decide)]
  refine wpAny_bind (payload_ok ho ?_)
  exact wpAny_pure h

theorem newOf {l : Addr} {b : List UInt8} {sl : Array (Option Value)} {Q : Value → Shared → Prop} (ho : s.heap.get? l = some (obj b.toArray sl)) (hz : b.length ≤ sizeLine)
    (hQ : ∀ t k, Q (.bytes b.toArray t) { s with toks := k }) :
    codeAny (model prog w) A (.call (.builtin "bytes.__new__") ⟨[.type "bytes", .ref l], []⟩) (wants Q E) s := by
  have hT : s.TypeIs (.ref l) "bytearray" := ⟨_, ho, rfl⟩
  refine codeAny_of_tree ?_
  show wpAny _ A.in1 (do checkBuiltinCall "bytes.__new__" ⟨[.type "bytes", .ref l], []⟩; again (.builtin "bytes.__new__" ⟨[.type "bytes", .ref l], []⟩)) _ _ s
  refine wpAny_bind (wpAny_of_eq (F.bm_newCall _) (wpAny_pure ⟨plainId_quiet F.bm_plain _, codeAny_builtin F.bm_entry ?_⟩))
  rw [Around.under_plainId F.bm_plain _]
  unfold Builtin.«bytes.__new__»
  refine wpAny_bind (wpAny_of_eq (a := true) rfl ?_)
  refine bm_if_false rfl ?_
  refine wpAny_bind (wpAny_of_eq F.bm_sub ?_)
  refine bm_if_false rfl ?_
  refine wpAny_bind (wpAny_of_eq (F.bm_bind _) ?_)
  refine wpAny_bind (wpAny_of_eq (a := ()) rfl ?_)
  refine wpAny_bind (wpAny_of_eq (a := ()) rfl ?_)
  refine bm_if_false rfl ?_
  refine wpAny_bind (wpAny_specialOf hT no_bytes ?_)
  refine wpAny_bind (wpAny_bind ?_)
  show wpAny _ _ (load l >>= _) _ _ _
  refine wpAny_bind (wpAny_load ho (wpAny_pure (wpAny_pure ?_)))
  refine bm_if_false rfl ?_
  refine wpAny_bind (wpAny_specialOf hT noIdx ?_)
  refine bm_if_true rfl ?_
  first
    | show wpAny _ _ (Builtin.Bytes.buffer? "bytes.__new__" (.ref l) true >>= _) _ _ _
    | (refine wpAny_bind ?_; show wpAny _ _ (Builtin.Bytes.buffer? "bytes.__new__" (.ref l) true >>= _) _ _ _)
  refine wpAny_bind (buffer_ok ho ?_)
  refine wpAny_bind (wpAny_rule ?_)
  refine wpAny_bind (wpAny_mkBytes ?_ (by simpa using hz))
  refine bm_if_true rfl ?_
  exact wpAny_pure (hQ _ _)

theorem call_bytes {l : Addr} {b : List UInt8} {sl : Array (Option Value)} {Q : Value → Shared → Prop} (ho : s.heap.get? l = some (obj b.toArray sl)) (hz : b.length ≤ sizeLine)
    (hQ : ∀ t k, Q (.bytes b.toArray t) { s with toks := k }) : wpAny (model prog w) A (call (.type "bytes") [.ref l]) Q E s := by
  refine callType_codes (Q₁ := fun obj s₁ => s₁.TypeIs obj "bytes" ∧ Q obj s₁) F.bm_called (F.bm_typeCall _) F.entry_object_init
    (newOf ho hz fun t k => ⟨PySem.W.typeIs_bytes _ _ _, hQ t k⟩) fun obj s₁ h₁ => ?_
  exact ⟨h₁.1, F.args_object_init_2 obj _, object_init_meets F.bm_called.init.lookup F.bm_called.made (by decide) prog w A.in1 _ s₁ ⟨h₁.1, rfl, h₁.2⟩⟩
end
end BA
end Mine

-- M5
set_option Elab.async false
set_option maxRecDepth 100000
set_option maxHeartbeats 1000000
set_option linter.all false
namespace Mine
local macro_rules | `(tactic| omega) => `(tactic| lia)
open PySem PySem.W PySem.Calls PyProof.Rows PySem.Spec

section
variable {C : Act} {ρ : Loc} {σ : Sto} {Q : AV → Sto → Prop} {T : Bool → Sto → Prop}

theorem E_bytes {l : List UInt8} {k pos} (h : Q (.bytes l) σ) : Ev C (.Constant (.bytes l) k pos) ρ σ Q := fun fz m s S P =>
  .of <| Constant_bytes (here (S.toks _) (.bytes _ _) h)
theorem E_str {x : Str} {k pos} (h : Q (.str x) σ) : Ev C (.Constant (.str x) k pos) ρ σ Q := fun fz m s S P =>
  .of <| Constant_str (here (S.toks _) (.str _ _) h)

-- builtin functions over values
theorem V_len_bytes {b : List UInt8} (hz : b.length ≤ sizeLine) (h : Q (.int b.length) σ) : CallV C (.builtin "len") [.bytes b] σ Q := fun fz vs i m s S => by
  cases i using Iss.elimC with
  | cons _ _ _ _ i1 i2 => (first | obtain ⟨_, rfl⟩ := Is.intE i1 | obtain ⟨_, rfl⟩ := Is.bytesE i1 | obtain rfl := Is.refE i1 | obtain rfl := Is.boolE i1 | obtain rfl := Iss.nilE i1 | obtain rfl := Is.noneE i1 | obtain ⟨_, rfl⟩ := Is.strE i1 | cases i1); (first | obtain ⟨_, rfl⟩ := Is.intE i2 | obtain ⟨_, rfl⟩ := Is.bytesE i2 | obtain rfl := Is.refE i2 | obtain rfl := Is.boolE i2 | obtain rfl := Iss.nilE i2 | obtain rfl := Is.noneE i2 | obtain ⟨_, rfl⟩ := Is.strE i2 | cases i2); exact .of <| len_bytes (by rw [sizeLine_eq] at hz; simp; omega) (here (S.toks _) (by simpa using Is.int _ _) h)
theorem V_len_lst {l : List AV} (hz : l.length ≤ sizeLine) (h : Q (.int l.length) σ) : CallV C (.builtin "len") [.lst l] σ Q := fun fz vs i m s S => by
  cases i using Iss.elimC with
  | cons _ _ _ _ i1 i2 =>
    (first | obtain ⟨_, rfl⟩ := Is.intE i2 | obtain ⟨_, rfl⟩ := Is.bytesE i2 | obtain rfl := Is.refE i2 | obtain rfl := Is.boolE i2 | obtain rfl := Iss.nilE i2 | obtain rfl := Is.noneE i2 | obtain ⟨_, rfl⟩ := Is.strE i2 | cases i2)
    cases i1 using Is.elimL with
    | lst a _ vs hl hi =>
      have e : vs.toArray.size = l.length := by simp [hi.length]
      exact .of <| call_len_list (stays_list S.mem.fzh hl) (by rw [e]; rw [sizeLine_eq] at hz; omega) (here (S.toks _) (by rw [e]; exact Is.int _ _) h)
theorem V_len_ba {a : Addr} {b : List UInt8} (hm : (a, .ba b) ∈ σ) (hz : b.length ≤ sizeLine) (h : Q (.int b.length) σ) : CallV C (.builtin "len") [.ref a] σ Q := fun fz vs i m s S => by
  cases i using Iss.elimC with
  | cons _ _ _ _ i1 i2 =>
    (first | obtain ⟨_, rfl⟩ := Is.intE i2 | obtain ⟨_, rfl⟩ := Is.bytesE i2 | obtain rfl := Is.refE i2 | obtain rfl := Is.boolE i2 | obtain rfl := Iss.nilE i2 | obtain rfl := Is.noneE i2 | obtain ⟨_, rfl⟩ := Is.strE i2 | cases i2)
    (first | obtain ⟨_, rfl⟩ := Is.intE i1 | obtain ⟨_, rfl⟩ := Is.bytesE i1 | obtain rfl := Is.refE i1 | obtain rfl := Is.boolE i1 | obtain rfl := Iss.nilE i1 | obtain rfl := Is.noneE i1 | obtain ⟨_, rfl⟩ := Is.strE i1 | cases i1)
    obtain ⟨sl, ho⟩ := (S.mem.trk _ hm).1
    exact .of <| BA.call_len ho hz fun k => here (S.toks _) (.int _ _) h
theorem V_min {a b : Int} (hh : C.A.handled = none) (h : Q (.int (min a b)) σ) : CallV C (.builtin "min") [.int a, .int b] σ Q := fun fz vs i m s S => by
  cases i using Iss.elimC with
  | cons _ _ _ _ i1 i2 => cases i2 using Iss.elimC with
    | cons _ _ _ _ i2 i3 =>
      (first | obtain ⟨_, rfl⟩ := Is.intE i1 | obtain ⟨_, rfl⟩ := Is.bytesE i1 | obtain rfl := Is.refE i1 | obtain rfl := Is.boolE i1 | obtain rfl := Iss.nilE i1 | obtain rfl := Is.noneE i1 | obtain ⟨_, rfl⟩ := Is.strE i1 | cases i1); (first | obtain ⟨_, rfl⟩ := Is.intE i2 | obtain ⟨_, rfl⟩ := Is.bytesE i2 | obtain rfl := Is.refE i2 | obtain rfl := Is.boolE i2 | obtain rfl := Iss.nilE i2 | obtain rfl := Is.noneE i2 | obtain ⟨_, rfl⟩ := Is.strE i2 | cases i2); (first | obtain ⟨_, rfl⟩ := Is.intE i3 | obtain ⟨_, rfl⟩ := Is.bytesE i3 | obtain rfl := Is.refE i3 | obtain rfl := Is.boolE i3 | obtain rfl := Iss.nilE i3 | obtain rfl := Is.noneE i3 | obtain ⟨_, rfl⟩ := Is.strE i3 | cases i3)
      refine .of <| min_two_ints hh fun h' tk hk => here (av := .int (min a b)) (St.grow S hk) ?_ h
      split
      · rw [show min a b = b by omega]; exact .int _ _
      · rw [show min a b = a by omega]; exact .int _ _
theorem V_max {a b : Int} (hh : C.A.handled = none) (h : Q (.int (max a b)) σ) : CallV C (.builtin "max") [.int a, .int b] σ Q := fun fz vs i m s S => by
  cases i using Iss.elimC with
  | cons _ _ _ _ i1 i2 => cases i2 using Iss.elimC with
    | cons _ _ _ _ i2 i3 =>
      (first | obtain ⟨_, rfl⟩ := Is.intE i1 | obtain ⟨_, rfl⟩ := Is.bytesE i1 | obtain rfl := Is.refE i1 | obtain rfl := Is.boolE i1 | obtain rfl := Iss.nilE i1 | obtain rfl := Is.noneE i1 | obtain ⟨_, rfl⟩ := Is.strE i1 | cases i1); (first | obtain ⟨_, rfl⟩ := Is.intE i2 | obtain ⟨_, rfl⟩ := Is.bytesE i2 | obtain rfl := Is.refE i2 | obtain rfl := Is.boolE i2 | obtain rfl := Iss.nilE i2 | obtain rfl := Is.noneE i2 | obtain ⟨_, rfl⟩ := Is.strE i2 | cases i2); (first | obtain ⟨_, rfl⟩ := Is.intE i3 | obtain ⟨_, rfl⟩ := Is.bytesE i3 | obtain rfl := Is.refE i3 | obtain rfl := Is.boolE i3 | obtain rfl := Iss.nilE i3 | obtain rfl := Is.noneE i3 | obtain ⟨_, rfl⟩ := Is.strE i3 | cases i3)
      refine .of <| max_two_ints hh fun h' tk hk => here (av := .int (max a b)) (St.grow S hk) ?_ h
      split
      · rw [show max a b = b by omega]; exact .int _ _
      · rw [show max a b = a by omega]; exact .int _ _
noncomputable def ofInts (l : List Int) : List AV := l.map .int
theorem Iss.ints {fz : Heap} : ∀ {l : List Int} {vs : List Value}, Iss fz (ofInts l) vs → IntsAre vs l
  | [], _, h => by cases h; exact .nil
  | n :: l, _, h => by
    cases h with
    | cons _ _ _ _ h1 h2 => cases h1; exact .cons _ _ h2.ints
theorem V_bytes_ints {l : List Int} (hh : C.A.handled = none) (hr : ∀ n ∈ l, 0 ≤ n ∧ n < 256) (hz : l.length ≤ sizeLine) (h : Q (.bytes (l.map fun n => n.toNat.toUInt8)) σ) : CallV C (.type "bytes") [.lst (ofInts l)] σ Q := fun fz vs i m s S => by
  cases i using Iss.elimC with
  | cons _ _ _ _ i1 i2 =>
    (first | obtain ⟨_, rfl⟩ := Is.intE i2 | obtain ⟨_, rfl⟩ := Is.bytesE i2 | obtain rfl := Is.refE i2 | obtain rfl := Is.boolE i2 | obtain rfl := Iss.nilE i2 | obtain rfl := Is.noneE i2 | obtain ⟨_, rfl⟩ := Is.strE i2 | cases i2)
    cases i1 using Is.elimL with
    | lst a _ vs hl hi =>
      exact .of <| call_bytes_ints (stays_list S.mem.fzh hl) hi.ints hr (by rw [hi.ints.length]; exact hz) hh fun h' t k hk => here (St.grow S hk) (.bytes _ _) h
theorem V_bytes_ba {a : Addr} {b : List UInt8} (hm : (a, .ba b) ∈ σ) (hz : b.length ≤ sizeLine) (h : Q (.bytes b) σ) : CallV C (.type "bytes") [.ref a] σ Q := fun fz vs i m s S => by
  cases i using Iss.elimC with
  | cons _ _ _ _ i1 i2 =>
    (first | obtain ⟨_, rfl⟩ := Is.intE i2 | obtain ⟨_, rfl⟩ := Is.bytesE i2 | obtain rfl := Is.refE i2 | obtain rfl := Is.boolE i2 | obtain rfl := Iss.nilE i2 | obtain rfl := Is.noneE i2 | obtain ⟨_, rfl⟩ := Is.strE i2 | cases i2)
    (first | obtain ⟨_, rfl⟩ := Is.intE i1 | obtain ⟨_, rfl⟩ := Is.bytesE i1 | obtain rfl := Is.refE i1 | obtain rfl := Is.boolE i1 | obtain rfl := Iss.nilE i1 | obtain rfl := Is.noneE i1 | obtain ⟨_, rfl⟩ := Is.strE i1 | cases i1)
    obtain ⟨sl, ho⟩ := (S.mem.trk _ hm).1
    exact .of <| BA.call_bytes ho hz fun t k => here (S.toks _) (.bytes _ _) h
theorem V_bytearray (hg : C.A.guards = some []) (h : ∀ a, (∀ p ∈ σ, p.1 ≠ a) → Q (.ref a) ((a, .ba []) :: σ)) : CallV C (.type "bytearray") [] σ Q := fun fz vs i m s S => by
  (first | obtain ⟨_, rfl⟩ := Is.intE i | obtain ⟨_, rfl⟩ := Is.bytesE i | obtain rfl := Is.refE i | obtain rfl := Is.boolE i | obtain rfl := Iss.nilE i | obtain rfl := Is.noneE i | obtain ⟨_, rfl⟩ := Is.strE i | cases i)
  refine BA.call_new hg fun h' g k => ?_
  have S' : St C fz m σ { s with heap := h' } := S.grow k
  have ne : ∀ p ∈ σ, p.1 ≠ s.heap.objs.size := fun p hp => by
    obtain ⟨ob, hob⟩ := (S.mem.trk p hp).1.there
    exact Nat.ne_of_lt (Heap.lt_size hob)
  refine ⟨fz, .ref _, _, Ext.refl _ _, ⟨⟨S'.mem.bfz, S'.mem.fzh, S'.mem.kph, fun p hp => ?_, ?_, S'.mem.gens, S'.mem.os⟩, S'.ns, S'.Lfz, S'.Lkp, fun p hp => ?_⟩, .ref _, h _ ne⟩
  · rcases List.mem_cons.mp hp with rfl | hp
    · exact ⟨⟨_, g⟩, S.mem.fzh.fresh, S.mem.kph.fresh⟩
    · exact S'.mem.trk p hp
  · simp only [List.map_cons, List.nodup_cons]
    refine ⟨fun hm => ?_, S.mem.nodup⟩
    obtain ⟨p, hp, e⟩ := List.mem_map.mp hm
    exact ne p hp e
  · rcases List.mem_cons.mp hp with rfl | hp
    · exact Nat.ne_of_gt S.ns.lt
    · exact S.Lσ p hp

-- subscripts
/-- the item of o at i -/
noncomputable def Item (C : Act) (o i : AV) (σ : Sto) (Q : AV → Sto → Prop) : Prop := ∀ fz u v, Is fz o u → Is fz i v → ∀ m s, St C fz m σ s → ∃ T id, typeLookup (.type T) "__getitem__" = pure (some (.builtin id)) ∧ s.TypeIs u T ∧ EvAt C (getItem u v) fz m s Q

theorem subTail {value slice : Expr} {o i : Value} {T id : String} {fz : Heap} {m : Str → Option Value} {s : Shared} (hT : s.TypeIs o T)
    (hl : typeLookup (.type T) "__getitem__" = pure (some (.builtin id))) (h : EvAt C (getItem o i) fz m s Q)
    (hs : ∃ ops, subscripted slice false o i = operate ops (getItem o i)) : EvAt C (subscriptTail value slice o i) fz m s Q := by
  obtain ⟨ops, hs⟩ := hs
  unfold subscriptTail
  refine wpG_bind ?_
  rw [getitemInPython_of_ne hT.not_modules]
  refine wpG_bind (.of (wpAny_specialOf hT hl ?_))
  refine wpG_pure (wpG_bind ?_)
  rw [hs]
  exact wpG_operate (wpG_mono h (fun r s₃ h₃ => wpG_bind (.of (wpAny_letTemporaryGo (wpG_pure h₃)))) fun _ _ x => x)
theorem E_Sub {value slice pos} (h : Ev C value ρ σ fun o σ₁ => Ev C slice ρ σ₁ fun i σ₂ => Item C o i σ₂ Q) (hs : ∀ u v, subscripted slice false u v = operate [u, v] (getItem u v) := by intro _ _; kernel_rfl) : Ev C (.Subscript value slice pos) ρ σ Q := fun fz m s S P => by
  refine G_Subscript ((h fz m s S P).step fun fz₁ o u σ₁ s₁ x₁ S₁ i₁ h₁ => ?_)
  refine (h₁ fz₁ m s₁ S₁ (P.mono x₁.1)).step fun fz₂ i v σ₂ s₂ x₂ S₂ i₂ h₂ => ?_
  obtain ⟨T, id, hl, hT, g⟩ := h₂ fz₂ u v (i₁.mono x₂.1) i₂ m s₂ S₂
  exact (subTail hT hl g ⟨_, hs u v⟩).ext (x₁.trans x₂)
theorem I_bytes {b : List UInt8} {i : Int} {x : UInt8} (hz : b.length ≤ sizeLine) (h0 : 0 ≤ i) (hx : b[i.toNat]? = some x) (h : Q (.int x.toNat) σ) : Item C (.bytes b) (.int i) σ Q := fun fz u v iu iv m s S => by
  (first | obtain ⟨_, rfl⟩ := Is.intE iu | obtain ⟨_, rfl⟩ := Is.bytesE iu | obtain rfl := Is.refE iu | obtain rfl := Is.boolE iu | obtain rfl := Iss.nilE iu | obtain rfl := Is.noneE iu | obtain ⟨_, rfl⟩ := Is.strE iu | cases iu); (first | obtain ⟨_, rfl⟩ := Is.intE iv | obtain ⟨_, rfl⟩ := Is.bytesE iv | obtain rfl := Is.refE iv | obtain rfl := Is.boolE iv | obtain rfl := Iss.nilE iv | obtain rfl := Is.noneE iv | obtain ⟨_, rfl⟩ := Is.strE iv | cases iv)
  rw [sizeLine_eq] at hz
  have hlt : i.toNat < b.length := (List.getElem?_eq_some_iff.mp hx).1
  refine ⟨"bytes", _, FB.slot_bytes_getitem.lookup, typeIs_bytes _ _ _, .of <| getItem_bytes (by omega) h0 (by omega) (here (S.toks _) ?_ h)⟩
  rw [show b.getD i.toNat 0 = x by simp [List.getD, hx]]; exact .int _ _
theorem I_lst {l : List AV} {i : Int} {x : AV} (hz : l.length ≤ sizeLine) (h0 : 0 ≤ i) (hx : l[i.toNat]? = some x) (h : Q x σ) : Item C (.lst l) (.int i) σ Q := fun fz u v iu iv m s S => by
  (first | obtain ⟨_, rfl⟩ := Is.intE iv | obtain ⟨_, rfl⟩ := Is.bytesE iv | obtain rfl := Is.refE iv | obtain rfl := Is.boolE iv | obtain rfl := Iss.nilE iv | obtain rfl := Is.noneE iv | obtain ⟨_, rfl⟩ := Is.strE iv | cases iv)
  cases iu using Is.elimL with
  | lst a _ vs hl hi =>
    obtain ⟨y, hy, iy⟩ := hi.get hx
    have hlt : i.toNat < l.length := (List.getElem?_eq_some_iff.mp hx).1
    rw [sizeLine_eq] at hz
    exact ⟨"list", _, slot_list_getitem.lookup, Heap.IsList.typeIs (stays_list S.mem.fzh hl), .of <| wpAny_getItem_list (stays_list S.mem.fzh hl) h0 (by omega) (by simpa using hy) (here S iy h)⟩
theorem I_tup {l : List AV} {i : Int} {x : AV} (hz : l.length ≤ sizeLine) (h0 : 0 ≤ i) (hx : l[i.toNat]? = some x) (h : Q x σ) : Item C (.tup l) (.int i) σ Q := fun fz u v iu iv m s S => by
  (first | obtain ⟨_, rfl⟩ := Is.intE iv | obtain ⟨_, rfl⟩ := Is.bytesE iv | obtain rfl := Is.refE iv | obtain rfl := Is.boolE iv | obtain rfl := Iss.nilE iv | obtain rfl := Is.noneE iv | obtain ⟨_, rfl⟩ := Is.strE iv | cases iv)
  cases iu using Is.elimT with
  | tup a _ vs hl hi =>
    obtain ⟨y, hy, iy⟩ := hi.get hx
    have hlt : i.toNat < l.length := (List.getElem?_eq_some_iff.mp hx).1
    rw [sizeLine_eq] at hz
    have hl' := stays_tup S.mem.fzh hl
    have e : vs.toArray.size = l.length := by simp [hi.length]
    refine ⟨"tuple", _, slot_tuple_getitem.lookup, hl'.typeIs, .of <| PyProof.Rows.getItem_tuple (j := i.toNat) hl' (by omega) (by omega) ?_ (by simpa using hy) (here S iy h)⟩
    rw [e]; simp [seqIndex?]; omega
theorem I_hand {a : Addr} {l : List AV} {i : Int} {x : AV} (hm : (a, .hand l) ∈ σ) (hz : l.length ≤ sizeLine) (h0 : 0 ≤ i) (hx : l[i.toNat]? = some x) (h : Q x σ) : Item C (.ref a) (.int i) σ Q := fun fz u v iu iv m s S => by
  (first | obtain ⟨_, rfl⟩ := Is.intE iv | obtain ⟨_, rfl⟩ := Is.bytesE iv | obtain rfl := Is.refE iv | obtain rfl := Is.boolE iv | obtain rfl := Iss.nilE iv | obtain rfl := Is.noneE iv | obtain ⟨_, rfl⟩ := Is.strE iv | cases iv); (first | obtain ⟨_, rfl⟩ := Is.intE iu | obtain ⟨_, rfl⟩ := Is.bytesE iu | obtain rfl := Is.refE iu | obtain rfl := Is.boolE iu | obtain rfl := Iss.nilE iu | obtain rfl := Is.noneE iu | obtain ⟨_, rfl⟩ := Is.strE iu | cases iu)
  obtain ⟨vs, hl, hi⟩ := (S.mem.trk _ hm).1
  obtain ⟨y, hy, iy⟩ := hi.get hx
  have hlt : i.toNat < l.length := (List.getElem?_eq_some_iff.mp hx).1
  rw [sizeLine_eq] at hz
  exact ⟨"list", _, slot_list_getitem.lookup, hl.typeIs, .of <| wpAny_getItem_list hl h0 (by omega) (by simpa using hy) (here S iy h)⟩
theorem I_ba {a : Addr} {b : List UInt8} {i : Int} {x : UInt8} (hm : (a, .ba b) ∈ σ) (hz : b.length ≤ sizeLine) (h0 : 0 ≤ i) (hx : b[i.toNat]? = some x) (h : Q (.int x.toNat) σ) : Item C (.ref a) (.int i) σ Q := fun fz u v iu iv m s S => by
  (first | obtain ⟨_, rfl⟩ := Is.intE iv | obtain ⟨_, rfl⟩ := Is.bytesE iv | obtain rfl := Is.refE iv | obtain rfl := Is.boolE iv | obtain rfl := Iss.nilE iv | obtain rfl := Is.noneE iv | obtain ⟨_, rfl⟩ := Is.strE iv | cases iv); (first | obtain ⟨_, rfl⟩ := Is.intE iu | obtain ⟨_, rfl⟩ := Is.bytesE iu | obtain rfl := Is.refE iu | obtain rfl := Is.boolE iu | obtain rfl := Iss.nilE iu | obtain rfl := Is.noneE iu | obtain ⟨_, rfl⟩ := Is.strE iu | cases iu)
  obtain ⟨sl, ho⟩ := (S.mem.trk _ hm).1
  have hlt : i.toNat < b.length := (List.getElem?_eq_some_iff.mp hx).1
  rw [sizeLine_eq] at hz
  exact ⟨"bytearray", _, BA.slot_getitem.lookup, ⟨_, ho, rfl⟩, .of <| BA.getitem ho h0 (by omega) hx fun t k => here (S.toks _) (.int _ _) h⟩

/-- one end of a slice -/
noncomputable def Part (C : Act) (e : Option Expr) (ρ : Loc) (σ : Sto) (Q : Option Int → Sto → Prop) : Prop := match e with
  | none => Q none σ
  | some e => Ev C e ρ σ fun v σ₁ => ∃ i, v = .int i ∧ Q (some i) σ₁
theorem part_run {e : Option Expr} {Q : Option Int → Sto → Prop} {fz : Heap} {m : Str → Option Value} {s : Shared} {P' : Value → Shared → Prop} (h : Part C e ρ σ Q) (S : St C fz m σ s) (P : RhoOk fz ρ m)
    (k : ∀ fz' v i σ' s', Ext C.kp fz fz' → St C fz' m σ' s' → IsPart v i → Q i σ' → P' v s') : wpG C.M C.A (evalPart e C.env) P' C.E s := by
  cases e with
  | none => exact wpG_pure (k fz _ _ σ s (Ext.refl _ _) S .none h)
  | some e =>
    refine EvAt.step (h fz m s S P) fun fz₁ o u σ₁ s₁ x₁ S₁ i₁ h₁ => ?_
    obtain ⟨i, rfl, h₁⟩ := h₁
    (first | obtain ⟨_, rfl⟩ := Is.intE i₁ | obtain ⟨_, rfl⟩ := Is.bytesE i₁ | obtain rfl := Is.refE i₁ | obtain rfl := Is.boolE i₁ | obtain rfl := Iss.nilE i₁ | obtain rfl := Is.noneE i₁ | obtain ⟨_, rfl⟩ := Is.strE i₁ | cases i₁)
    exact k fz₁ _ _ σ₁ s₁ x₁ S₁ (.int _ _) h₁
/-- where a slice begins or ends -/
noncomputable def clip (n : Nat) (i : Int) : Nat := clipAt n i
noncomputable def cut (b : List α) (lo hi : Option Int) : List α := (b.drop (lo.elim 0 (clip b.length))).take (hi.elim b.length (clip b.length) - lo.elim 0 (clip b.length))
theorem E_cut_bytes {value lower upper p pos} (h : Ev C value ρ σ fun o σ₁ => ∃ b, o = .bytes b ∧ b.length ≤ sizeLine ∧ Part C lower ρ σ₁ fun lo σ₂ => Part C upper ρ σ₂ fun hi σ₃ => Q (.bytes (cut b lo hi)) σ₃) :
    Ev C (.Subscript value (.Slice lower upper none p) pos) ρ σ Q := fun fz m s S P => by
  refine G_Subscript ((h fz m s S P).step fun fz₁ o u σ₁ s₁ x₁ S₁ i₁ h₁ => ?_)
  obtain ⟨b, rfl, hz, h₁⟩ := h₁
  cases i₁ using Is.elimB with
  | bytes _ t =>
  refine G_Slice (part_run h₁ S₁ (P.mono x₁.1) fun fz₂ l lo σ₂ s₂ x₂ S₂ il h₂ => ?_)
  refine part_run h₂ S₂ (P.mono (x₁.trans x₂).1) fun fz₃ r hi σ₃ s₃ x₃ S₃ ir h₃ => ?_
  have S₄ : St C fz₃ m σ₃ { s₃ with heap := s₃.heap.push { cls := .type "slice", data := .fields #[l, r, .none] } } := S₃.grow (push_stays _ _)
  refine EvAt.ext ((x₁.trans x₂).trans x₃) (subTail (T := "bytes") (typeIs_bytes _ _ _) FB.slot_bytes_getitem.lookup (.of ?_) ⟨_, rfl⟩)
  refine getItem_meets (typeIs_bytes _ _ _) (by decide) FB.slot_bytes_getitem FB.entry_bytes_getitem (FB.args_bytes_getitem_2 _ _) (KBc.meets_slice2 b.toArray t _ il ir)
    ⟨Heap.IsSliceOf.new _ _ _ _, Nat.le_trans (KBc.size_picked_le _ lo hi) (by simpa using hz), fun t' k => here (S₄.toks _) ?_ h₃⟩
  have e : KBy.picked b.toArray lo hi = (cut b lo hi).toArray := by
    rw [KBc.picked_eq]; unfold cut clip; simp
  rw [e]; exact .bytes _ _
end
end Mine

-- M6
set_option Elab.async false
set_option maxRecDepth 100000
set_option maxHeartbeats 1000000
set_option linter.all false
namespace Mine
local macro_rules | `(tactic| omega) => `(tactic| lia)
open PySem PySem.W PySem.Calls PyProof.Rows PySem.Spec

section
variable {M : Model} {A : Around} {E : Value → Shared → Prop} {s : Shared} {env : Env}
/-- a call of a built-in method -/
theorem G_Call_method {o : Expr} {name : Str} {apos pos : Pos} {args : List Expr} {Q : Value → Shared → Prop}
    (hbase : attributeBase o name env (eval o env) = eval o env) (hline : (apos.endLine == pos.line) = true) (ht : backTo pos (starEach args env) = args.map fun e => (false, eval e env)) (hl : args.length < 10)
    (h : wpG M A (eval o env) (fun ov s₁ => ∃ T id, PlainAttrs T ∧ Slot T name id ∧ typeOf (.builtin id) = pure (.type "method_descriptor") ∧ s₁.TypeIs ov T ∧ (∀ a, ov = .ref a → ∃ ob, s₁.heap.get? a = some ob ∧ ob.dict = none) ∧
      wpG M A (spliced (args.map fun e => (false, eval e env))) (fun vs s₂ => wpG M A (call (.builtin id) (ov :: vs)) Q E s₂) E s₁) E s) :
    wpG M A (eval (.Call (.Attribute o name apos) args [] pos) env) Q E s := by
  rw [arm_eval_Call, hbase]
  refine wpG_bind (wpG_mono h (fun ov s₁ h₁ => ?_) fun _ _ e => e)
  obtain ⟨T, id, pa, slot, hty, hT, hd, hc⟩ := h₁
  refine wpG_bind (wpG_standAt ?_)
  have hall : (backTo pos (starEach args env)).all (fun x => !x.1) = true := by
    rw [ht, List.all_eq_true]; intro x hx; obtain ⟨e, _, rfl⟩ := List.mem_map.mp hx; rfl
  have hform : methodCallForm (args.length + ([] : List Keyword).length) (backTo pos (starEach args env)) (backToKw pos (keywordEach [] env)) = true := by
    unfold methodCallForm
    rw [hall]
    have : backToKw pos (keywordEach [] env) = [] := rfl
    rw [this]
    simp; omega
  have hpos : methodCallPos true o env apos pos = pure pos := by unfold methodCallPos; simp [hline]
  unfold methodCall
  rw [hform]
  refine wpG_bind (wpG_holding ?_)
  show wpG M A (getMethod ov name _) _ E s₁
  refine .of (getMethod_builtin hT pa slot hty hd ?_)
  refine wpG_bind (wpG_of_eq hpos ?_)
  have key : wpG M A (evalArgs (.builtin id) true (backTo pos (starEach args env)) []) (fun a s₂ => wpG M A (call (.builtin id) ([ov] ++ a.pos) a.kw) Q E s₂) E s₁ := by
    rw [ht]
    have := G_evalArgs (M := M) (A := A) (E := E) (s := s₁) (f := .builtin id) (ts := args.map fun e => eval e env) (Q := fun a s₂ => wpG M A (call (.builtin id) ([ov] ++ a.pos) a.kw) Q E s₂) (by rw [List.map_map]; exact hc)
    rw [List.map_map] at this
    exact this
  refine G_callWith_plain rfl ?_ key
  rw [List.any_eq_not_all_not]
  rw [show (backTo pos (starEach args env)).all (fun x => !x.1) = true from hall]; rfl
end

section
variable {C : Act} {ρ : Loc} {σ : Sto} {Q : AV → Sto → Prop}

/-- its kind, known ahead of the arguments -/
noncomputable def Kind (C : Act) (name : Str) (o : AV) (σ : Sto) (id : String) : Prop :=
  ∀ fz u m s, Is fz o u → St C fz m σ s → ∃ T, PlainAttrs T ∧ Slot T name id ∧ typeOf (.builtin id) = pure (.type "method_descriptor") ∧ s.TypeIs u T ∧ (∀ a, u = .ref a → ∃ ob, s.heap.get? a = some ob ∧ ob.dict = none)

theorem E_method {o : Expr} {name : Str} {apos pos : Pos} {es : List Expr} (id : String) (h : Ev C o ρ σ fun ov σ₁ => Kind C name ov σ₁ id ∧ EvL C es ρ σ₁ fun avs σ₂ => CallV C (.builtin id) (ov :: avs) σ₂ Q)
    (hbase : attributeBase o name C.env (eval o C.env) = eval o C.env := by kernel_rfl) (hline : (apos.endLine == pos.line) = true := by kernel_rfl)
    (ht : backTo pos (starEach es C.env) = es.map (fun e => (false, eval e C.env)) := by kernel_rfl) (hl : es.length < 10 := by decide) :
    Ev C (.Call (.Attribute o name apos) es [] pos) ρ σ Q := fun fz m s S P => by
  refine G_Call_method hbase hline ht hl ((h fz m s S P).step fun fz₁ ov u σ₁ s₁ x₁ S₁ i₁ h₁ => ?_)
  obtain ⟨T, pa, sl, ty, hT, hd⟩ := h₁.1 fz₁ u m s₁ i₁ S₁
  refine ⟨T, id, pa, sl, ty, hT, hd, ?_⟩
  refine wpG_mono (h₁.2 fz₁ m s₁ S₁ (P.mono x₁.1)) (fun vs s₂ h₂ => ?_) fun _ _ x => x
  obtain ⟨fz₂, avs, σ₂, x₂, S₂, i₂, h₂⟩ := h₂
  exact (h₂ fz₂ (u :: vs) (.cons _ _ _ _ (i₁.mono x₂.1) i₂) m s₂ S₂).ext (x₁.trans x₂)

theorem K_ba {a : Addr} {b : List UInt8} (hm : (a, .ba b) ∈ σ) : Kind C "append" (.ref a) σ "bytearray.append" ∧ Kind C "extend" (.ref a) σ "bytearray.extend" := by
  refine ⟨fun fz u m s i S => ?_, fun fz u m s i S => ?_⟩ <;>
    ((first | obtain ⟨_, rfl⟩ := Is.intE i | obtain ⟨_, rfl⟩ := Is.bytesE i | obtain rfl := Is.refE i | obtain rfl := Is.boolE i | obtain rfl := Iss.nilE i | obtain rfl := Is.noneE i | obtain ⟨_, rfl⟩ := Is.strE i | cases i); obtain ⟨sl, ho⟩ := (S.mem.trk _ hm).1)
  · exact ⟨"bytearray", BA.plain, BA.slot_append, BA.type_append, ⟨_, ho, rfl⟩, fun b e => by cases e; exact ⟨_, ho, rfl⟩⟩
  · exact ⟨"bytearray", BA.plain, BA.slot_extend, BA.type_extend, ⟨_, ho, rfl⟩, fun b e => by cases e; exact ⟨_, ho, rfl⟩⟩
theorem V_append_ba {a : Addr} {b : List UInt8} {i : Int} {σ' : Sto} (hg : C.A.guards = some []) (u : Upd a (.ba b) (.ba (b ++ [i.toNat.toUInt8])) σ σ') (h0 : 0 ≤ i) (h1 : i < 256) (hz : b.length + 1 ≤ sizeLine) (h : Q .none σ') :
    CallV C (.builtin "bytearray.append") [.ref a, .int i] σ Q := fun fz vs iv m s S => by
  cases iv using Iss.elimC with
  | cons _ _ _ _ i1 i2 => cases i2 using Iss.elimC with
    | cons _ _ _ _ i2 i3 =>
      (first | obtain ⟨_, rfl⟩ := Is.intE i1 | obtain ⟨_, rfl⟩ := Is.bytesE i1 | obtain rfl := Is.refE i1 | obtain rfl := Is.boolE i1 | obtain rfl := Iss.nilE i1 | obtain rfl := Is.noneE i1 | obtain ⟨_, rfl⟩ := Is.strE i1 | cases i1); (first | obtain ⟨_, rfl⟩ := Is.intE i2 | obtain ⟨_, rfl⟩ := Is.bytesE i2 | obtain rfl := Is.refE i2 | obtain rfl := Is.boolE i2 | obtain rfl := Iss.nilE i2 | obtain rfl := Is.noneE i2 | obtain ⟨_, rfl⟩ := Is.strE i2 | cases i2); (first | obtain ⟨_, rfl⟩ := Is.intE i3 | obtain ⟨_, rfl⟩ := Is.bytesE i3 | obtain rfl := Is.refE i3 | obtain rfl := Is.boolE i3 | obtain rfl := Iss.nilE i3 | obtain rfl := Is.noneE i3 | obtain ⟨_, rfl⟩ := Is.strE i3 | cases i3)
      obtain ⟨sl, ho⟩ := (S.mem.trk _ u.mem).1
      exact BA.call_append hg ho h0 h1 hz fun h' g hs => here (S.upd u (fun b ob hb e => (hs.2 b hb).trans e) ⟨sl, g⟩) .none h
theorem V_extend_ba {a : Addr} {b l : List UInt8} {σ' : Sto} (hg : C.A.guards = some []) (u : Upd a (.ba b) (.ba (b ++ l)) σ σ') (hz : b.length + l.length ≤ sizeLine) (h : Q .none σ') :
    CallV C (.builtin "bytearray.extend") [.ref a, .bytes l] σ Q := fun fz vs iv m s S => by
  cases iv using Iss.elimC with
  | cons _ _ _ _ i1 i2 => cases i2 using Iss.elimC with
    | cons _ _ _ _ i2 i3 =>
      (first | obtain ⟨_, rfl⟩ := Is.intE i1 | obtain ⟨_, rfl⟩ := Is.bytesE i1 | obtain rfl := Is.refE i1 | obtain rfl := Is.boolE i1 | obtain rfl := Iss.nilE i1 | obtain rfl := Is.noneE i1 | obtain ⟨_, rfl⟩ := Is.strE i1 | cases i1); (first | obtain ⟨_, rfl⟩ := Is.intE i2 | obtain ⟨_, rfl⟩ := Is.bytesE i2 | obtain rfl := Is.refE i2 | obtain rfl := Is.boolE i2 | obtain rfl := Iss.nilE i2 | obtain rfl := Is.noneE i2 | obtain ⟨_, rfl⟩ := Is.strE i2 | cases i2); (first | obtain ⟨_, rfl⟩ := Is.intE i3 | obtain ⟨_, rfl⟩ := Is.bytesE i3 | obtain rfl := Is.refE i3 | obtain rfl := Is.boolE i3 | obtain rfl := Iss.nilE i3 | obtain rfl := Is.noneE i3 | obtain ⟨_, rfl⟩ := Is.strE i3 | cases i3)
      obtain ⟨sl, ho⟩ := (S.mem.trk _ u.mem).1
      exact BA.call_extend hg ho hz fun h' g hs => here (S.upd u (fun b ob hb e => (hs.2 b hb).trans e) ⟨sl, g⟩) .none h
theorem K_list {a : Addr} {l : List AV} (hm : (a, .list l) ∈ σ) : Kind C "append" (.ref a) σ "list.append" := fun fz u m s i S => by
  (first | obtain ⟨_, rfl⟩ := Is.intE i | obtain ⟨_, rfl⟩ := Is.bytesE i | obtain rfl := Is.refE i | obtain rfl := Is.boolE i | obtain rfl := Iss.nilE i | obtain rfl := Is.noneE i | obtain ⟨_, rfl⟩ := Is.strE i | cases i)
  obtain ⟨vs, ⟨n, ho⟩, hi⟩ := (S.mem.trk _ hm).1
  exact ⟨"list", F.plainAttrs_list, slot_list_append, type_list_append, ⟨_, ho, rfl⟩, fun b e => by cases e; exact ⟨_, ho, rfl⟩⟩
theorem V_append_list {a : Addr} {l : List AV} {x : AV} {σ' : Sto} (u : Upd a (.list l) (.list (l ++ [x])) σ σ') (hz : l.length ≤ sizeLine) (h : Q .none σ') :
    CallV C (.builtin "list.append") [.ref a, x] σ Q := fun fz vs iv m s S => by
  cases iv using Iss.elimC with
  | cons _ _ _ _ i1 i2 => cases i2 using Iss.elimC with
    | cons _ _ _ _ i2 i3 =>
      (first | obtain ⟨_, rfl⟩ := Is.intE i1 | obtain ⟨_, rfl⟩ := Is.bytesE i1 | obtain rfl := Is.refE i1 | obtain rfl := Is.boolE i1 | obtain rfl := Iss.nilE i1 | obtain rfl := Is.noneE i1 | obtain ⟨_, rfl⟩ := Is.strE i1 | cases i1); (first | obtain ⟨_, rfl⟩ := Is.intE i3 | obtain ⟨_, rfl⟩ := Is.bytesE i3 | obtain rfl := Is.refE i3 | obtain rfl := Is.boolE i3 | obtain rfl := Iss.nilE i3 | obtain rfl := Is.noneE i3 | obtain ⟨_, rfl⟩ := Is.strE i3 | cases i3)
      obtain ⟨vs, hp, hi⟩ := (S.mem.trk _ u.mem).1
      refine .of <| wpAny_list_append_plain hp (fun h' g hs => here (S.upd u (fun b ob hb e => (hs.2 b hb).trans e) ⟨_, by rw [← List.push_toArray]; exact g, hi.append (.cons _ _ _ _ i2 .nil)⟩) .none h) ?_
      rw [List.size_toArray, ← hi.length]; exact hz
theorem K_dict {a : Addr} {d : List (Int × Int)} (hm : (a, .dict d) ∈ σ) : Kind C "get" (.ref a) σ "dict.get" := fun fz u m s i S => by
  (first | obtain ⟨_, rfl⟩ := Is.intE i | obtain ⟨_, rfl⟩ := Is.bytesE i | obtain rfl := Is.refE i | obtain rfl := Is.boolE i | obtain rfl := Iss.nilE i | obtain rfl := Is.noneE i | obtain ⟨_, rfl⟩ := Is.strE i | cases i)
  obtain ⟨kvs, hk, kv, ob, ho⟩ := (S.mem.trk _ hm).1
  exact ⟨"dict", F.plainAttrs_dict, F.slot_dict_get, F.type_dict_get, (hk C.prog C.w).typeIs, (hk C.prog C.w).mapOf.noDict⟩
noncomputable def optInt : Option Int → AV
  | none => .none
  | some i => .int i
theorem V_get_dict {a : Addr} {d : List (Int × Int)} {k : Int} (hm : (a, .dict d) ∈ σ) (hs : (a == sysModules) = false) (h : Q (optInt (getI d k)) σ) :
    CallV C (.builtin "dict.get") [.ref a, .int k] σ Q := fun fz vs iv m s S => by
  cases iv using Iss.elimC with
  | cons _ _ _ _ i1 i2 => cases i2 using Iss.elimC with
    | cons _ _ _ _ i2 i3 =>
      (first | obtain ⟨_, rfl⟩ := Is.intE i1 | obtain ⟨_, rfl⟩ := Is.bytesE i1 | obtain rfl := Is.refE i1 | obtain rfl := Is.boolE i1 | obtain rfl := Iss.nilE i1 | obtain rfl := Is.noneE i1 | obtain ⟨_, rfl⟩ := Is.strE i1 | cases i1); (first | obtain ⟨_, rfl⟩ := Is.intE i2 | obtain ⟨_, rfl⟩ := Is.bytesE i2 | obtain rfl := Is.refE i2 | obtain rfl := Is.boolE i2 | obtain rfl := Iss.nilE i2 | obtain rfl := Is.noneE i2 | obtain ⟨_, rfl⟩ := Is.strE i2 | cases i2); (first | obtain ⟨_, rfl⟩ := Is.intE i3 | obtain ⟨_, rfl⟩ := Is.bytesE i3 | obtain rfl := Is.refE i3 | obtain rfl := Is.boolE i3 | obtain rfl := Iss.nilE i3 | obtain rfl := Is.noneE i3 | obtain ⟨_, rfl⟩ := Is.strE i3 | cases i3)
      obtain ⟨kvs, hk, kv, ob, ho⟩ := (S.mem.trk _ hm).1
      refine .of <| call_meetsIn F.slot_dict_get (hk C.prog C.w).typeIs F.entry_dict_get (F.args_dict_get_2 _ _) (meets_dict_get (intKind C.prog C.w) a (k := k) (intKind_is _ _ _ _) hs) ⟨_, (hk C.prog C.w).mapOf, ?_⟩
      refine here (S.toks _) ?_ h
      rcases kv.get k with ⟨e1, e2⟩ | ⟨v, t, e1, e2⟩
      · rw [e1, e2]; exact .none
      · rw [e1, e2]; exact .int _ _
end

theorem dictOf_any {p p' : Program} {w w' : World} {h : Heap} {a : Addr} {kvs : List (Int × Value)} (x : h.DictOf (intKind p w) a kvs) : h.DictOf (intKind p' w') a kvs := by
  obtain ⟨o, es, ep, ho, h1, h2, h3, h4, h5⟩ := x
  refine ⟨o, es, ep, ho, h1, h2, h3, ?_, h5⟩
  generalize es.toList = l at h4
  clear h2 h3 h5 ho
  induction h4 with
  | nil => exact .nil
  | cons a b c ih => exact .cons a b ih

theorem zip_rev {α β : Type} : ∀ {xs : List α} {l : List β}, xs.length = l.length → xs.reverse.zip l.reverse = (xs.zip l).reverse
  | [], [], _ => rfl
  | x :: xs, y :: l, h => by
    have h' : xs.length = l.length := by simpa using h
    simp only [List.reverse_cons, List.zip_cons_cons]
    rw [List.zip_append (by simp [h']), zip_rev h']
    rfl

/-- a target that is names alone -/
inductive NamesAre : List Expr → List Str → Prop
  | nil : NamesAre [] []
  | cons {x : Str} {p : Pos} {es : List Expr} {xs : List Str} : NamesAre es xs → NamesAre (.Name x p :: es) (x :: xs)

-- statements
section
variable {C : Act} {ρ : Loc} {σ : Sto} {Q : Loc → Sto → Prop} {R : AV → Sto → Prop}

/-- a call for its work alone -/
theorem X_expr {e pos} (h : Ev C e ρ σ fun v σ₁ => v = .none ∧ Q ρ σ₁) (hi : interactive C.env = false := by kernel_rfl) (hs : swapsWith e none pos.line C.env = pure false := by kernel_rfl) : Ex C (.Expr e pos) ρ σ Q R := fun fz m s S P => by
  refine G_Expr ((h fz m s S P).step fun fz₁ o u σ₁ s₁ x₁ S₁ i₁ h₁ => ?_) hi hs
  obtain ⟨rfl, h₁⟩ := h₁
  (first | obtain ⟨_, rfl⟩ := Is.intE i₁ | obtain ⟨_, rfl⟩ := Is.bytesE i₁ | obtain rfl := Is.refE i₁ | obtain rfl := Is.boolE i₁ | obtain rfl := Iss.nilE i₁ | obtain rfl := Is.noneE i₁ | obtain ⟨_, rfl⟩ := Is.strE i₁ | cases i₁)
  exact ⟨fun _ e => (nomatch e), fz₁, m, σ₁, x₁, S₁, ρ, P.mono x₁.1, h₁⟩

/-- storing at a subscript -/
noncomputable def StoreAt (C : Act) (o i v : AV) (σ : Sto) (Q : Sto → Prop) : Prop := ∀ fz u k x m s, Is fz o u → Is fz i k → Is fz v x → St C fz m σ s →
  wpG C.M C.A (setItem u k x) (fun _ s' => ∃ σ', St C fz m σ' s' ∧ Q σ') C.E s
theorem X_store {o i pos' value pos} (h : Ev C value ρ σ fun v σ₁ => Ev C o ρ σ₁ fun ov σ₂ => Ev C i ρ σ₂ fun iv σ₃ => StoreAt C ov iv v σ₃ fun σ₄ => Q ρ σ₄)
    (hs : swapsWith value (some (.Subscript o i pos')) pos.line C.env = pure false := by kernel_rfl) : Ex C (.Assign [.Subscript o i pos'] value pos) ρ σ Q R := fun fz m s S P => by
  refine G_Assign_Subscript ((h fz m s S P).step fun fz₁ v x σ₁ s₁ x₁ S₁ i₁ h₁ => ?_) hs
  refine (h₁ fz₁ m s₁ S₁ (P.mono x₁.1)).step fun fz₂ ov u σ₂ s₂ x₂ S₂ i₂ h₂ => ?_
  refine (h₂ fz₂ m s₂ S₂ (P.mono (x₁.trans x₂).1)).step fun fz₃ iv k σ₃ s₃ x₃ S₃ i₃ h₃ => ?_
  have x₀₃ := (x₁.trans x₂).trans x₃
  refine wpG_mono (h₃ fz₃ u k x m s₃ (i₂.mono x₃.1) i₃ (i₁.mono (x₂.trans x₃).1) S₃) (fun _ s₄ ⟨σ₄, S₄, h₄⟩ => ⟨fz₃, m, σ₄, x₀₃, S₄, ρ, P.mono x₀₃.1, h₄⟩) fun _ _ x => x
theorem S_hand {a : Addr} {l : List AV} {i : Int} {x : AV} {σ' : Sto} {Q : Sto → Prop} (u : Upd a (.hand l) (.hand (l.set i.toNat x)) σ σ') (h0 : 0 ≤ i) (hi : i < l.length) (hz : l.length ≤ sizeLine) (h : Q σ') : StoreAt C (.ref a) (.int i) x σ Q := fun fz o k v m s io ik iv S => by
  (first | obtain ⟨_, rfl⟩ := Is.intE io | obtain ⟨_, rfl⟩ := Is.bytesE io | obtain rfl := Is.refE io | obtain rfl := Is.boolE io | obtain rfl := Iss.nilE io | obtain rfl := Is.noneE io | obtain ⟨_, rfl⟩ := Is.strE io | cases io); (first | obtain ⟨_, rfl⟩ := Is.intE ik | obtain ⟨_, rfl⟩ := Is.bytesE ik | obtain rfl := Is.refE ik | obtain rfl := Is.boolE ik | obtain rfl := Iss.nilE ik | obtain rfl := Is.noneE ik | obtain ⟨_, rfl⟩ := Is.strE ik | cases ik)
  obtain ⟨vs, hl, hvs⟩ := (S.mem.trk _ u.mem).1
  rw [sizeLine_eq] at hz
  refine .of <| wpAny_setItem_list hl h0 (by omega) (by rw [List.size_toArray, ← hvs.length]; exact hi) fun h' hl' hs => ⟨σ', S.upd u (fun b ob hb e => (hs.2 b hb).trans e) ⟨vs.set i.toNat v, by simpa using hl', hvs.set iv⟩, h⟩
theorem S_dict {a : Addr} {d : List (Int × Int)} {k v : Int} {σ' : Sto} {Q : Sto → Prop} (u : Upd a (.dict d) (.dict (setI d k v)) σ σ') (hz : d.length ≤ sizeLine) (h : Q σ') : StoreAt C (.ref a) (.int k) (.int v) σ Q := fun fz o kk x m s io ik iv S => by
  (first | obtain ⟨_, rfl⟩ := Is.intE io | obtain ⟨_, rfl⟩ := Is.bytesE io | obtain rfl := Is.refE io | obtain rfl := Is.boolE io | obtain rfl := Iss.nilE io | obtain rfl := Is.noneE io | obtain ⟨_, rfl⟩ := Is.strE io | cases io); (first | obtain ⟨_, rfl⟩ := Is.intE ik | obtain ⟨_, rfl⟩ := Is.bytesE ik | obtain rfl := Is.refE ik | obtain rfl := Is.boolE ik | obtain rfl := Iss.nilE ik | obtain rfl := Is.noneE ik | obtain ⟨_, rfl⟩ := Is.strE ik | cases ik); cases iv using Is.elimI with
  | int _ t =>
  obtain ⟨kvs, hk, kv, ob, ho⟩ := (S.mem.trk _ u.mem).1
  refine .of <| wpAny_setItem_pairs (knd := intKind C.prog C.w) (k := k) (kvs := kvs) (intKind_is _ _ _ _) (hk C.prog C.w) (fun h' hd hs => ?_) (by rw [← kv.length]; exact hz)
  obtain ⟨o', es, ep, ho', r⟩ := id hd
  exact ⟨σ', (S.upd (s' := { s with heap := h', toks := s.toks + 1 }) u (fun b ob hb e => (hs.2 b hb).trans e) ⟨_, fun p w => dictOf_any hd, kv.set k v t, o', ho'⟩), h⟩

/-- storing many names, in order -/
theorem stores : ∀ {xs : List Str} {avs : List AV} {vs : List Value} {fz : Heap} {m : Str → Option Value} {s : Shared} {ρ : Loc} {P' : Unit → Shared → Prop}, C.env.scope.kind = .function → (∀ x ∈ xs, C.env.kindOf x = some .local) → xs.length = avs.length →
    St C fz m σ s → RhoOk fz ρ m → Iss fz avs vs → (∀ m' s', St C fz m' σ s' → RhoOk fz ((xs.zip avs).reverse ++ ρ) m' → P' () s') →
    wpG C.M C.A (assignInOrder (xs.map fun x v => bindName C.env x v) vs) P' C.E s
  | [], _, _, _, m, s, ρ, P', hk, hx, hl, S, P, i, h => G_inOrder_nil (h m s S (by simpa using P))
  | x :: xs, [], _, _, _, _, _, _, hk, hx, hl, S, P, i, h => nomatch hl
  | x :: xs, a :: avs, _, fz, m, s, ρ, P', hk, hx, hl, S, P, i, h => by
    cases i using Iss.elimC with
    | cons _ _ v vs i1 i2 =>
      refine G_inOrder_cons (G_bindName (store_step S P i1 (fun m' s' S' P'' => ?_) hk (hx x (.head _))))
      exact stores hk (fun y hy => hx y (.tail _ hy)) (by simpa using hl) S' P'' i2 fun m'' s'' S'' P₃ => h m'' s'' S'' (by simpa using P₃)

/-- what can be unpacked: a tuple -/
theorem unpack_tup {fz : Heap} {m : Str → Option Value} {s : Shared} {l : List AV} {v : Value} {n : Nat} {P' : List Value → Shared → Prop} (hh : C.A.handled = none) (S : St C fz m σ s) (i : Is fz (.tup l) v) (hn : n = l.length)
    (h : ∀ vs s', Iss fz l vs → St C fz m σ s' → P' vs s') : wpG C.M C.A (unpackItems v n none) P' C.E s := by
  cases i using Is.elimT with
  | tup a _ vs ht hi =>
    have e : n = vs.toArray.size := by rw [hn, hi.length]; simp
    subst e
    refine .of <| unpackItems_tuple hh (stays_tup S.mem.fzh ht) fun h' hx => ?_
    exact h _ _ (by simpa using hi) (S.grow fun b o e => hx b o (Nat.ne_of_lt (Heap.lt_size e)) e)

theorem storesN {elts : List Expr} {xs : List Str} (na : NamesAre elts xs) : ∀ {avs : List AV} {vs : List Value} {fz : Heap} {m : Str → Option Value} {s : Shared} {ρ : Loc} {P' : Unit → Shared → Prop}, C.env.scope.kind = .function → (∀ x ∈ xs, C.env.kindOf x = some .local) → xs.length = avs.length →
    St C fz m σ s → RhoOk fz ρ m → Iss fz avs vs → (∀ m' s', St C fz m' σ s' → RhoOk fz ((xs.zip avs).reverse ++ ρ) m' → P' () s') →
    wpG C.M C.A (assignInOrder ((assignEach elts C.env).map (·.2)) vs) P' C.E s := by
  induction na with
  | nil => intro avs vs fz m s ρ P' hk hx hl S P i h; exact G_inOrder_nil (h m s S (by simpa using P))
  | cons na ih =>
    intro avs vs fz m s ρ P' hk hx hl S P i h
    cases i with
    | nil => exact nomatch hl
    | cons a l v vs i1 i2 =>
      refine G_inOrder_cons (G_assign_Name (store_step S P i1 (fun m' s' S' P'' => ?_) hk (hx _ (.head _))))
      exact ih hk (fun y hy => hx y (.tail _ hy)) (by simpa using hl) S' P'' i2 fun m'' s'' S'' P₃ => h m'' s'' S'' (by simpa using P₃)
theorem NamesAre.each {elts : List Expr} {xs : List Str} {env : Env} (na : NamesAre elts xs) : (assignEach elts env).length = xs.length ∧ (assignEach elts env).findIdx? (·.1) = none := by
  induction na with
  | nil => exact ⟨rfl, rfl⟩
  | cons na ih =>
    refine ⟨congrArg (· + 1) ih.1, ?_⟩
    rename_i x p es xs
    show ((false, assign (.Name x p) env) :: assignEach es env).findIdx? (·.1) = none
    rw [List.findIdx?_cons, ih.2]; rfl
/-- a tuple's items into names -/
theorem assign_tup {elts : List Expr} {k : Nat} {tpos : Pos} {xs : List Str} {fz : Heap} {m : Str → Option Value} {s : Shared} {l : List AV} {v : Value} {P' : Unit → Shared → Prop} (na : NamesAre elts xs) (hh : C.A.handled = none) (hk : C.env.scope.kind = .function) (hx : ∀ x ∈ xs, C.env.kindOf x = some .local) (S : St C fz m σ s) (P : RhoOk fz ρ m) (i : Is fz (.tup l) v) (hl : l.length = xs.length)
    (h : ∀ m' s', St C fz m' σ s' → RhoOk fz ((xs.zip l).reverse ++ ρ) m' → P' () s') : wpG C.M C.A (assign (.Tuple elts k tpos) C.env v) P' C.E s := by
  rw [PyProof.Rows.assign_Tuple]
  refine wpG_bind (wpG_standAt ?_)
  unfold unpack
  rw [na.each.1, na.each.2]
  refine wpG_bind (wpG_holding (unpack_tup hh S i hl.symm fun vs s₂ ivs S₂ => ?_))
  exact storesN na hk hx hl.symm S₂ P ivs h
theorem X_assignTup {elts k tpos value pos} (xs : List Str) (hh : C.A.handled = none) (h : Ev C value ρ σ fun v σ₁ => ∃ l, v = .tup l ∧ l.length = xs.length ∧ Q ((xs.zip l).reverse ++ ρ) σ₁)
    (na : NamesAre elts xs := by repeat constructor) (hx' : (xs.all fun x => decide (C.env.kindOf x = some .local)) = true := by kernel_rfl) (hk : C.env.scope.kind = .function := by kernel_rfl)
    (hs : swapsWithSole [.Tuple elts k tpos] value pos.line C.env = pure false := by kernel_rfl)
    (hw : swappedStores [.Tuple elts k tpos] value C.env = pure none := by kernel_rfl) : Ex C (.Assign [.Tuple elts k tpos] value pos) ρ σ Q R := fun fz m s S P => by
  refine G_Assign_Tuple ((h fz m s S P).step fun fz₁ v u σ₁ s₁ x₁ S₁ i₁ h₁ => ?_) hs hw
  obtain ⟨l, rfl, hl, h₁⟩ := h₁
  have hx : ∀ x ∈ xs, C.env.kindOf x = some .local := fun x hx => of_decide_eq_true (List.all_eq_true.mp hx' x hx)
  exact assign_tup na hh hk hx S₁ (P.mono x₁.1) i₁ hl fun m' s' S' P' => ⟨fz₁, m', σ₁, x₁, S', _, P', h₁⟩
theorem X_assignSwap {elts k tpos value pos} {xs : List Str} (hh : C.A.handled = none) (h : Ev C value ρ σ fun v σ₁ => ∃ l, v = .tup l ∧ l.length = xs.length ∧ Q ((xs.zip l) ++ ρ) σ₁)
    (hx' : (xs.all fun x => decide (C.env.kindOf x = some .local)) = true := by kernel_rfl) (hk : C.env.scope.kind = .function := by kernel_rfl)
    (hs : swapsWithSole [.Tuple elts k tpos] value pos.line C.env = pure false := by kernel_rfl)
    (hw : swappedStores [.Tuple elts k tpos] value C.env = pure (some xs) := by kernel_rfl) : Ex C (.Assign [.Tuple elts k tpos] value pos) ρ σ Q R := fun fz m s S P => by
  refine G_Assign_Tuple_swapped ((h fz m s S P).step fun fz₁ v u σ₁ s₁ x₁ S₁ i₁ h₁ => ?_) hs hw
  obtain ⟨l, rfl, hl, h₁⟩ := h₁
  have hx : ∀ x ∈ xs, C.env.kindOf x = some .local := fun x hx => of_decide_eq_true (List.all_eq_true.mp hx' x hx)
  refine unpack_tup hh S₁ i₁ hl.symm fun vs s₂ ivs S₂ => ?_
  have hrev : ∀ {l : List AV} {vs : List Value}, Iss fz₁ l vs → Iss fz₁ l.reverse vs.reverse := by
    intro l vs h
    induction l generalizing vs with
    | nil => cases h; exact .nil
    | cons a l ih =>
      cases h with
      | cons _ _ v vs h1 h2 => simp only [List.reverse_cons]; exact (ih h2).append (.cons _ _ _ _ h1 .nil)
  refine stores (xs := xs.reverse) hk (fun x hx' => hx x (List.mem_reverse.mp hx')) (by simp [hl]) S₂ (P.mono x₁.1) (hrev ivs) fun m' s' S' P' => ⟨fz₁, m', σ₁, x₁, S', _, P', ?_⟩
  have e : (xs.reverse.zip l.reverse).reverse = xs.zip l := by
    rw [zip_rev hl.symm, List.reverse_reverse]
  rw [e]; exact h₁
end
end Mine

-- M7
set_option Elab.async false
set_option maxRecDepth 100000
set_option maxHeartbeats 1000000
set_option linter.all false
namespace Mine
local macro_rules | `(tactic| omega) => `(tactic| lia)
open PySem PySem.W PySem.Calls PyProof.Rows PySem.Spec

noncomputable def ownNames : List String := ["enumerate", "zip", "dict_itemiterator", "dict_reverseitemiterator", "odict_iterator", "itertools.zip_longest", "itertools.pairwise"]

/-- v can be walked: these are its items -/
noncomputable def Iter (C : Act) (v : AV) (items : List AV) : Prop := ∀ fz u, Is fz v u → ∃ IP : Nat → Obj → Prop,
  (∀ k o, IP k o → ∃ n vs, o.cls = .type n ∧ o.data = .fields vs ∧ ownNames.contains n = false) ∧
  (∀ fz' m s σ (P' : Value → Shared → Prop), fz.StaysIn fz' → St C fz' m σ s → (∀ I s', (∀ p ∈ σ, p.1 ≠ I) → St C fz' m ((I, .raw (IP 0)) :: σ) s' → P' (.ref I) s') → wpG C.M C.A (pyIter u) P' C.E s) ∧
  (∀ k x fz' m s I σ σ' (P' : Option Value → Shared → Prop) E', fz.StaysIn fz' → items[k]? = some x → Upd I (.raw (IP k)) (.raw (IP (k + 1))) σ σ' → St C fz' m σ s → (∀ y s', Is fz' x y → St C fz' m σ' s' → P' (some y) s') → wpG C.M C.A (pyNext (.ref I)) P' E' s) ∧
  (∀ fz' m s I σ σ' (P' : Option Value → Shared → Prop) E', fz.StaysIn fz' → Del I (.raw (IP items.length)) σ σ' → St C fz' m σ s → (∀ s', St C fz' m σ' s' → P' none s') → wpG C.M C.A (pyNext (.ref I)) P' E' s)

section
variable {C : Act} {ρ : Loc} {σ : Sto}

theorem St.upd_del {fz : Heap} {m : Str → Option Value} {s s' : Shared} {a : Addr} {o : AO} {σ' : Sto} (S : St C fz m σ s) (u : Del a o σ σ') (k : ∀ b ob, b ≠ a → s.heap.get? b = some ob → s'.heap.get? b = some ob)
    (hg : s'.gens = s.gens := by kernel_rfl) (ho : s'.os = s.os := by kernel_rfl) : St C fz m σ' s' := by
  have ha := S.mem.trk _ u.mem
  have nd := u.nodup S.mem.nodup
  refine ⟨⟨S.mem.bfz, fun b ob e => k b ob (fun q => by rw [q, ha.2.1] at e; cases e) (S.mem.fzh b ob e), fun b ob e => k b ob (fun q => by rw [q, ha.2.2] at e; cases e) (S.mem.kph b ob e), fun p hp => ?_, nd.1, hg.trans S.mem.gens, ho.trans S.mem.os⟩, ?_, S.Lfz, S.Lkp, fun p hp => S.Lσ p (u.sub p hp)⟩
  · exact ⟨(S.mem.trk p (u.sub p hp)).1.at fun ob => k _ ob (nd.2 p hp), (S.mem.trk p (u.sub p hp)).2⟩
  · obtain ⟨ob, es, ep, hb, r⟩ := S.ns
    exact ⟨ob, es, ep, k _ _ (fun q => S.Lσ _ u.mem q.symm) hb, r⟩

theorem St.new_raw {fz : Heap} {m : Str → Option Value} {s : Shared} {o : Obj} {P : Obj → Prop} (S : St C fz m σ s) (hf : o.isFreed = false) (hP : P o) :
    St C fz m ((s.heap.objs.size, .raw P) :: σ) { s with heap := s.heap.push o } ∧ ∀ p ∈ σ, p.1 ≠ s.heap.objs.size :=
  ⟨S.new_tracked (ao := .raw P) hf s.toks fun h' e => ⟨o, e, hP⟩, fun p hp => by
    obtain ⟨ob, hob⟩ := (S.mem.trk p hp).1.there
    exact Nat.ne_of_lt (Heap.lt_size hob)⟩

theorem It_lst {l : List AV} (hh : C.A.handled = none) : Iter C (.lst l) l := by
  intro fz u i
  cases i using Is.elimL with
  | lst a _ vs hl hi =>
    refine ⟨fun k o => o.cls = .type "list_iterator" ∧ o.data = .fields #[.ref a, .int (k : Nat) 0], fun k o h => ⟨_, _, h.1, h.2, by decide⟩, fun fz' m s σ P' kk S h => ?_, fun k x fz' m s I σ σ' P' E' kk hx u S h => ?_, fun fz' m s I σ σ' P' E' kk u S h => ?_⟩
    · obtain ⟨S', ne⟩ := S.new_raw (o := { cls := .type "list_iterator", data := .fields #[.ref a, .int 0 0] }) (P := fun o => o.cls = .type "list_iterator" ∧ o.data = .fields #[.ref a, .int ((0 : Nat) : Int) 0]) rfl ⟨rfl, rfl⟩
      exact .of <| wpAny_pyIter_list (stays_list (fun b o e => S.mem.fzh b o (kk b o e)) hl) (h _ _ ne S')
    · obtain ⟨ob, hob, h1, h2⟩ := (S.mem.trk _ u.mem).1
      obtain ⟨y, hy, iy⟩ := hi.get hx
      refine .of <| wpAny_pyNext_list_item (i := k) (l := a) ⟨ob, hob, h1, h2⟩ (stays_list (fun b o e => S.mem.fzh b o (kk b o e)) hl) (by simpa using hy) fun h' hit hs => h y _ (iy.mono kk) (S.upd u (fun b ob hb e => (hs.2 b hb).trans e) ?_)
      obtain ⟨o2, ho2, hc2, hd2⟩ := hit
      exact ⟨o2, ho2, hc2, hd2⟩
    · obtain ⟨ob, hob, h1, h2⟩ := (S.mem.trk _ u.mem).1
      refine .of <| wpAny_pyNext_list_end (i := l.length) (l := a) hh ⟨ob, hob, h1, h2⟩ (stays_list (fun b o e => S.mem.fzh b o (kk b o e)) hl) (by simp [hi.length]) fun h' hx => h _ (S.upd_del u (fun b ob hb e => hx b ob hb e))

theorem It_tup {l : List AV} (hh : C.A.handled = none) : Iter C (.tup l) l := by
  intro fz u i
  cases i using Is.elimT with
  | tup a _ vs hl hi =>
    refine ⟨fun k o => o.cls = .type "tuple_iterator" ∧ o.data = .fields #[.ref a, .int (k : Nat) 0], fun k o h => ⟨_, _, h.1, h.2, by decide⟩, fun fz' m s σ P' kk S h => ?_, fun k x fz' m s I σ σ' P' E' kk hx u S h => ?_, fun fz' m s I σ σ' P' E' kk u S h => ?_⟩
    · obtain ⟨S', ne⟩ := S.new_raw (o := { cls := .type "tuple_iterator", data := .fields #[.ref a, .int 0 0] }) (P := fun o => o.cls = .type "tuple_iterator" ∧ o.data = .fields #[.ref a, .int ((0 : Nat) : Int) 0]) rfl ⟨rfl, rfl⟩
      exact .of <| iter_tuple (stays_tup (fun b o e => S.mem.fzh b o (kk b o e)) hl) (h _ _ ne S')
    · obtain ⟨ob, hob, h1, h2⟩ := (S.mem.trk _ u.mem).1
      obtain ⟨y, hy, iy⟩ := hi.get hx
      refine .of <| next_tuple_item (i := k) (t := a) ⟨ob, hob, h1, h2⟩ (stays_tup (fun b o e => S.mem.fzh b o (kk b o e)) hl) (by simpa using hy) fun h' hit hs => h y _ (iy.mono kk) (S.upd u (fun b ob hb e => (hs.2 b hb).trans e) ?_)
      obtain ⟨o2, ho2, hc2, hd2⟩ := hit
      exact ⟨o2, ho2, hc2, hd2⟩
    · obtain ⟨ob, hob, h1, h2⟩ := (S.mem.trk _ u.mem).1
      refine .of <| next_tuple_end (i := l.length) (t := a) hh ⟨ob, hob, h1, h2⟩ (stays_tup (fun b o e => S.mem.fzh b o (kk b o e)) hl) (by simp [hi.length]) fun h' hx => h _ (S.upd_del u (fun b ob hb e => hx b ob hb e))

noncomputable def upto (n : Int) : List AV := (List.range n.toNat).map fun (i : Nat) => AV.int (i : Int)
theorem upto_len (n : Int) : (upto n).length = n.toNat := by simp [upto]
theorem upto_get {n : Int} {k : Nat} {x : AV} (h : (upto n)[k]? = some x) : k < n.toNat ∧ x = .int k := by
  have hk : k < (upto n).length := (List.getElem?_eq_some_iff.mp h).1
  rw [upto_len] at hk
  refine ⟨hk, ?_⟩
  simp [upto, hk] at h
  exact h.symm
theorem It_rng {n : Int} (hh : C.A.handled = none) (h1 : -1000000000 ≤ n) (h2 : n ≤ 1000000000) : Iter C (.rng 0 n) (upto n) := by
  intro fz u i
  cases i with
  | rng a _ _ t u v hr =>
    have hsz : Builtin.Range.rangeSize 0 n 1 = (n.toNat : Int) := by unfold Builtin.Range.rangeSize; simp; split <;> omega
    have hsm : Builtin.Range.small 0 n 1 = true := by
      unfold Builtin.Range.small
      rw [hsz]
      simp only [Builtin.Range.rangeFitsLong, Bool.and_eq_true, Bool.or_eq_true, decide_eq_true_eq]
      refine ⟨⟨⟨⟨⟨by omega, by omega⟩, by omega, by omega⟩, by omega, by omega⟩, by omega, by omega⟩, .inr ?_⟩
      rw [if_pos (by omega)]
      simp only [Bool.and_eq_true, decide_eq_true_eq]
      exact ⟨by omega, by omega⟩
    refine ⟨fun k o => o = { cls := .type "range_iterator", dict := none, data := .fields #[rawInt (k : Nat), rawInt ((n.toNat : Int) - (k : Nat)), rawInt 1], slots := #[] }, fun k o h => by obtain rfl := h; exact ⟨_, _, rfl, rfl, by decide⟩, fun fz' m s σ P' kk S h => ?_, fun k x fz' m s I σ σ' P' E' kk hx u S h => ?_, fun fz' m s I σ σ' P' E' kk u S h => ?_⟩
    · obtain ⟨S', ne⟩ := S.new_raw (o := { cls := .type "range_iterator", data := .fields #[rawInt 0, rawInt (Builtin.Range.rangeSize 0 n 1), rawInt 1] }) (P := fun o => o = { cls := .type "range_iterator", dict := none, data := .fields #[rawInt ((0 : Nat) : Int), rawInt ((n.toNat : Int) - ((0 : Nat) : Int)), rawInt 1], slots := #[] }) rfl (by rw [hsz]; simp)
      exact .of <| wpAny_pyIter_range (S.mem.fzh _ _ (kk _ _ hr)) hsm (h _ _ ne S')
    · obtain ⟨ob, hob, rfl⟩ := (S.mem.trk _ u.mem).1
      obtain ⟨hk, rfl⟩ := upto_get hx
      refine .of <| wpAny_pyNext_range_item hob (by omega) fun h' hit hs => h _ _ (.int _ _) (S.upd (s' := { s with heap := h', toks := s.toks + 1 }) u (fun b ob hb e => (hs.2 b hb).trans e) ⟨_, hit, ?_⟩)
      have e1 : ((k : Nat) : Int) + 1 = ((k + 1 : Nat) : Int) := by omega
      have e2 : (n.toNat : Int) - (k : Int) - 1 = (n.toNat : Int) - ((k + 1 : Nat) : Int) := by omega
      rw [e1, e2]
    · obtain ⟨ob, hob, rfl⟩ := (S.mem.trk _ u.mem).1
      rw [upto_len] at hob
      exact .of <| wpAny_pyNext_range_end hh hob (by omega) fun h' hx => h _ (S.upd_del u (fun b ob hb e => hx b ob hb e))

theorem V_range {n : Int} {Q : AV → Sto → Prop} (h : Q (.rng 0 n) σ) : CallV C (.type "range") [.int n] σ Q := fun fz vs i m s S => by
  cases i using Iss.elimC with
  | cons _ _ _ _ i1 i2 =>
    (first | obtain ⟨_, rfl⟩ := Is.intE i1 | obtain ⟨_, rfl⟩ := Is.bytesE i1 | obtain rfl := Is.refE i1 | obtain rfl := Is.boolE i1 | obtain rfl := Iss.nilE i1 | obtain rfl := Is.noneE i1 | obtain ⟨_, rfl⟩ := Is.strE i1 | cases i1); (first | obtain ⟨_, rfl⟩ := Is.intE i2 | obtain ⟨_, rfl⟩ := Is.bytesE i2 | obtain rfl := Is.refE i2 | obtain rfl := Is.boolE i2 | obtain rfl := Iss.nilE i2 | obtain rfl := Is.noneE i2 | obtain ⟨_, rfl⟩ := Is.strE i2 | cases i2)
    refine .of <| call_range_1 ?_
    exact let ⟨S₂, x₂, g₂⟩ := S.new_frozen (o := { cls := .type "range", data := .fields #[.int 0 _, .int n _, .int 1 _] }) rfl _; ⟨_, _, σ, x₂, S₂, .rng _ _ _ _ _ _ g₂, h⟩

/-- a target takes an item -/
noncomputable def Tgt (C : Act) (target : Expr) (a : AV) (ρ ρ' : Loc) : Prop := ∀ fz m s σ v (P' : Unit → Shared → Prop), St C fz m σ s → RhoOk fz ρ m → Is fz a v → (∀ m' s', St C fz m' σ s' → RhoOk fz ρ' m' → P' () s') → wpG C.M C.A (assign target C.env v) P' C.E s
theorem Tg_name {x : Str} {p : Pos} {a : AV} (hk : C.env.scope.kind = .function := by kernel_rfl) (hx : C.env.kindOf x = some .local := by kernel_rfl) : Tgt C (.Name x p) a ρ ((x, a) :: ρ) := fun fz m s σ v P' S P i h =>
  G_assign_Name (store_step S P i h hk hx)
theorem Tg_tup {elts : List Expr} {k : Nat} {tpos : Pos} {xs : List Str} {l : List AV} (hh : C.A.handled = none) (hl : l.length = xs.length) (na : NamesAre elts xs := by repeat constructor) (hx' : (xs.all fun x => decide (C.env.kindOf x = some .local)) = true := by kernel_rfl) (hk : C.env.scope.kind = .function := by kernel_rfl) :
    Tgt C (.Tuple elts k tpos) (.tup l) ρ ((xs.zip l).reverse ++ ρ) := fun fz m s σ v P' S P i h => assign_tup na hh hk (fun x hx => of_decide_eq_true (List.all_eq_true.mp hx' x hx)) S P i hl h

theorem Del.toUpd {a : Addr} {o o' : AO} {r r' : Sto} (u : Del a o r r') : ∃ r₂, Upd a o o' r r₂ ∧ Del a o' r₂ r' := by
  induction u with
  | here => exact ⟨_, .here, .here⟩
  | there _ ih => obtain ⟨r₂, h1, h2⟩ := ih; exact ⟨_, .there h1, .there h2⟩

theorem Del.perm {a : Addr} {o : AO} {r r' : Sto} (u : Del a o r r') : r.Perm ((a, o) :: r') := by
  induction u with
  | here => exact List.Perm.refl _
  | there _ ih => exact (ih.cons _).trans (List.Perm.swap _ _ _)
theorem St.perm {fz : Heap} {m : Str → Option Value} {s : Shared} {σ σ' : Sto} (S : St C fz m σ s) (p : σ.Perm σ') : St C fz m σ' s :=
  ⟨⟨S.mem.bfz, S.mem.fzh, S.mem.kph, fun q hq => S.mem.trk q (p.mem_iff.mpr hq), (p.map _).nodup_iff.mp S.mem.nodup, S.mem.gens, S.mem.os⟩, S.ns, S.Lfz, S.Lkp, fun q hq => S.Lσ q (p.mem_iff.mpr hq)⟩
theorem letOwned {M : Model} {A : Around} {E : Value → Shared → Prop} {target : Expr} {I : Addr} {y : Value} {o : Obj} {nm : String} {vs : Array Value} {Q : Unit → Shared → Prop} {s : Shared}
    (ho : s.heap.get? I = some o) (hc : o.cls = .type nm) (hd : o.data = .fields vs) (hn : ownNames.contains nm = false) (hq : Q () s) : wpG M A (letOwnedTupleGo target (.ref I) y) Q E s := by
  have key : wpG M A (letOwnedTupleGo (.Tuple [] 0 default) (.ref I) y) Q E s := by
    cases y with
    | ref b =>
      refine wpG_bind (m := load I) (.of (wpAny_load ho ?_))
      rw [hc, hd]
      show wpG _ _ (if (ownNames.contains nm && vs[0]? == some (rawInt b)) = true then _ else _) _ _ _
      rw [hn]
      exact wpG_pure hq
    | _ => exact wpG_pure hq
  cases target with
  | Tuple => exact key
  | List => exact key
  | _ => exact wpG_pure hq
theorem wpG_hide {α : Type} {M : Model} {A : Around} {E : Value → Shared → Prop} {t : Sem α} {Q : α → Shared → Prop} {s : Shared} (h : ∀ P : α → Shared → Prop, (∀ a s, Q a s → P a s) → wpG M A t P E s) : wpG M A t Q E s := h Q fun _ _ x => x
abbrev ForInv (C : Act) (fz₁ : Heap) (I : Addr) (IP : Nat → Obj → Prop) (N : Nat) (Inv : Nat → Loc → Sto → Prop) (n : Nat) (s : Shared) : Prop :=
  ∃ k fz' m' ρ' σ' σ'', n = N - k ∧ k ≤ N ∧ Ext C.kp fz₁ fz' ∧ St C fz' m' σ'' s ∧ RhoOk fz' ρ' m' ∧ Del I (.raw (IP k)) σ'' σ' ∧ Inv k ρ' σ'
/-- for: an invariant over the walk -/
theorem X_for {target iter : Expr} {body : List Stmt} {pos : Pos} {Q : Loc → Sto → Prop} {R : AV → Sto → Prop} (hf : C.Flies)
    (h : Ev C iter ρ σ fun v σ₁ => ∃ (items : List AV) (Inv : Nat → Loc → Sto → Prop), Iter C v items ∧ (∃ ρ₀, Sub ρ₀ ρ ∧ Inv 0 ρ₀ σ₁) ∧
      (∀ k ρ' σ' a, items[k]? = some a → Inv k ρ' σ' → ∃ ρ₁, Tgt C target a ρ' ρ₁ ∧ ∀ it P, (∀ p ∈ σ', p.1 ≠ it) →
        Exs C body ρ₁ ((it, .raw P) :: σ') (fun ρ₂ σ₂ => ∃ ρ₃ σ₃, Sub ρ₃ ρ₂ ∧ Del it (.raw P) σ₂ σ₃ ∧ Inv (k + 1) ρ₃ σ₃) R) ∧
      (∀ ρ' σ', Inv items.length ρ' σ' → Q ρ' σ'))
    (hs : ∀ x, foldedSetIterable iter C.env x = pure x := by intro _; kernel_rfl) : Ex C (.For target iter body [] pos) ρ σ Q R := fun fz m s S P => by
  refine G_For ((h fz m s S P).step fun fz₁ v u σ₁ s₁ x₁ S₁ i₁ h₁ => ?_) hs
  refine wpG_hide fun PP hPP => ?_
  obtain ⟨items, Inv, hit, ⟨ρ₀, hsub, h0⟩, turn, fin⟩ := h₁
  obtain ⟨IP, hown, hstart, hnext, hend⟩ := hit fz₁ u i₁
  refine hstart fz₁ m s₁ σ₁ _ (fun _ _ e => e) S₁ fun I s₂ hne S₂ => hPP _ _ ?_
  refine codeG_forLoop (ForInv C fz₁ I IP items.length Inv) (fun n s hI => ?_) (items.length - 0)
    ⟨0, fz₁, m, ρ₀, σ₁, _, rfl, Nat.zero_le _, Ext.refl _ _, S₂, (P.mono x₁.1).sub hsub, .here, h0⟩
  clear hPP
  refine wpG_hide fun P₁ hP₁ => ?_
  obtain ⟨k, fz', m', ρ', σ', σ'', rfl, hk, x, S', P', dl, hI⟩ := hI
  rcases Nat.lt_or_ge k items.length with hlt | hge
  · obtain ⟨a, ha⟩ : ∃ a, items[k]? = some a := ⟨_, List.getElem?_eq_getElem hlt⟩
    obtain ⟨r₂, hu, dl₂⟩ := dl.toUpd (o' := .raw (IP (k + 1)))
    obtain ⟨ρ₁, htgt, hbody⟩ := turn k ρ' σ' a ha hI
    refine hnext k a fz' m' s I σ'' r₂ _ _ x.1 ha hu S' fun y s₃ iy S₃ => ?_
    obtain ⟨o, ho, hPo⟩ := (S₃.mem.trk _ dl₂.mem).1
    obtain ⟨nm, vs, hc, hd, hn⟩ := hown _ _ hPo
    refine hP₁ _ _ (letOwned ho hc hd hn ?_)
    refine wpG_mono (htgt fz' m' s₃ r₂ y _ S₃ P' iy fun m₄ s₄ S₄ P₄ => ?_) (fun _ _ x => x) fun e s' he => hf e s' he
    refine wpG_mono (hbody I _ (dl.nodup S'.mem.nodup).2 fz' m₄ s₄ (S₄.perm dl₂.perm) P₄) (fun f s₅ h₅ => ?_) fun e s' he => hf e s' he
    cases f with
    | next =>
      obtain ⟨fz₅, m₅, σ₅, x₅, S₅, ρ₂, P₂, ρ₃, σ₃, hs₃, dl₃, hI₃⟩ := h₅
      exact ⟨_, by omega, k + 1, fz₅, m₅, ρ₃, σ₃, σ₅, rfl, hlt, x.trans x₅, S₅, P₂.sub hs₃, dl₃, hI₃⟩
    | ret v =>
      obtain ⟨fz₅, m₅, σ₅, x₅, S₅, h₅⟩ := h₅
      exact ⟨fz₅, m₅, σ₅, (x₁.trans x).trans x₅, S₅, h₅⟩
    | brk => obtain ⟨fz₅, m₅, σ₅, x₅, S₅, h₅⟩ := h₅; exact h₅.elim
    | cont => obtain ⟨fz₅, m₅, σ₅, x₅, S₅, h₅⟩ := h₅; exact h₅.elim
  · obtain rfl : k = items.length := by omega
    refine hend fz' m' s I σ'' σ' _ _ x.1 dl S' fun s₃ S₃ => hP₁ _ _ ?_
    exact .of <| wpAny_execs_nil ⟨fz', m', σ', x₁.trans x, S₃, ρ', P', fin _ _ hI⟩
end
end Mine

-- M8
set_option Elab.async false
set_option maxRecDepth 100000
set_option maxHeartbeats 1000000
set_option linter.all false
namespace Mine
local macro_rules | `(tactic| omega) => `(tactic| lia)
open PySem PySem.W PySem.Calls PyProof.Rows PySem.Spec

section
variable {C : Act} {ρ : Loc} {σ : Sto} {Q : AV → Sto → Prop} {T : Bool → Sto → Prop}

theorem B_mulB {b : List UInt8} {n : Int} (hb : b ≠ []) (hlo : -1048576 ≤ n) (hn : n ≤ 1048576) (hs : b.length ≤ 16) (h : Q (.bytes (List.replicate n.toNat b).flatten) σ) : Bin C .Mult (.bytes b) (.int n) σ Q := fun fz u v i j m s S => by
  (first | obtain ⟨_, rfl⟩ := Is.intE i | obtain ⟨_, rfl⟩ := Is.bytesE i | obtain rfl := Is.refE i | obtain rfl := Is.boolE i | obtain rfl := Iss.nilE i | obtain rfl := Is.noneE i | obtain ⟨_, rfl⟩ := Is.strE i | cases i); (first | obtain ⟨_, rfl⟩ := Is.intE j | obtain ⟨_, rfl⟩ := Is.bytesE j | obtain rfl := Is.refE j | obtain rfl := Is.boolE j | obtain rfl := Iss.nilE j | obtain rfl := Is.noneE j | obtain ⟨_, rfl⟩ := Is.strE j | cases j)
  exact .of <| bytes_mul_any hb hlo hn hs fun t' k => here (S.toks _) (.bytes _ _) h
theorem B_mulBig {b : List UInt8} {n : Int} (hb : b ≠ []) (h1 : 1 ≤ n) (hn : n ≤ 1048576) (hs : b.length * n.toNat ≤ 16777216) (h : Q (.bytes (List.replicate n.toNat b).flatten) σ) : Bin C .Mult (.bytes b) (.int n) σ Q := fun fz u v i j m s S => by
  cases i using Is.elimB with
  | bytes _ t =>
  cases j using Is.elimI with
  | int _ u =>
  by_cases h1 : n = 1
  · subst h1
    have hz : b.toArray.size ≤ 16777216 := by simpa using hs
    refine .of <| wpAny_binaryOp_repeat (T := "bytes") (U := "int") (by decide) (fun s' => typeIs_bytes s' _ t) (fun s' => typeIs_int s' 1 u) BMul.noFill F.fills_int_mul F.slot_int_rmul BMul.repeats F.slot_int_index.lookup
      (call_gives F.slot_int_rmul (typeIs_int s 1 u) F.entry_int_rmul (F.args_int_rmul_2 _ _) (BMul.int_declines 1 u _ t)
        ⟨rfl, call_gives BMul.slot_mul (typeIs_bytes s _ t) BMul.entry_mul (BMul.args_mul _ _) (BMul.gives_mul1 hz) ?_⟩)
    have e : (List.replicate (1 : Int).toNat b).flatten = b := by simp
    rw [e] at h
    exact here S (.bytes _ _) h
  · exact .of <| bytes_mul_K hb (by omega) hn hs rfl fun t' k => here (S.toks _) (.bytes _ _) h
theorem B_addL {l r : List AV} (hz : l.length + r.length ≤ sizeLine) (h : Q (.lst (l ++ r)) σ) : Bin C .Add (.lst l) (.lst r) σ Q := fun fz u v i j m s S => by
  cases i using Is.elimL with
  | lst a _ vs hl hi =>
  cases j using Is.elimL with
  | lst b _ ws hr hj =>
  have hl' := stays_list S.mem.fzh hl
  have hr' := stays_list S.mem.fzh hr
  obtain ⟨⟨cls, dd, data, sl⟩, ho, hc, n, hd⟩ := id hl'
  obtain ⟨⟨cls2, dd2, data2, sl2⟩, ho2, hc2, n2, hd2⟩ := id hr'
  simp only at hc hd hc2 hd2
  subst hc hd hc2 hd2
  refine .of <| concat_meets ⟨_, ho, rfl⟩ ⟨_, ho2, rfl⟩ noFill_list_add seq_list_add PySem.F.slot_list_add PySem.F.entry_list_add (PySem.F.args_list_add_2 _ _) (list_addW a b vs.toArray ws.toArray n n2 dd dd2 sl sl2 (by rw [List.size_toArray, List.size_toArray, ← hi.length, ← hj.length]; exact hz)) ⟨ho, ho2, ?_⟩
  have e : vs.toArray ++ ws.toArray = (vs ++ ws).toArray := by simp
  rw [e]
  obtain ⟨S₂, x₂, g₂⟩ := S.new_frozen (o := { cls := .type "list", data := .seq (vs ++ ws).toArray }) rfl s.toks
  exact ⟨_, .lst (l ++ r), σ, x₂, S₂, .lst _ _ (vs ++ ws) ⟨_, g₂, rfl, 0, rfl⟩ ((hi.append hj).mono x₂.1), h⟩
theorem C_neL {l r : List AV} (hu : C.A.units < cLine) (hlen : l.length ≠ r.length ∨ (l = [] ∧ r = [])) (h : Q (.bool (decide (l.length ≠ r.length))) σ) : Cmp C .NotEq (.lst l) (.lst r) σ Q := fun fz u v i j m s S => by
  cases i using Is.elimL with
  | lst a _ vs hl hi =>
  cases j using Is.elimL with
  | lst b _ ws hr hj =>
  have hl' := stays_list S.mem.fzh hl
  have hr' := stays_list S.mem.fzh hr
  have e1 : vs.toArray.size = l.length := by simp [hi.length]
  have e2 : ws.toArray.size = r.length := by simp [hj.length]
  rcases hlen with hne | ⟨rfl, rfl⟩
  · have hb : decide (l.length ≠ r.length) = true := by simp [hne]
    rw [hb] at h
    exact .of <| SeqAt.RcNeAt.lists_lengths hl' hr' (by rw [e1, e2]; simp [hne]) hu _ _ _ _ (here S (.bool _) h)
  · have := SeqAt.RcNeAt.lists (A := C.A) (s := s) (e := fun _ => true) hl' hr' (by rw [e1, e2]) hu (fun j h1 => by rw [e1] at h1; simp at h1)
    refine .of <| this _ _ _ _ (here S ?_ h)
    rw [e1]; exact .bool _
theorem C_neS {a b : Str} (h : Q (.bool (decide (a ≠ b))) σ) : Cmp C .NotEq (.str a) (.str b) σ Q := fun fz u v i j m s S => by
  (first | obtain ⟨_, rfl⟩ := Is.intE i | obtain ⟨_, rfl⟩ := Is.bytesE i | obtain rfl := Is.refE i | obtain rfl := Is.boolE i | obtain rfl := Iss.nilE i | obtain rfl := Is.noneE i | obtain ⟨_, rfl⟩ := Is.strE i | cases i); (first | obtain ⟨_, rfl⟩ := Is.intE j | obtain ⟨_, rfl⟩ := Is.bytesE j | obtain rfl := Is.refE j | obtain rfl := Is.boolE j | obtain rfl := Iss.nilE j | obtain rfl := Is.noneE j | obtain ⟨_, rfl⟩ := Is.strE j | cases j)
  refine .of <| PyProof.Rows.ne_str (here S (.bool _) ?_)
  rwa [show (a != b) = decide (a ≠ b) by by_cases e : a = b <;> simp [e]]
theorem C_neNone (h : Q (.bool false) σ) : Cmp C .NotEq .none .none σ Q := fun fz u v i j m s S => by
  (first | obtain ⟨_, rfl⟩ := Is.intE i | obtain ⟨_, rfl⟩ := Is.bytesE i | obtain rfl := Is.refE i | obtain rfl := Is.boolE i | obtain rfl := Iss.nilE i | obtain rfl := Is.noneE i | obtain ⟨_, rfl⟩ := Is.strE i | cases i); (first | obtain ⟨_, rfl⟩ := Is.intE j | obtain ⟨_, rfl⟩ := Is.bytesE j | obtain rfl := Is.refE j | obtain rfl := Is.boolE j | obtain rfl := Iss.nilE j | obtain rfl := Is.noneE j | obtain ⟨_, rfl⟩ := Is.strE j | cases j)
  exact .of <| EqNone.ne_none_none (here S (.bool _) h)

theorem new_bytes_bytes {prog : Program} {w : World} {A : Around} {E : Value → Shared → Prop} {s : Shared} {b : List UInt8} {t : Tok} {Q : Value → Shared → Prop} (hQ : Q (.bytes b.toArray t) s) :
    codeAny (model prog w) A (.call (.builtin "bytes.__new__") ⟨[.type "bytes", .bytes b.toArray t], []⟩) (wants Q E) s := by
  have look : typeLookup (.type "bytes") "__bytes__" = pure (some (.builtin "bytes.__bytes__")) := by rw [typeLookup_type, builtinLookup_eq_fast]; kernel_rfl
  refine codeAny_of_tree ?_
  show wpAny _ A.in1 (do checkBuiltinCall "bytes.__new__" ⟨[.type "bytes", .bytes b.toArray t], []⟩; again (.builtin "bytes.__new__" ⟨[.type "bytes", .bytes b.toArray t], []⟩)) _ _ s
  refine wpAny_bind (wpAny_of_eq (F.bm_newCall _) (wpAny_pure ⟨plainId_quiet F.bm_plain _, codeAny_builtin F.bm_entry ?_⟩))
  rw [Around.under_plainId F.bm_plain _]
  unfold Builtin.«bytes.__new__»
  refine wpAny_bind (wpAny_of_eq (a := true) rfl ?_)
  refine bm_if_false rfl ?_
  refine wpAny_bind (wpAny_of_eq F.bm_sub ?_)
  refine bm_if_false rfl ?_
  refine wpAny_bind (wpAny_of_eq (F.bm_bind _) ?_)
  refine wpAny_bind (wpAny_of_eq (a := ()) rfl ?_)
  refine wpAny_bind (wpAny_of_eq (a := ()) rfl ?_)
  refine bm_if_false rfl ?_
  refine wpAny_bind (wpAny_of_eq (KBy.special_eq look) ?_)
  refine wpAny_bind (wpAny_rule ?_)
  refine wpAny_bind (wpAny_typeOf (typeIs_bytes _ _ _) ?_)
  refine bm_if_true rfl ?_
  refine bm_if_true rfl ?_
  exact wpAny_pure hQ
theorem V_bytes_bytes {b : List UInt8} (h : Q (.bytes b) σ) : CallV C (.type "bytes") [.bytes b] σ Q := fun fz vs i m s S => by
  cases i using Iss.elimC with
  | cons _ _ _ _ i1 i2 =>
    (first | obtain ⟨_, rfl⟩ := Is.intE i1 | obtain ⟨_, rfl⟩ := Is.bytesE i1 | obtain rfl := Is.refE i1 | obtain rfl := Is.boolE i1 | obtain rfl := Iss.nilE i1 | obtain rfl := Is.noneE i1 | obtain ⟨_, rfl⟩ := Is.strE i1 | cases i1); (first | obtain ⟨_, rfl⟩ := Is.intE i2 | obtain ⟨_, rfl⟩ := Is.bytesE i2 | obtain rfl := Is.refE i2 | obtain rfl := Is.boolE i2 | obtain rfl := Iss.nilE i2 | obtain rfl := Is.noneE i2 | obtain ⟨_, rfl⟩ := Is.strE i2 | cases i2)
    refine .of <| callType_codes (Q₁ := fun obj s₁ => s₁.TypeIs obj "bytes" ∧ EvPost C fz m Q obj s₁) F.bm_called (F.bm_typeCall _) F.entry_object_init
      (new_bytes_bytes ⟨PySem.W.typeIs_bytes _ _ _, here S (.bytes _ _) h⟩) fun obj s₁ h₁ => ?_
    exact ⟨h₁.1, F.args_object_init_2 obj _, object_init_meets F.bm_called.init.lookup F.bm_called.made (by decide) C.prog C.w C.A.in1 _ s₁ ⟨h₁.1, rfl, h₁.2⟩⟩
end
end Mine

-- P1
set_option linter.all false
namespace Mine

/-- the pure law: what the program computes -/
noncomputable def oc (b : List UInt8) (i : Nat) : Nat := (b.getD i 0).toNat
noncomputable def u8 (n : Nat) : UInt8 := UInt8.ofNat n
noncomputable def moreO (n : Nat) : List UInt8 := if n < 15 then [] else List.replicate ((n - 15) / 255) 255 ++ [u8 ((n - 15) % 255)]
noncomputable def wordAt (b : List UInt8) (i : Nat) : Nat := oc b i + 256 * oc b (i + 1) + 65536 * oc b (i + 2) + 16777216 * oc b (i + 3)
noncomputable def likeO (b : List UInt8) : Nat → Nat → Nat → Nat
  | _, _, 0 => 0
  | i, j, k + 1 => if oc b i = oc b j then likeO b (i + 1) (j + 1) k + 1 else 0
noncomputable def likeA (b : List UInt8) : Nat → Nat → Nat → Nat
  | _, _, 0 => 0
  | i, j, k + 1 => if oc b (i - 1) = oc b (j - 1) then likeA b (i - 1) (j - 1) k + 1 else 0
noncomputable def seqB (l : List UInt8) (back many : Nat) : List UInt8 :=
  [u8 (min l.length 15 * 16 + min (many - 4) 15)] ++ moreO l.length ++ l ++ ([u8 (back % 256), u8 (back / 256)] ++ moreO (many - 4))
noncomputable def lastB (l : List UInt8) : List UInt8 := [u8 (min l.length 15 * 16)] ++ moreO l.length ++ l
noncomputable def sl (b : List UInt8) (i j : Nat) : List UInt8 := (b.drop i).take (j - i)
noncomputable def packGo (b : List UInt8) : Nat → List (Int × Int) → Nat → Nat → List UInt8 → List UInt8
  | 0, _, begin, _, found => found ++ lastB (b.drop begin)
  | n + 1, known, begin, i, found =>
    if i + 12 ≤ b.length then
      match getI known (wordAt b i) with
      | none => packGo b n (setI known (wordAt b i) i) begin (i + 1) found
      | some j =>
        let a := likeA b i j.toNat (min (i - begin) j.toNat)
        let m := likeO b i j.toNat (b.length - 5 - i)
        packGo b n (setI (setI known (wordAt b i) i) (wordAt b (i + m - 2)) (i + m - 2 : Nat)) (i + m) (i + m) (found ++ seqB (sl b begin (i - a)) (i - j.toNat) (m + a))
    else found ++ lastB (b.drop begin)
noncomputable def packW (b : List UInt8) : List UInt8 := packGo b (b.length + 1) [] 0 0 []
/-- a length told in more octets -/
noncomputable def scan : List UInt8 → Option (Nat × Nat)
  | [] => none
  | x :: r => if x = 255 then (scan r).map fun p => (p.1 + 255, p.2 + 1) else some (x.toNat, 1)
noncomputable def lenP (f : List UInt8) (i half : Nat) : Option (Nat × Nat) := if half < 15 then some (half, i) else (scan (f.drop i)).map fun p => (15 + p.1, i + p.2)
/-- an old part told again, octet by octet -/
noncomputable def copyP (back : Nat) : Nat → List UInt8 → List UInt8
  | 0, l => l
  | n + 1, l => copyP back n (l ++ [l.getD (l.length - back) 0])
inductive Res where
  | ok (b : List UInt8) | bad (why : String)
abbrev Cp := Nat × Nat × Nat × Nat
noncomputable def readP (f : List UInt8) (size : Nat) : Nat → List UInt8 → List Cp → List Nat → Nat → Res × List Cp × List Nat
  | 0, _, c, e, _ => (.bad "too short", c, e)
  | n + 1, found, c, e, i =>
    if f.length ≤ i then (.bad "too short", c, e) else
    match lenP f (i + 1) (oc f i / 16) with
    | none => (.bad "too short", c, e)
    | some (many, i₁) =>
      if size < found.length + many then (.bad "too long", c, e)
      else if f.length < i₁ + many then (.bad "too short", c, e)
      else
        let found₁ := found ++ sl f i₁ (i₁ + many)
        let e₁ := e ++ [found₁.length]
        if found₁.length = size then (.ok found₁, c, e₁)
        else if f.length < i₁ + many + 2 then (.bad "too short", c, e₁)
        else match lenP f (i₁ + many + 2) (oc f i % 16) with
        | none => (.bad "too short", c, e₁)
        | some (l, i₂) =>
          let back := oc f (i₁ + many) + 256 * oc f (i₁ + many + 1)
          if back = 0 ∨ found₁.length < back then (.bad "a copy of nothing", c, e₁)
          else if size < found₁.length + (l + 4) then (.bad "too long", c, e₁)
          else readP f size n (copyP back (l + 4) found₁) (c ++ [(found₁.length, many, back, l + 4)]) e₁ i₂
noncomputable def readW (f : List UInt8) (size : Nat) : Res × List Cp × List Nat := readP f size (f.length + 1) [] [] [] 0
end Mine

-- P2
set_option linter.all false
namespace Mine
local macro_rules | `(tactic| omega) => `(tactic| lia)

theorem oc_lt (b : List UInt8) (i : Nat) : oc b i < 256 := by unfold oc; exact UInt8.toNat_lt _
theorem getI_setI (d : List (Int × Int)) (k v w : Int) : getI (setI d k v) w = if w = k then some v else getI d w := by
  unfold getI setI
  split
  · rename_i h
    induction d with
    | nil => simp at h
    | cons x d ih =>
      obtain ⟨x, y⟩ := x
      by_cases hx : x = k
      · subst hx
        by_cases hw : w = x
        · subst hw; simp
        · have hw' : ¬ x = w := fun e => hw e.symm
          simp [hw, hw']
          clear ih h
          induction d with
          | nil => rfl
          | cons z d ih2 =>
            obtain ⟨z, t⟩ := z
            by_cases hz : z = x
            · subst hz; simp [hw', ih2]
            · by_cases hzw : z = w
              · subst hzw; simp [hz]
              · simp [hz, hzw, ih2]
      · have h' : (d.any fun kv => decide (kv.1 = k)) = true := by simpa [hx] using h
        have := ih h'
        by_cases hxw : x = w
        · subst hxw; simp [hx]
        · simp [hx, hxw]; simpa using this
  · rename_i h
    rw [List.find?_append]
    by_cases hw : w = k
    · subst hw
      have : d.find? (fun kv => decide (kv.1 = w)) = none := by
        rw [List.find?_eq_none]; intro x hx hk
        apply h; rw [List.any_eq_true]; exact ⟨x, hx, hk⟩
      simp [this]
    · have hw' : ¬ k = w := fun e => hw e.symm
      simp [hw, hw']
theorem setI_len (d : List (Int × Int)) (k v : Int) : (setI d k v).length ≤ d.length + 1 := by
  unfold setI; split <;> simp
theorem wordAt_inj {b : List UInt8} {i j : Nat} (h : wordAt b i = wordAt b j) : oc b i = oc b j ∧ oc b (i + 1) = oc b (j + 1) ∧ oc b (i + 2) = oc b (j + 2) ∧ oc b (i + 3) = oc b (j + 3) := by
  unfold wordAt at h
  have h0 := oc_lt b i
  have h1 := oc_lt b (i + 1)
  have h2 := oc_lt b (i + 2)
  have h3 := oc_lt b (i + 3)
  have g0 := oc_lt b j
  have g1 := oc_lt b (j + 1)
  have g2 := oc_lt b (j + 2)
  have g3 := oc_lt b (j + 3)
  omega
theorem likeO_four {b : List UInt8} {i j k : Nat} (h : wordAt b i = wordAt b j) (hk : 4 ≤ k) : 4 ≤ likeO b i j k := by
  obtain ⟨h0, h1, h2, h3⟩ := wordAt_inj h
  obtain ⟨k, rfl⟩ : ∃ m, k = m + 4 := ⟨k - 4, by omega⟩
  show 4 ≤ likeO b i j (k + 3 + 1)
  rw [likeO, if_pos h0]
  show 4 ≤ likeO b (i + 1) (j + 1) (k + 2 + 1) + 1
  rw [likeO, if_pos h1]
  show 4 ≤ likeO b (i + 1 + 1) (j + 1 + 1) (k + 1 + 1) + 1 + 1
  rw [likeO, if_pos h2]
  show 4 ≤ likeO b (i + 1 + 1 + 1) (j + 1 + 1 + 1) (k + 1) + 1 + 1 + 1
  rw [likeO, if_pos h3]
  omega
theorem moreO_len (n : Nat) : (moreO n).length ≤ n + 1 := by
  unfold moreO; split
  · simp
  · simp; omega
theorem seqB_len (l : List UInt8) (back many : Nat) (h : 4 ≤ many) : (seqB l back many).length ≤ 2 * l.length + many + 1 := by
  unfold seqB
  have h1 := moreO_len l.length
  have h2 := moreO_len (many - 4)
  simp; omega
theorem lastB_len (l : List UInt8) : (lastB l).length ≤ 2 * l.length + 2 := by
  unfold lastB
  have h1 := moreO_len l.length
  simp; omega
theorem likeA_le (b : List UInt8) : ∀ (i j k : Nat), likeA b i j k ≤ k
  | _, _, 0 => Nat.le_refl _
  | i, j, k + 1 => by
    unfold likeA; split
    · have := likeA_le b (i - 1) (j - 1) k; omega
    · omega
theorem likeO_le (b : List UInt8) : ∀ (i j k : Nat), likeO b i j k ≤ k
  | _, _, 0 => Nat.le_refl _
  | i, j, k + 1 => by
    unfold likeO; split
    · have := likeO_le b (i + 1) (j + 1) k; omega
    · omega
theorem sl_len (b : List UInt8) (i j : Nat) (h : j ≤ b.length) : (sl b i j).length = j - i := by
  unfold sl; simp; omega
/-- what is known of the words ahead of i -/
noncomputable def dictOk (o : List UInt8) (d : List (Int × Int)) (i : Nat) : Prop := ∀ w j, getI d w = some j → 0 ≤ j ∧ j < i ∧ (wordAt o j.toNat : Int) = w
theorem dictOk.set {o : List UInt8} {d : List (Int × Int)} {i i' : Nat} (h : dictOk o d i) (hi : i ≤ i') (k : Nat) (hk : k < i') : dictOk o (setI d (wordAt o k) k) i' := fun w j e => by
  rw [getI_setI] at e
  split at e
  · rename_i hw; cases e; exact ⟨by omega, by omega, by simpa using hw.symm⟩
  · obtain ⟨h1, h2, h3⟩ := h w j e
    exact ⟨h1, by omega, h3⟩
/-- the found octets only grow -/
theorem packGo_le (b : List UInt8) : ∀ (n : Nat) (d : List (Int × Int)) (begin i : Nat) (f : List UInt8), f.length ≤ (packGo b n d begin i f).length
  | 0, _, _, _, _ => by simp [packGo]
  | n + 1, d, begin, i, f => by
    unfold packGo
    split
    · split
      · exact packGo_le b n _ _ _ _
      · refine Nat.le_trans ?_ (packGo_le b n _ _ _ _)
        simp
    · simp
end Mine

-- V0
set_option Elab.async false
set_option maxRecDepth 100000
set_option maxHeartbeats 4000000
set_option linter.all false
namespace Mine
open PySem PySem.W PySem.Calls PyProof.Rows PySem.Spec

theorem len0 {P : List Value → Prop} (h : P []) : ∀ vs : List Value, vs.length = 0 → P vs := fun vs e => (List.eq_nil_of_length_eq_zero e) ▸ h
theorem lenS {P : List Value → Prop} {n : Nat} (h : ∀ (a : Value) (vs : List Value), vs.length = n → P (a :: vs)) : ∀ vs : List Value, vs.length = n + 1 → P vs
  | a :: vs, e => h a vs (Nat.succ.inj e)
theorem len1 {P : List Value → Prop} (h : ∀ a, P [a]) : ∀ vs : List Value, vs.length = 1 → P vs := lenS fun a => len0 (P := fun vs => P (a :: vs)) (h a)
theorem len2 {P : List Value → Prop} (h : ∀ a b, P [a, b]) : ∀ vs : List Value, vs.length = 2 → P vs := lenS fun a => len1 (P := fun vs => P (a :: vs)) (h a)
theorem len3 {P : List Value → Prop} (h : ∀ a b c, P [a, b, c]) : ∀ vs : List Value, vs.length = 3 → P vs := lenS fun a => len2 (P := fun vs => P (a :: vs)) (h a)
theorem len4 {P : List Value → Prop} (h : ∀ a b c d, P [a, b, c, d]) : ∀ vs : List Value, vs.length = 4 → P vs := lenS fun a => len3 (P := fun vs => P (a :: vs)) (h a)
theorem len5 {P : List Value → Prop} (h : ∀ a b c d e, P [a, b, c, d, e]) : ∀ vs : List Value, vs.length = 5 → P vs := lenS fun a => len4 (P := fun vs => P (a :: vs)) (h a)
/-- what the top left, as a run of the law finds it -/
structure Base (w : World) (b : Heap) : Prop where
  kx : (MineTop.frag w.params).In b
  nolimit : b.NoLimit
  mg : ∃ mg, b.Ns mainGlobals mg ∧ ∀ x v, nsIn (MineTop.frag w.params) mainGlobals x = some (some v) → mg x = some v
  mb : ∃ mg mb, b.Ns mainGlobals mg ∧ b.Ns builtinsNs mb ∧ ∀ x v, nsIn (MineTop.frag w.params) mainGlobals x = some none → bootBuiltins x = some v → x ≠ "__name__" → mg x = none ∧ mb x = some v
theorem Base.gl {w : World} {b : Heap} (h : Base w b) {x : Str} {v : Value} (e : nsIn (MineTop.frag w.params) mainGlobals x = some (some v)) : Gl b x v := by
  obtain ⟨mg, h1, h2⟩ := h.mg
  exact ⟨mg, h1, .inl (h2 x v e)⟩
theorem Base.gb {w : World} {b : Heap} (h : Base w b) {x : Str} {v : Value} (e : nsIn (MineTop.frag w.params) mainGlobals x = some none) (e2 : bootBuiltins x = some v) (n : x ≠ "__name__") : Gl b x v := by
  obtain ⟨mg, mb, h1, h2, h3⟩ := h.mb
  exact ⟨mg, h1, .inr ⟨(h3 x v e e2 n).1, mb, h2, (h3 x v e e2 n).2⟩⟩
abbrev thePy : Program := PySem.Challenge.rw_np0178_01.row.prog

section
variable {w : World} {b : Heap} (hB : Base w b)
include hB
theorem gl_FULL : Gl b "FULL" (.int 15 244) := hB.gl rfl
theorem gl_LEAST : Gl b "LEAST_COPY" (.int 4 236) := hB.gl rfl
theorem gl_LITS : Gl b "LAST_LITERALS" (.int 5 238) := hB.gl rfl
theorem gl_BEGIN : Gl b "LAST_BEGIN" (.int 12 240) := hB.gl rfl
theorem gl_BACK : Gl b "MOST_BACK" (.int 65535 242) := hB.gl rfl
theorem gl_len : Gl b "len" (.builtin "len") := hB.gb rfl rfl (by decide)
theorem gl_min : Gl b "min" (.builtin "min") := hB.gb rfl rfl (by decide)
theorem gl_max : Gl b "max" (.builtin "max") := hB.gb rfl rfl (by decide)
theorem gl_bytes : Gl b "bytes" (.type "bytes") := hB.gb rfl rfl (by decide)
theorem gl_bytearray : Gl b "bytearray" (.type "bytearray") := hB.gb rfl rfl (by decide)
theorem gl_range : Gl b "range" (.type "range") := hB.gb rfl rfl (by decide)
theorem gl_set : Gl b "set" (.type "set") := hB.gb rfl rfl (by decide)
end


theorem E_callF {C : Act} {ρ : Loc} {σ : Sto} {Q : AV → Sto → Prop} {x : Str} {a : Addr} {es : List Expr} {np pos : Pos} (hg : Gl C.b x (.ref a)) (hd' : ∃ o fd, C.b.get? a = some o ∧ o.data = .func fd) (h : EvL C es ρ σ fun avs σ₁ => CallV C (.ref a) avs σ₁ Q)
    (ht : backTo pos (starEach es C.env) = es.map (fun e => (false, eval e C.env)) := by kernel_rfl) (e1 : C.env.globals = mainGlobals := by kernel_rfl) (e2 : C.env.builtins = builtinsNs := by kernel_rfl)
    (hk : C.env.scope.kind = .function := by kernel_rfl) (hx : C.env.kindOf x = some .globalImplicit := by kernel_rfl) (hd : (x == ("__debug__" : Str)) = false := by decide) : Ev C (.Call (.Name x np) es [] pos) ρ σ Q :=
  let ⟨_, _, h1, h2⟩ := hd'; E_call_def hg h1 h2 h ht e1 e2 hk hx hd
theorem E_callX {C : Act} {ρ : Loc} {σ : Sto} {Q : AV → Sto → Prop} {x : Str} {es : List Expr} {np pos : Pos} (h : ∃ a, (Gl C.b x (.ref a) ∧ ∃ o fd, C.b.get? a = some o ∧ o.data = .func fd) ∧ EvL C es ρ σ fun avs σ₁ => CallV C (.ref a) avs σ₁ Q)
    (ht : backTo pos (starEach es C.env) = es.map (fun e => (false, eval e C.env)) := by kernel_rfl) (e1 : C.env.globals = mainGlobals := by kernel_rfl) (e2 : C.env.builtins = builtinsNs := by kernel_rfl)
    (hk : C.env.scope.kind = .function := by kernel_rfl) (hx : C.env.kindOf x = some .globalImplicit := by kernel_rfl) (hd : (x == ("__debug__" : Str)) = false := by decide) : Ev C (.Call (.Name x np) es [] pos) ρ σ Q :=
  let ⟨_, ⟨hg, hf⟩, h⟩ := h; E_callF hg hf h ht e1 e2 hk hx hd
theorem V_def {C : Act} {σ : Sto} {Q : AV → Sto → Prop} {r r' : Nat} {B : Heap} {outer : List Env} {f : Value} {avs : List AV} {v : AV} (hF : Fn C.prog C.w C.b r NoZ f avs [] (fun σu σ' => σ' = [] ∧ σu = v)) (ok : C.Ok r' B outer) (hr : r ≤ r')
    (hq : Q v σ) : CallV C f avs σ Q :=
  CallV_fn hF ⟨ok.room.less hr, ok.fr, ok.kf, ok.Bk, ok.BB, ok.kind, ok.frame, ok.globs, ok.bltns⟩ (Split.none σ) (fun u σ' h => by obtain ⟨h1, h2⟩ := h; subst h1 h2; exact hq) fun _ _ _ _ _ _ h => h.elim
theorem V_defL {C : Act} {σ σp σr : Sto} {Q : AV → Sto → Prop} {r r' : Nat} {B : Heap} {outer : List Env} {f : Value} {avs : List AV} {R : AV → Sto → Prop} (hF : Fn C.prog C.w C.b r NoZ f avs σp R) (ok : C.Ok r' B outer) (hr : r ≤ r') (sp : Split σp σr σ)
    (hq : ∀ v σ', R v σ' → Q v (σ' ++ σr)) : CallV C f avs σ Q :=
  CallV_fn hF ⟨ok.room.less hr, ok.fr, ok.kf, ok.Bk, ok.BB, ok.kind, ok.frame, ok.globs, ok.bltns⟩ sp hq fun _ _ _ _ _ _ h => h.elim

/-- what a call tracked of its own is forgotten -/
theorem Fn.drop {prog : Program} {w : World} {b : Heap} {r : Nat} {Z} {f : Value} {avs : List AV} {σ : Sto} {R R' : AV → Sto → Prop} (h : Fn prog w b r Z f avs σ R) (hr : ∀ v σ', R v σ' → R' v []) : Fn prog w b r Z f avs σ R' :=
  fun A kp fz B outer os s vs room bel M i => codeG_mono (h A kp fz B outer os s vs room bel M i) fun res s' x => by
    cases res with
    | error e => exact x
    | ok fl =>
      cases fl with
      | ret v =>
        obtain ⟨fz', av, σ', e, M', i', q⟩ := x
        exact ⟨fz', av, [], e, ⟨M'.bfz, M'.fzh, M'.kph, fun p hp => (nomatch hp), .nil, M'.gens, M'.os⟩, i', hr _ _ q⟩
      | _ => exact x

theorem P_some {C : Act} {e : Expr} {ρ : Loc} {σ : Sto} {Q : Option Int → Sto → Prop} (h : Ev C e ρ σ fun v σ₁ => ∃ i, v = .int i ∧ Q (some i) σ₁) : Part C (some e) ρ σ Q := h
theorem P_none {C : Act} {ρ : Loc} {σ : Sto} {Q : Option Int → Sto → Prop} (h : Q none σ) : Part C none ρ σ Q := h
theorem ex_int {i : Int} {P : Int → Prop} (h : P i) : ∃ j, AV.int i = .int j ∧ P j := ⟨i, rfl, h⟩
theorem ex_bytes {b : List UInt8} {P : List UInt8 → Prop} (hz : b.length ≤ sizeLine) (h : P b) : ∃ c, AV.bytes b = .bytes c ∧ c.length ≤ sizeLine ∧ P c := ⟨b, rfl, hz, h⟩
theorem none_and {P : Prop} (h : P) : AV.none = AV.none ∧ P := ⟨rfl, h⟩
theorem gl_unpack {w : World} {b : Heap} (hB : Base w b) : Gl b "lz4_unpack" (.ref 123) := hB.gl rfl
theorem df_unpack {w : World} {b : Heap} (hB : Base w b) : ∃ o fd, b.get? 123 = some o ∧ o.data = .func fd := ⟨_, _, hB.kx 123 _ rfl, rfl⟩

theorem E_callS {C : Act} {ρ : Loc} {σ : Sto} {Q : AV → Sto → Prop} {x : Str} {es : List Expr} {np pos : Pos} (hg : Gl C.b x (.type "set")) (h : EvL C es ρ σ fun avs σ₁ => CallV C (.type "set") avs σ₁ Q)
    (ht : backTo pos (starEach es C.env) = es.map (fun e => (false, eval e C.env)) := by kernel_rfl) (e1 : C.env.globals = mainGlobals := by kernel_rfl) (e2 : C.env.builtins = builtinsNs := by kernel_rfl)
    (hk : C.env.scope.kind = .function := by kernel_rfl) (hx : C.env.kindOf x = some .globalImplicit := by kernel_rfl) (hd : (x == ("__debug__" : Str)) = false := by decide) : Ev C (.Call (.Name x np) es [] pos) ρ σ Q := E_call_type hg h ht e1 e2 hk hx hd
end Mine

set_option Elab.async false
set_option maxRecDepth 100000
set_option maxHeartbeats 4000000
set_option linter.all false
namespace Mine
open PySem PySem.W PySem.Calls PyProof.Rows PySem.Spec
local macro_rules | `(tactic| omega) => `(tactic| lia)
-- the step of a walk
local macro_rules | `(tactic| walk_at "ev") => `(tactic| ((with_reducible refine E_callX ?_); refine ⟨_, ⟨Base.gl (by assumption) rfl, _, _, Base.kx (by assumption) _ _ rfl, rfl⟩, ?_⟩))
local macro_rules | `(tactic| walk_at "lk") => `(tactic| (with_reducible first | refine lkq_here ?_ | (refine lkq_there (by kernel_rfl) ?_; walk_at "lk")))
local macro_rules | `(tactic| walk_at "gi") => `(tactic| first | exact gl_FULL (by assumption) | exact gl_LEAST (by assumption) | exact gl_LITS (by assumption) | exact gl_BEGIN (by assumption) | exact gl_BACK (by assumption))
local macro_rules | `(tactic| walk_at "ev") => `(tactic| (with_reducible first
  | (refine E_nm ?_; walk_at "lk")
  | refine E_global_int (by walk_at "gi") ?_
  | refine E_int ?_ | refine E_bytes ?_ | refine E_none ?_ | refine E_bool ?_ | refine E_str ?_
  | refine E_BinOp ?_ | refine E_Compare1 ?_ | refine E_IfExp ?_
  | refine E_Tuple ?_ | refine E_cut_bytes ?_ | refine E_Sub ?_
  | refine E_call_builtin (gl_len (by assumption)) ?_ | refine E_call_builtin (gl_min (by assumption)) ?_ | refine E_call_builtin (gl_max (by assumption)) ?_
  | refine E_call_type (gl_bytes (by assumption)) ?_ | refine E_call_type (gl_bytearray (by assumption)) ?_ | refine E_call_type (gl_range (by assumption)) ?_
  
  | refine EL_nil ?_ | refine EL_cons ?_ | refine P_none ?_ | refine P_some ?_ | refine ex_int ?_ | refine none_and ?_
  | refine T_not ?_ | refine T_and2 ?_ | refine T_and3 ?_ | refine T_or2 ?_ | refine T_cmp ?_ | refine T_chain2 ?_
  | refine B_add ?_ | refine B_sub ?_
  | refine C_lt ?_ | refine C_le ?_ | refine C_gt ?_ | refine C_ge ?_ | refine C_eq ?_ | refine C_eqB ?_ | refine C_neB ?_ | refine C_isNone ?_ | refine C_isNotNone ?_
  | refine U_bool ?_
  | refine X_cons ?_ | refine X_assign ?_ | refine X_return ?_ | refine X_if ?_))
local macro_rules | `(tactic| walk_at "evs") => `(tactic| repeat walk_at "ev")

local macro_rules | `(tactic| walk_at "lk1") => `(tactic| (first | (with_reducible exact Lk.here) | ((with_reducible refine lk_heq ?_); first | rfl | (congr 1; omega) | (congr 2; omega)) | ((with_reducible refine lk_there (by kernel_rfl) ?_); walk_at "lk1")))
local macro_rules | `(tactic| walk_at "sub") => `(tactic| (first | (with_reducible exact Sub.nil) | ((with_reducible refine Sub.cons ?_ ?_); (focus (walk_at "lk1"; done)); walk_at "sub")))

-- V1
section
theorem u8_toNat {n : Nat} (h : n < 256) : (u8 n).toNat = n := by simp [u8]; omega
theorem toUInt8_u8 (n : Nat) : n.toUInt8 = u8 n := rfl

theorem orS {a b k : Nat} (h : a < 2 ^ k) : Builtin.bitOr (a : Int) ((b : Int) * 2 ^ k) = ((a + b * 2 ^ k : Nat) : Int) := by
  have e : (b : Int) * 2 ^ k = ((b * 2 ^ k : Nat) : Int) := by push_cast; rfl
  have e0 : a &&& (b * 2 ^ k) = 0 := by
    apply Nat.eq_of_testBit_eq
    intro i
    rw [Nat.testBit_and, Nat.testBit_mul_two_pow, Nat.zero_testBit]
    by_cases hi : k ≤ i
    · rw [Nat.testBit_lt_two_pow (Nat.lt_of_lt_of_le h (Nat.pow_le_pow_right (by omega) hi))]; rfl
    · simp [hi]
  rw [e, bitOr_and, bitAnd_pp (by omega) (by omega)]
  simp only [Int.toNat_natCast]
  rw [e0]; push_cast; omega
theorem I_bytesN {C : Act} {σ : Sto} {Q : AV → Sto → Prop} {b : List UInt8} {i : Int} (j : Nat) (hz : b.length ≤ sizeLine) (hi : i = (j : Int)) (hj : j < b.length) (h : Q (.int (oc b j)) σ) : Item C (.bytes b) (.int i) σ Q := by
  subst hi
  refine I_bytes (x := b.getD j 0) hz (by omega) ?_ h
  simp [List.getD, List.getElem?_eq_getElem hj]

theorem more_octets_fn {w : World} {b : Heap} (hB : Base w b) (σ : Sto) (n : Nat) (hn : n ≤ 100000000) : Fn thePy w b 1 NoZ (.ref 53) [.int n] σ (fun v σ' => σ' = σ ∧ v = .bytes (moreO n)) := by
  refine fn_quiet (xs := ["number"]) (hB.kx 53 _ rfl) rfl hB.nolimit (codeRec_of hB.kx rfl) (len1 fun v => rfl) rfl (by decide) (by decide) (by decide) ?_
  intro A kp B outer os L C hC ok
  subst hC
  simp only [List.zip_cons_cons, List.zip_nil_right]
  walk_at "evs"
  refine ⟨fun h => ?_, fun h => ?_⟩
  · have h := of_decide_eq_true h
    walk_at "evs"
    refine ⟨rfl, ?_⟩
    have : n < 15 := by omega
    simp [moreO, this]
  · have h := of_decide_eq_false h
    have hlt : ¬ n < 15 := by omega
    refine X_nil ?_
    walk_at "evs"
    refine B_div (by decide) (PyProof.noPylong_small (by omega)) ?_
    have e1 : ((n : Int) - 15).fdiv 255 = (((n - 15) / 255 : Nat) : Int) := by
      rw [Int.fdiv_eq_ediv_of_nonneg _ (by decide)]; omega
    rw [e1]
    refine B_mulB (by simp) (by omega) (by omega) (by simp) ?_
    walk_at "evs"
    refine E_List ?_
    walk_at "evs"
    refine B_mod (by decide) ?_
    have e2 : ((n : Int) - 15).fmod 255 = (((n - 15) % 255 : Nat) : Int) := by
      rw [Int.fmod_eq_emod_of_nonneg _ (by decide)]; omega
    rw [e2]
    walk_at "evs"
    refine ⟨Nat.le_of_ble_eq_true rfl, ?_⟩
    walk_at "evs"
    refine V_bytes_ints (l := [(((n - 15) % 255 : Nat) : Int)]) ok.hh (by simp; omega) (Nat.le_of_ble_eq_true rfl) ?_
    refine B_addB (by simp; omega) ⟨rfl, ?_⟩
    have e3 : (List.replicate (↑((n - 15) / 255) : Int).toNat [(255 : UInt8)]).flatten = List.replicate ((n - 15) / 255) 255 := by rw [Int.toNat_natCast]; simp
    rw [e3]
    simp only [List.map_cons, List.map_nil, Int.toNat_natCast, moreO, hlt, if_false]
    rfl

theorem word_at_fn {w : World} {b : Heap} (hB : Base w b) (σ : Sto) (o : List UInt8) (i : Nat) (ho : o.length ≤ 100000) (hi : i + 4 ≤ o.length) : Fn thePy w b 1 NoZ (.ref 60) [.bytes o, .int i] σ (fun v σ' => σ' = σ ∧ v = .int (wordAt o i)) := by
  refine fn_quiet (xs := ["octets", "at"]) (hB.kx 60 _ rfl) rfl hB.nolimit (codeRec_of hB.kx rfl) (len2 fun v u => rfl) rfl (by decide) (by decide) (by decide) ?_
  intro A kp B outer os L C hC ok
  subst hC
  simp only [List.zip_cons_cons, List.zip_nil_right]
  have hz : o.length ≤ sizeLine := by rw [sizeLine_eq]; omega
  walk_at "evs"
  refine I_bytesN i hz rfl (by omega) ?_
  walk_at "evs"
  refine I_bytesN (i + 1) hz (by omega) (by omega) ?_
  walk_at "evs"
  refine B_shl (by decide) (by decide) (by have := oc_lt o (i + 1); omega) (B_or ?_)
  walk_at "evs"
  refine I_bytesN (i + 2) hz (by omega) (by omega) ?_
  walk_at "evs"
  refine B_shl (by decide) (by decide) (by have := oc_lt o (i + 2); omega) (B_or ?_)
  walk_at "evs"
  refine I_bytesN (i + 3) hz (by omega) (by omega) ?_
  walk_at "evs"
  refine B_shl (by decide) (by decide) (by have := oc_lt o (i + 3); omega) (B_or ⟨rfl, ?_⟩)
  have h0 := oc_lt o i
  have h1 := oc_lt o (i + 1)
  have h2 := oc_lt o (i + 2)
  have h3 := oc_lt o (i + 3)
  have e1 := orS (a := oc o i) (b := oc o (i + 1)) (k := 8) (by omega)
  have e2 := orS (a := oc o i + oc o (i + 1) * 2 ^ 8) (b := oc o (i + 2)) (k := 16) (by omega)
  have e3 := orS (a := oc o i + oc o (i + 1) * 2 ^ 8 + oc o (i + 2) * 2 ^ 16) (b := oc o (i + 3)) (k := 24) (by omega)
  show AV.int (Builtin.bitOr (Builtin.bitOr (Builtin.bitOr _ (_ * 2 ^ 8)) (_ * 2 ^ 16)) (_ * 2 ^ 24)) = _
  rw [e1, e2, e3]
  unfold wordAt
  congr 1
  omega

/-- a while loop that stores one name: how it is walked -/
theorem like_octets_fn {w : World} {b : Heap} (hB : Base w b) (σ : Sto) (o : List UInt8) (i j e : Nat) (ho : o.length ≤ 100000) (he : e ≤ o.length) (hj : j ≤ i) : Fn thePy w b 1 NoZ (.ref 67) [.bytes o, .int i, .int j, .int e] σ (fun v σ' => σ' = σ ∧ v = .int (likeO o i j (e - i))) := by
  refine fn_quiet (xs := ["octets", "at", "other", "end"]) (hB.kx 67 _ rfl) rfl hB.nolimit (codeRec_of hB.kx rfl) (len4 fun v u x y => rfl) rfl (by decide) (by decide) (by decide) ?_
  intro A kp B outer os L C hC ok
  subst hC
  simp only [List.zip_cons_cons, List.zip_nil_right]
  have hz : o.length ≤ sizeLine := by rw [sizeLine_eq]; omega
  walk_at "evs"
  refine X_while (fun _ _ h => h.elim) (fun n ρ' σ' => ∃ k : Nat, n = e - i - k ∧ σ' = σ ∧ ρ' = ([("many", .int k), ("octets", .bytes o), ("at", .int i), ("other", .int j), ("end", .int e)] : Loc) ∧ likeO o i j (e - i) = k + likeO o (i + k) (j + k) (e - i - k)) ?_ (e - i) (ρ₀ := [("many", .int (0 : Nat)), ("octets", .bytes o), ("at", .int i), ("other", .int j), ("end", .int e)]) ?_ ⟨0, rfl, rfl, rfl, by simp⟩
  · rintro n ρ' σ' ⟨k, rfl, rfl, rfl, hk⟩
    walk_at "evs"
    refine ⟨fun h => ?_, fun h => ?_⟩
    · have h := of_decide_eq_true h
      walk_at "evs"
      refine I_bytesN (i + k) hz (by omega) (by omega) ?_
      walk_at "evs"
      refine I_bytesN (j + k) hz (by omega) (by omega) ?_
      walk_at "evs"
      have hs : e - i - k = (e - i - (k + 1)) + 1 := by omega
      refine ⟨fun h' => ?_, fun h' => ?_⟩
      · have h' := of_decide_eq_true h'
        walk_at "evs"
        refine X_nil ⟨e - i - (k + 1), by omega, _, ?_, k + 1, rfl, rfl, rfl, ?_⟩
        · walk_at "sub"
        · rw [hk, hs, likeO, if_pos (by omega)]
          rw [show i + k + 1 = i + (k + 1) by omega, show j + k + 1 = j + (k + 1) by omega]
          omega
      · have h' := of_decide_eq_false h'
        walk_at "evs"
        refine ⟨rfl, ?_⟩
        rw [hk, hs, likeO, if_neg (by omega)]; rfl
    · have h := of_decide_eq_false h
      refine ⟨fun e => (nomatch e), fun _ => ?_⟩
      walk_at "evs"
      refine ⟨rfl, ?_⟩
      rw [hk, show e - i - k = 0 by omega]; rfl
  · walk_at "sub"

theorem like_ahead_fn {w : World} {b : Heap} (hB : Base w b) (σ : Sto) (o : List UInt8) (i j e : Nat) (ho : o.length ≤ 100000) (hi : i ≤ o.length) (hj : j ≤ i) (he : e ≤ i) : Fn thePy w b 1 NoZ (.ref 74) [.bytes o, .int i, .int j, .int e] σ (fun v σ' => σ' = σ ∧ v = .int (likeA o i j (min (i - e) j))) := by
  refine fn_quiet (xs := ["octets", "at", "other", "least"]) (hB.kx 74 _ rfl) rfl hB.nolimit (codeRec_of hB.kx rfl) (len4 fun v u x y => rfl) rfl (by decide) (by decide) (by decide) ?_
  intro A kp B outer os L C hC ok
  subst hC
  simp only [List.zip_cons_cons, List.zip_nil_right]
  have hz : o.length ≤ sizeLine := by rw [sizeLine_eq]; omega
  walk_at "evs"
  refine X_while (fun _ _ h => h.elim) (fun n ρ' σ' => ∃ k : Nat, n = min (i - e) j - k ∧ k ≤ min (i - e) j ∧ σ' = σ ∧ ρ' = ([("many", .int k), ("octets", .bytes o), ("at", .int i), ("other", .int j), ("least", .int e)] : Loc) ∧ likeA o i j (min (i - e) j) = k + likeA o (i - k) (j - k) (min (i - e) j - k)) ?_ (min (i - e) j) (ρ₀ := [("many", .int (0 : Nat)), ("octets", .bytes o), ("at", .int i), ("other", .int j), ("least", .int e)]) ?_ ⟨0, rfl, Nat.zero_le _, rfl, rfl, by simp⟩
  · rintro n ρ' σ' ⟨k, rfl, hle, rfl, rfl, hk⟩
    walk_at "evs"
    refine ⟨fun h => ?_, fun h => ?_⟩
    · have h := of_decide_eq_true h
      walk_at "evs"
      refine ⟨fun h2 => ?_, fun h2 => ?_⟩
      · have h2 := of_decide_eq_true h2
        walk_at "evs"
        refine I_bytesN (i - k - 1) hz (by omega) (by omega) ?_
        walk_at "evs"
        refine I_bytesN (j - k - 1) hz (by omega) (by omega) ?_
        walk_at "evs"
        have hs : min (i - e) j - k = (min (i - e) j - (k + 1)) + 1 := by omega
        refine ⟨fun h' => ?_, fun h' => ?_⟩
        · have h' := of_decide_eq_true h'
          walk_at "evs"
          refine X_nil ⟨min (i - e) j - (k + 1), by omega, _, ?_, k + 1, rfl, by omega, rfl, rfl, ?_⟩
          · walk_at "sub"
          · rw [hk, hs, likeA, if_pos (by omega)]
            rw [show i - k - 1 = i - (k + 1) by omega, show j - k - 1 = j - (k + 1) by omega]
            omega
        · have h' := of_decide_eq_false h'
          walk_at "evs"
          refine ⟨rfl, ?_⟩
          rw [hk, hs, likeA, if_neg (by omega)]; rfl
      · have h2 := of_decide_eq_false h2
        refine ⟨fun e => (nomatch e), fun _ => ?_⟩
        walk_at "evs"
        refine ⟨rfl, ?_⟩
        rw [hk, show min (i - e) j - k = 0 by omega]; rfl
    · have h := of_decide_eq_false h
      refine ⟨fun e => (nomatch e), fun _ => ?_⟩
      walk_at "evs"
      refine ⟨rfl, ?_⟩
      rw [hk, show min (i - e) j - k = 0 by omega]; rfl
  · walk_at "sub"

theorem minc (a b : Nat) : min (a : Int) (b : Int) = ((min a b : Nat) : Int) := by omega
theorem tokS {a b : Nat} (ha : a ≤ 15) (hb : b ≤ 15) : Builtin.bitOr ((a : Int) * 2 ^ (4 : Int).toNat) (b : Int) = ((a * 16 + b : Nat) : Int) := by
  have e := orS (a := b) (b := a) (k := 4) (by omega)
  have e2 : Builtin.bitOr ((a : Int) * 2 ^ (4 : Int).toNat) (b : Int) = Builtin.bitOr (b : Int) ((a : Int) * 2 ^ 4) := by
    rw [show (2 : Int) ^ (4 : Int).toNat = 2 ^ 4 from rfl, bitOr_and, bitOr_and, bitAnd_comm]
    omega
  rw [e2, e]; omega
/-- bytes of one octet -/
theorem V_byte {C : Act} {σ : Sto} {Q : AV → Sto → Prop} {i : Int} (n : Nat) (hh : C.A.handled = none) (hi : i = (n : Int)) (hn : n < 256) (h : Q (.bytes [u8 n]) σ) : CallV C (.type "bytes") [.lst [.int i]] σ Q := by
  subst hi
  exact V_bytes_ints (l := [(n : Int)]) hh (by simp; omega) (Nat.le_of_ble_eq_true rfl) h
theorem V_byte2 {C : Act} {σ : Sto} {Q : AV → Sto → Prop} {i j : Int} (n m : Nat) (hh : C.A.handled = none) (hi : i = (n : Int)) (hn : n < 256) (hj : j = (m : Int)) (hm : m < 256) (h : Q (.bytes [u8 n, u8 m]) σ) : CallV C (.type "bytes") [.lst [.int i, .int j]] σ Q := by
  subst hi hj
  exact V_bytes_ints (l := [(n : Int), (m : Int)]) hh (by simp; omega) (Nat.le_of_ble_eq_true rfl) h
theorem sequence_fn {w : World} {b : Heap} (hB : Base w b) (σ : Sto) (l : List UInt8) (back many : Nat) (hl : l.length ≤ 100000) (hb : back < 65536) (hm : 4 ≤ many) (hm2 : many ≤ 100000) : Fn thePy w b 2 NoZ (.ref 81) [.bytes l, .int back, .int many] σ (fun v σ' => σ' = σ ∧ v = .bytes (seqB l back many)) := by
  refine fn_quiet (xs := ["literals", "back", "many"]) (hB.kx 81 _ rfl) rfl hB.nolimit (codeRec_of hB.kx rfl) (len3 fun v u x => rfl) rfl (by decide) (by decide) (by decide) ?_
  intro A kp B outer os L C hC ok
  subst hC
  simp only [List.zip_cons_cons, List.zip_nil_right]
  have hz : l.length ≤ sizeLine := by rw [sizeLine_eq]; omega
  have hml := moreO_len l.length
  have hmm := moreO_len (many - 4)
  walk_at "evs"
  refine V_len_bytes hz ?_
  walk_at "evs"
  refine V_min ok.hh ?_
  walk_at "evs"
  rw [show min (l.length : Int) 15 = ((min l.length 15 : Nat) : Int) by omega]
  refine B_shl (by decide) (by decide) (by omega) ?_
  walk_at "evs"
  refine V_min ok.hh (B_or ?_)
  rw [show min ((many : Int) - 4) 15 = ((min (many - 4) 15 : Nat) : Int) by omega, tokS (by omega) (by omega)]
  walk_at "evs"
  refine E_List ?_
  walk_at "evs"
  refine ⟨Nat.le_of_ble_eq_true rfl, ?_⟩
  walk_at "evs"
  refine V_byte _ ok.hh rfl (by omega) ?_
  walk_at "evs"
  refine V_len_bytes hz ?_
  walk_at "evs"
  refine V_def (more_octets_fn hB [] l.length (by omega)) ok (by decide) (B_addB (by simp; omega) ?_)
  walk_at "evs"
  refine V_bytes_bytes (B_addB (by simp; omega) ?_)
  walk_at "evs"
  refine E_List ?_
  walk_at "evs"
  refine B_and ?_
  rw [bitAnd_m8]
  walk_at "evs"
  refine B_shr (by decide) ?_
  walk_at "evs"
  refine ⟨Nat.le_of_ble_eq_true rfl, ?_⟩
  walk_at "evs"
  refine V_byte2 (back % 256) (back / 256) ok.hh (by omega) (by omega) ?_ (by omega) (B_addB (by simp; omega) ?_)
  · rw [Int.fdiv_eq_ediv_of_nonneg _ (by decide)]; rfl
  walk_at "evs"
  rw [show (many : Int) - 4 = ((many - 4 : Nat) : Int) by omega]
  refine V_def (more_octets_fn hB [] (many - 4) (by omega)) ok (by decide) (B_addB (by simp; omega) ⟨rfl, ?_⟩)
  simp [seqB]

theorem last_fn {w : World} {b : Heap} (hB : Base w b) (σ : Sto) (l : List UInt8) (hl : l.length ≤ 100000) : Fn thePy w b 2 NoZ (.ref 88) [.bytes l] σ (fun v σ' => σ' = σ ∧ v = .bytes (lastB l)) := by
  refine fn_quiet (xs := ["literals"]) (hB.kx 88 _ rfl) rfl hB.nolimit (codeRec_of hB.kx rfl) (len1 fun v => rfl) rfl (by decide) (by decide) (by decide) ?_
  intro A kp B outer os L C hC ok
  subst hC
  simp only [List.zip_cons_cons, List.zip_nil_right]
  have hz : l.length ≤ sizeLine := by rw [sizeLine_eq]; omega
  have hml := moreO_len l.length
  walk_at "evs"
  refine E_List ?_
  walk_at "evs"
  refine V_len_bytes hz ?_
  walk_at "evs"
  refine V_min ok.hh ?_
  walk_at "evs"
  rw [show min (l.length : Int) 15 = ((min l.length 15 : Nat) : Int) by omega]
  refine B_shl (by decide) (by decide) (by omega) ?_
  walk_at "evs"
  refine ⟨Nat.le_of_ble_eq_true rfl, ?_⟩
  walk_at "evs"
  refine V_byte (min l.length 15 * 16) ok.hh (by show _ * 2 ^ 4 = _; omega) (by omega) ?_
  walk_at "evs"
  refine V_len_bytes hz ?_
  walk_at "evs"
  refine V_def (more_octets_fn hB [] l.length (by omega)) ok (by decide) (B_addB (by simp; omega) ?_)
  walk_at "evs"
  refine V_bytes_bytes (B_addB (by simp; omega) ⟨rfl, ?_⟩)
  simp [lastB]
end

-- V2
section
theorem copy_at_fn {w : World} {b : Heap} (hB : Base w b) (o : List UInt8) (i begin : Nat) (a : Addr) (d : List (Int × Int)) (ho : o.length ≤ 60000) (hi : i + 12 ≤ o.length) (hb : begin ≤ i) (hs : (a == sysModules) = false) (hd : dictOk o d i) (hdz : d.length ≤ 1000000) :
    Fn thePy w b 2 NoZ (.ref 95) [.bytes o, .int i, .int begin, .ref a] [(a, .dict d)] (fun v σ' => σ' = [(a, .dict (setI d (wordAt o i) i))] ∧ v = (match getI d (wordAt o i) with
      | none => AV.none
      | some j => .tup [.int ((i - likeA o i j.toNat (min (i - begin) j.toNat) : Nat) : Int), .int ((i - j.toNat : Nat) : Int), .int ((likeO o i j.toNat (o.length - 5 - i) + likeA o i j.toNat (min (i - begin) j.toNat) : Nat) : Int)])) := by
  refine fn_quiet (xs := ["octets", "at", "begin", "known"]) (hB.kx 95 _ rfl) rfl hB.nolimit (codeRec_of hB.kx rfl) (len4 fun v u x y => rfl) rfl (by decide) (by decide) (by decide) ?_
  intro A kp B outer os L C hC ok
  subst hC
  simp only [List.zip_cons_cons, List.zip_nil_right]
  have hz : o.length ≤ sizeLine := by rw [sizeLine_eq]; omega
  walk_at "evs"
  refine V_def (word_at_fn hB [] o i (by omega) (by omega)) ok (by decide) ?_
  walk_at "evs"
  refine E_method "dict.get" ?_
  walk_at "evs"
  refine ⟨K_dict (.head _), ?_⟩
  walk_at "evs"
  refine V_get_dict (.head _) hs ?_
  walk_at "evs"
  refine X_store ?_
  walk_at "evs"
  refine S_dict (k := (wordAt o i : Int)) (v := (i : Int)) .here (by rw [sizeLine_eq]; omega) ?_
  walk_at "evs"
  cases hg : getI d (wordAt o i : Int) with
  | none =>
    refine ⟨fun _ => ⟨fun _ => ?_, fun e => (nomatch e)⟩, fun e => (nomatch e)⟩
    walk_at "evs"
    exact ⟨rfl, rfl⟩
  | some j =>
    obtain ⟨hj0, hj1, hjw⟩ := hd _ _ hg
    refine ⟨fun e => (nomatch e), fun _ => ?_⟩
    simp only [optInt]
    walk_at "evs"
    refine ⟨fun e => absurd (of_decide_eq_true e) (by omega), fun _ => X_nil ?_⟩
    obtain ⟨jn, rfl⟩ := Int.eq_ofNat_of_zero_le hj0
    simp only [Int.toNat_natCast]
    walk_at "evs"
    refine V_def (like_ahead_fn hB [] o i jn begin (by omega) (by omega) (by omega) (by omega)) ok (by decide) ?_
    walk_at "evs"
    refine V_len_bytes hz ?_
    walk_at "evs"
    rw [show (o.length : Int) - 5 = ((o.length - 5 : Nat) : Int) by omega]
    refine V_def (like_octets_fn hB [] o i jn (o.length - 5) (by omega) (by omega) (by omega)) ok (by decide) ?_
    walk_at "evs"
    refine ⟨Nat.le_of_ble_eq_true rfl, rfl, ?_⟩
    have h1 := likeA_le o i jn (min (i - begin) jn)
    rw [show (i : Int) - (likeA o i jn (min (i - begin) jn) : Nat) = ((i - likeA o i jn (min (i - begin) jn) : Nat) : Int) by omega, show (i : Int) - (jn : Int) = ((i - jn : Nat) : Int) by omega]
    rfl

theorem cut_from {α : Type} (l : List α) (i : Nat) : cut l (some (i : Int)) none = l.drop i := by
  unfold cut clip
  simp only [Option.elim, clipAt_nat]
  rw [List.take_of_length_le (by simp)]
  by_cases h : i ≤ l.length
  · rw [Nat.min_eq_left h]
  · rw [Nat.min_eq_right (by omega), List.drop_eq_nil_of_le (Nat.le_refl _), List.drop_eq_nil_of_le (by omega)]
theorem cut_sl (l : List UInt8) (i j : Nat) (hj : j ≤ l.length) (hij : i ≤ j) : cut l (some (i : Int)) (some (j : Int)) = sl l i j := by
  unfold cut clip sl
  simp only [Option.elim, clipAt_nat]
  rw [Nat.min_eq_left hj, Nat.min_eq_left (by omega)]

theorem T_and2K {C : Act} {ρ : Loc} {σ : Sto} {T : Bool → Sto → Prop} {x y : Expr} {pos : Pos} (K : Sto → Prop) (h : Tst C x ρ σ fun b σ₁ => (b = true → Tst C y ρ σ₁ fun c σ₂ => (c = true → T true σ₂) ∧ (c = false → K σ₂)) ∧ (b = false → K σ₁)) (hK : ∀ σ', K σ' → T false σ') : Tst C (.BoolOp .And [x, y] pos) ρ σ T :=
  T_and2 (h.mono fun b σ' q => ⟨fun e => (q.1 e).mono fun c σ'' q' => by
    cases c
    · exact hK _ (q'.2 rfl)
    · exact q'.1 rfl, fun e => hK _ (q.2 e)⟩)
theorem lz4_pack_fn {w : World} {b : Heap} (hB : Base w b) (o : List UInt8) (most : Int) (ho : o.length ≤ 60000) : Fn thePy w b 3 NoZ (.ref 102) [.bytes o, .int most] [] (fun v σ' => σ' = [] ∧ v = if ((packW o).length : Int) ≤ most then .bytes (packW o) else .none) := by
  refine Fn.drop (R := fun v σ' => v = if ((packW o).length : Int) ≤ most then .bytes (packW o) else .none) ?_ fun v σ' h => ⟨rfl, h⟩
  refine fn_quiet (xs := ["octets", "most"]) (hB.kx 102 _ rfl) rfl hB.nolimit (codeRec_of hB.kx rfl) (len2 fun v u => rfl) rfl (by decide) (by decide) (by decide) ?_
  intro A kp B outer os L C hC ok
  subst hC
  simp only [List.zip_cons_cons, List.zip_nil_right]
  have hz : o.length ≤ sizeLine := by rw [sizeLine_eq]; omega
  refine X_cons (X_assignTup ["found", "known", "begin", "at"] ok.hh ?_)
  walk_at "evs"
  refine V_bytearray ok.room.gs fun fa hfa => ?_
  walk_at "evs"
  refine E_DictT fun ka hka hbig => ?_
  have hsys : (ka == sysModules) = false := by
    have : (53 : Nat) < ka := hbig 53 _ (hB.kx 53 _ rfl)
    exact beq_eq_false_iff_ne.mpr fun e => by rw [e] at this; exact absurd this (by decide)
  walk_at "evs"
  refine ⟨Nat.le_of_ble_eq_true rfl, _, rfl, rfl, ?_⟩
  simp only [List.zip_cons_cons, List.zip_nil_right, List.reverse_cons, List.reverse_nil, List.nil_append, List.cons_append]
  refine X_cons (X_while (fun _ _ h => h.elim) (fun n ρ' σ' => ∃ (d : List (Int × Int)) (begin i : Nat) (f : List UInt8), ρ' = ([("at", .int i), ("begin", .int begin), ("known", .ref ka), ("found", .ref fa), ("octets", .bytes o), ("most", .int most)] : Loc) ∧ σ' = [(ka, .dict d), (fa, .ba f)] ∧
      packGo o n d begin i f = packW o ∧ o.length - i < n ∧ begin ≤ i ∧ i ≤ o.length ∧ dictOk o d i ∧ d.length ≤ 2 * i ∧ f.length ≤ 3 * begin) ?_ (o.length + 1) (ρ₀ := [("at", .int (0 : Nat)), ("begin", .int (0 : Nat)), ("known", .ref ka), ("found", .ref fa), ("octets", .bytes o), ("most", .int most)]) ?_
      ⟨[], 0, 0, [], rfl, rfl, rfl, by omega, by omega, by omega, fun w j e => by simp [getI] at e, by simp, by simp⟩)
  · rintro n ρ' σ' ⟨d, begin, i, f, rfl, rfl, hgo, hn, hbi, hio, hdk, hdl, hfl⟩
    have hfz : f.length ≤ sizeLine := by rw [sizeLine_eq]; omega
    refine T_and2K (fun σ' => σ' = ([(ka, AO.dict d), (fa, AO.ba f)] : Sto) ∧ (if ((f ++ lastB (o.drop begin)).length : Int) ≤ most then AV.bytes (f ++ lastB (o.drop begin)) else .none) = (if ((packW o).length : Int) ≤ most then .bytes (packW o) else .none)) ?_ ?_
    · walk_at "evs"
      refine V_len_bytes hz ?_
      walk_at "evs"
      refine ⟨fun h => ?_, fun h => ⟨rfl, ?_⟩⟩
      have h := of_decide_eq_true h
      walk_at "evs"
      refine V_len_ba (.tail _ (.head _)) hfz ?_
      walk_at "evs"
      refine ⟨fun h2 => ⟨fun _ => ?_, fun e => (nomatch e)⟩, fun h2 => ⟨rfl, ?_⟩⟩
      · obtain ⟨n, rfl⟩ : ∃ m, n = m + 1 := ⟨n - 1, by omega⟩
        walk_at "evs"
        refine V_defL (copy_at_fn hB o i begin ka d ho (by omega) hbi hsys hdk (by omega)) ok (by decide) (.left (.right .nil)) fun v σ' h3 => ?_
        obtain ⟨rfl, rfl⟩ := h3
        have hd' := hdk.set (Nat.le_succ i) i (Nat.lt_succ_self i)
        have hdl' := setI_len d (wordAt o i) i
        rw [packGo, if_pos (by omega)] at hgo
        simp only [List.cons_append, List.nil_append]
        cases hg : getI d (wordAt o i : Int) with
        | none =>
          rw [hg] at hgo
          simp only at hgo ⊢
          walk_at "evs"
          refine ⟨fun _ => ?_, fun e => (nomatch e)⟩
          walk_at "evs"
          refine X_nil (X_nil ⟨n, by omega, _, ?_, _, begin, i + 1, f, rfl, rfl, hgo, by omega, by omega, by omega, hd', by omega, hfl⟩)
          walk_at "sub"
        | some j =>
          rw [hg] at hgo
          obtain ⟨hj0, hj1, hjw⟩ := hdk _ _ hg
          obtain ⟨jn, rfl⟩ := Int.eq_ofNat_of_zero_le hj0
          simp only [Int.toNat_natCast] at hgo hjw ⊢
          have hm4 := likeO_four (b := o) (i := i) (j := jn) (k := o.length - 5 - i) (by omega) (by omega)
          have hmle := likeO_le o i jn (o.length - 5 - i)
          have hale := likeA_le o i jn (min (i - begin) jn)
          have hale1 := Nat.le_trans hale (Nat.min_le_left _ _)
          have hale2 := Nat.le_trans hale (Nat.min_le_right _ _)
          clear hale
          generalize likeO o i jn (o.length - 5 - i) = m at *
          generalize likeA o i jn (min (i - begin) jn) = ah at *
          have hmle : i + m + 5 ≤ o.length := by clear hale1 hale2 hgo hg hjw hj0 hj1; omega
          have hale1 : begin + ah ≤ i := by clear hgo hg hjw hj0 hj1; omega
          walk_at "evs"
          refine ⟨fun e => (nomatch e), fun _ => ?_⟩
          have hsl := sl_len o begin (i - ah) (by omega)
          have hsq := seqB_len (sl o begin (i - ah)) (i - jn) (m + ah) (by omega)
          rw [hsl] at hsq
          walk_at "evs"
          refine X_expr ?_
          refine E_method "bytearray.extend" ?_
          walk_at "evs"
          refine ⟨(K_ba (.tail _ (.head _))).2, ?_⟩
          walk_at "evs"
          refine ex_bytes hz ?_
          walk_at "evs"
          refine I_tup (Nat.le_of_ble_eq_true rfl) (by decide) rfl ?_
          walk_at "evs"
          rw [cut_sl o begin (i - ah) (by omega) (by omega)]
          walk_at "evs"
          refine I_tup (Nat.le_of_ble_eq_true rfl) (by decide) rfl ?_
          walk_at "evs"
          refine I_tup (Nat.le_of_ble_eq_true rfl) (by decide) rfl ?_
          walk_at "evs"
          refine V_def (sequence_fn hB [] _ (i - jn) (m + ah) (by omega) (by omega) (by omega) (by omega)) ok (by decide) ?_
          walk_at "evs"
          refine V_extend_ba ok.room.gs (.there .here) (by rw [sizeLine_eq]; omega) ?_
          walk_at "evs"
          refine I_tup (Nat.le_of_ble_eq_true rfl) (by decide) rfl ?_
          walk_at "evs"
          refine I_tup (Nat.le_of_ble_eq_true rfl) (by decide) rfl ?_
          walk_at "evs"
          rw [show ((i - ah : Nat) : Int) + ((m + ah : Nat) : Int) = ((i + m : Nat) : Int) by omega]
          refine X_store ?_
          walk_at "evs"
          rw [show ((i + m : Nat) : Int) - 2 = ((i + m - 2 : Nat) : Int) by omega]
          refine V_def (word_at_fn hB [] o (i + m - 2) (by omega) (by omega)) ok (by decide) ?_
          refine S_dict (k := (wordAt o (i + m - 2) : Int)) (v := ((i + m - 2 : Nat) : Int)) .here (by rw [sizeLine_eq]; omega) ?_
          have hdl'' := setI_len (setI d (wordAt o i) i) (wordAt o (i + m - 2)) (i + m - 2 : Nat)
          refine X_nil (X_nil ⟨n, by omega, _, ?_, _, i + m, i + m, _, rfl, rfl, hgo, by omega, by omega, by omega, hd'.set (by omega) (i + m - 2) (by omega), by omega, by simp only [List.length_append]; omega⟩)
          walk_at "sub"
      · have h2 := of_decide_eq_false h2
        have hle := packGo_le o n d begin i f
        rw [hgo] at hle
        rw [if_neg (by simp only [List.length_append]; omega), if_neg (by omega)]
      · have h := of_decide_eq_false h
        have hgo' : f ++ lastB (o.drop begin) = packW o := by
          rw [← hgo]
          cases n with
          | zero => omega
          | succ n => rw [packGo, if_neg (by omega)]
        rw [hgo']
    · rintro σ' ⟨rfl, key⟩
      refine ⟨fun e => (nomatch e), fun _ => ?_⟩
      rw [← key]
      refine X_cons (X_expr ?_)
      refine E_method "bytearray.extend" ?_
      walk_at "evs"
      refine ⟨(K_ba (.tail _ (.head _))).2, ?_⟩
      walk_at "evs"
      refine ex_bytes hz ?_
      walk_at "evs"
      rw [cut_from]
      walk_at "evs"
      refine V_def (last_fn hB [] (o.drop begin) (by simp; omega)) ok (by decide) ?_
      walk_at "evs"
      have hll := lastB_len (o.drop begin)
      simp only [List.length_drop] at hll
      have hTz : (f ++ lastB (o.drop begin)).length ≤ sizeLine := by rw [sizeLine_eq]; simp only [List.length_append]; omega
      refine V_extend_ba ok.room.gs (.there .here) (by simpa using hTz) ?_
      walk_at "evs"
      refine V_len_ba (.tail _ (.head _)) hTz ?_
      walk_at "evs"
      refine ⟨fun h3 => ?_, fun h3 => ?_⟩
      · walk_at "evs"
        rw [if_pos (of_decide_eq_true h3)]
        exact V_bytes_ba (.tail _ (.head _)) hTz rfl
      · walk_at "evs"
        rw [if_neg (of_decide_eq_false h3)]
  · walk_at "sub"
end

-- V3
section
abbrev handAt (h : Addr) (k : Nat) : Sto := [(h, .hand [.int (k : Int)])]
theorem draw_fn {w : World} {b : Heap} (hB : Base w b) (ns : List Int) (h : Addr) (k : Nat) (below : Int) (hn : ns.length ≤ 1000) (hb : 0 < below) :
    Fn thePy w b 1 NoZ (.ref 130) [.lst (ofInts ns), .ref h, .int below] (handAt h k) (fun v σ' => σ' = handAt h (k + 1) ∧ ∃ r : Int, v = .int r ∧ 0 ≤ r ∧ r < below) := by
  refine fn_quiet (xs := ["script", "hand", "below"]) (hB.kx 130 _ rfl) rfl hB.nolimit (codeRec_of hB.kx rfl) (len3 fun v u x => rfl) rfl (by decide) (by decide) (by decide) ?_
  intro A kp B outer os L C hC ok
  subst hC
  simp only [List.zip_cons_cons, List.zip_nil_right]
  have hz : (ofInts ns).length ≤ sizeLine := by rw [sizeLine_eq]; simp [ofInts]; omega
  refine X_cons (X_store ?_)
  walk_at "evs"
  refine I_hand (.head _) (Nat.le_of_ble_eq_true rfl) (by decide) rfl ?_
  walk_at "evs"
  refine S_hand (x := .int ((k + 1 : Nat) : Int)) .here (by decide) (by simp) (Nat.le_of_ble_eq_true rfl) ?_
  show Exs _ _ _ (handAt h (k + 1)) _ _
  walk_at "evs"
  refine I_hand (.head _) (Nat.le_of_ble_eq_true rfl) (by decide) rfl ?_
  walk_at "evs"
  refine V_len_lst hz ?_
  walk_at "evs"
  refine ⟨fun e => ?_, fun e => X_nil ?_⟩
  · walk_at "evs"
    exact ⟨rfl, 0, rfl, by omega, hb⟩
  · have e := of_decide_eq_false e
    have hl : (ofInts ns).length = ns.length := by simp [ofInts]
    have hk : k < ns.length := by omega
    walk_at "evs"
    refine I_hand (.head _) (Nat.le_of_ble_eq_true rfl) (by decide) rfl ?_
    walk_at "evs"
    rw [show ((k + 1 : Nat) : Int) - 1 = (k : Int) by omega]
    refine I_lst (x := .int ns[k]) hz (by omega) (by simp [ofInts, hk]) ?_
    walk_at "evs"
    refine B_mod (by omega) ⟨rfl, _, rfl, ?_, ?_⟩
    · exact Int.fmod_nonneg_of_pos _ hb
    · exact Int.fmod_lt_of_pos _ hb

theorem law_more_fn {w : World} {b : Heap} (hB : Base w b) (σ : Sto) (n : Int) (hn : 0 ≤ n) (hn2 : n ≤ 100000) : Fn thePy w b 1 NoZ (.ref 177) [.int n] [] (fun v σ' => σ' = [] ∧ ∃ l : List UInt8, v = .bytes l ∧ l.length ≤ 1000) := by
  refine Fn.drop (R := fun v σ' => ∃ l : List UInt8, v = .bytes l ∧ l.length ≤ 1000) ?_ fun v σ' h => ⟨rfl, h⟩
  refine fn_quiet (xs := ["number"]) (hB.kx 177 _ rfl) rfl hB.nolimit (codeRec_of hB.kx rfl) (len1 fun v => rfl) rfl (by decide) (by decide) (by decide) ?_
  intro A kp B outer os L C hC ok
  subst hC
  simp only [List.zip_cons_cons, List.zip_nil_right]
  refine X_cons (X_assign (E_ListT ?_))
  walk_at "evs"
  refine ⟨Nat.le_of_ble_eq_true rfl, fun a ha => ?_⟩
  refine X_cons (X_while (fun _ _ h => h.elim) (fun k ρ' σ' => ∃ (j : Nat) (m : Int), ρ' = ([("number", .int m), ("found", .ref a)] : Loc) ∧ σ' = [(a, .list (ofInts (List.replicate j 255)))] ∧ 0 ≤ m ∧ m.toNat = k ∧ m + 255 * j = n) ?_ n.toNat (ρ₀ := [("number", .int n), ("found", .ref a)]) ?_ ⟨0, n, rfl, rfl, hn, rfl, by omega⟩)
  · rintro k ρ' σ' ⟨j, m, rfl, rfl, h0, rfl, hj⟩
    walk_at "evs"
    refine ⟨fun h => ?_, fun h => ?_⟩
    · have h := of_decide_eq_true h
      refine X_cons (X_expr (E_method "list.append" ?_))
      walk_at "evs"
      refine ⟨K_list (.head _), ?_⟩
      walk_at "evs"
      refine V_append_list .here (by simp [ofInts, sizeLine_eq]; omega) ?_
      walk_at "evs"
      refine X_nil ⟨(m - 255).toNat, by omega, _, ?_, j + 1, m - 255, rfl, ?_, by omega, rfl, by omega⟩
      · walk_at "sub"
      · rw [List.replicate_succ']; simp [ofInts]
    · have h := of_decide_eq_false h
      refine X_cons (X_return (E_call_type (gl_bytes hB) (EL_cons (E_BinOp (E_nameFreeze (by with_reducible first | exact Lk.here | exact lk_there (by kernel_rfl) Lk.here) .here ?_)))))
      refine E_List ?_
      walk_at "evs"
      refine ⟨Nat.le_of_ble_eq_true rfl, B_addL (by simp [ofInts, sizeLine_eq]; omega) ?_⟩
      walk_at "evs"
      rw [show ofInts (List.replicate j 255) ++ [AV.int m] = ofInts (List.replicate j 255 ++ [m]) by simp [ofInts]]
      refine V_bytes_ints (l := List.replicate j 255 ++ [m]) ok.hh (fun x hx => ?_) (by simp [sizeLine_eq]; omega) ⟨_, rfl, ?_⟩
      · rcases List.mem_append.mp hx with hx | hx
        · have := List.eq_of_mem_replicate hx; omega
        · simp at hx; omega
      · simp; omega
  · walk_at "sub"

/-- the law's own way through a length in more octets -/
theorem scan_step {f : List UInt8} {e : Nat} (h : e < f.length) (h2 : f.getD e 0 = 255) : scan (f.drop e) = (scan (f.drop (e + 1))).map fun p => (p.1 + 255, p.2 + 1) := by
  rw [List.drop_eq_getElem_cons h, scan, if_pos (by simpa [List.getD, List.getElem?_eq_getElem h] using h2)]
theorem scan_last {f : List UInt8} {e : Nat} (h : e < f.length) (h2 : f.getD e 0 ≠ 255) : scan (f.drop e) = some (oc f e, 1) := by
  rw [List.drop_eq_getElem_cons h, scan, if_neg (by simpa [List.getD, List.getElem?_eq_getElem h] using h2)]
  simp [oc, List.getD, List.getElem?_eq_getElem h]
theorem scan_none {f : List UInt8} {e : Nat} (h : f.length ≤ e) : scan (f.drop e) = none := by rw [List.drop_eq_nil_of_le h]; rfl
theorem oc_255 {f : List UInt8} {e : Nat} : oc f e = 255 ↔ f.getD e 0 = 255 := by
  unfold oc
  constructor
  · intro h; exact UInt8.toNat_inj.mp (by rw [h]; rfl)
  · intro h; rw [h]; rfl
noncomputable def lenV : Option (Nat × Nat) → AV
  | none => .none
  | some p => .tup [.int p.1, .int p.2]
theorem lawLen_fn {w : World} {b : Heap} (hB : Base w b) (σ : Sto) (f : List UInt8) (i half : Nat) (hf : f.length ≤ 100000) : Fn thePy w b 1 NoZ (.ref 144) [.bytes f, .int i, .int half] [] (fun v σ' => σ' = [] ∧ v = lenV (lenP f i half)) := by
  refine fn_quiet (xs := ["octets", "at", "half"]) (hB.kx 144 _ rfl) rfl hB.nolimit (codeRec_of hB.kx rfl) (len3 fun v u x => rfl) rfl (by decide) (by decide) (by decide) ?_
  intro A kp B outer os L C hC ok
  subst hC
  simp only [List.zip_cons_cons, List.zip_nil_right]
  have hz : f.length ≤ sizeLine := by rw [sizeLine_eq]; omega
  walk_at "evs"
  refine ⟨fun e => ?_, fun e => X_nil ?_⟩
  · have e := of_decide_eq_true e
    walk_at "evs"
    refine ⟨Nat.le_of_ble_eq_true rfl, rfl, ?_⟩
    rw [lenP, if_pos (by omega)]; rfl
  · have e := of_decide_eq_false e
    have hh : ¬ half < 15 := by omega
    walk_at "evs"
    refine X_while (fun _ _ h => h.elim) (fun k ρ' σ' => ∃ j : Nat, ρ' = ([("end", .int (i + j : Nat)), ("octets", .bytes f), ("at", .int i)] : Loc) ∧ σ' = [] ∧ k = f.length - (i + j) ∧ lenP f i half = (scan (f.drop (i + j))).map fun p => (15 + 255 * j + p.1, i + j + p.2)) ?_ (f.length - (i + 0)) (ρ₀ := [("end", .int (i + 0 : Nat)), ("octets", .bytes f), ("at", .int i)]) ?_ ⟨0, rfl, rfl, rfl, ?_⟩
    · rintro k ρ' σ' ⟨j, rfl, rfl, rfl, hj⟩
      walk_at "evs"
      refine V_len_bytes hz ?_
      walk_at "evs"
      refine ⟨fun h => ?_, fun h => ⟨fun e => (nomatch e), fun _ => ?_⟩⟩
      · have h := of_decide_eq_true h
        walk_at "evs"
        refine I_bytesN (i + j) hz rfl (by omega) ?_
        walk_at "evs"
        refine ⟨fun h2 => ?_, fun h2 => ?_⟩
        · have h2 := of_decide_eq_true h2
          walk_at "evs"
          refine X_nil ⟨f.length - (i + (j + 1)), by omega, _, ?_, j + 1, rfl, rfl, rfl, ?_⟩
          · walk_at "sub"
          · rw [hj, scan_step (by omega) (oc_255.mp (by omega)), Option.map_map, show i + j + 1 = i + (j + 1) by omega]
            congr 1; funext p
            simp only [Function.comp]
            congr 1 <;> omega
        · have h2 := of_decide_eq_false h2
          have hs := scan_last (f := f) (e := i + j) (by omega) (fun q => h2 (by have := oc_255.mpr q; omega))
          rw [hs] at hj
          walk_at "evs"
          refine V_len_bytes hz ?_
          walk_at "evs"
          refine ⟨fun e => absurd (of_decide_eq_true e) (by omega), fun _ => ?_⟩
          walk_at "evs"
          refine B_mul (by mul_fits) ?_
          walk_at "evs"
          refine I_bytesN (i + j) hz rfl (by omega) ?_
          walk_at "evs"
          refine ⟨Nat.le_of_ble_eq_true rfl, rfl, ?_⟩
          rw [hj]
          simp only [Option.map, lenV]
          congr 3
          · congr 1; omega
      · have h := of_decide_eq_false h
        rw [scan_none (by omega)] at hj
        walk_at "evs"
        refine V_len_bytes hz ?_
        walk_at "evs"
        refine ⟨fun _ => ?_, fun e => absurd (of_decide_eq_false e) (by omega)⟩
        walk_at "evs"
        exact ⟨rfl, by rw [hj]; rfl⟩
    · walk_at "sub"
    · rw [lenP, if_neg hh]; simp
end

-- V4
section
theorem C_cutTake {α : Type} (l : List α) (j : Nat) : cut l none (some (j : Int)) = l.take j := by
  unfold cut clip
  simp only [Option.elim, clipAt_nat, List.drop_zero, Nat.sub_zero]
  rcases Nat.le_total j l.length with h | h
  · rw [Nat.min_eq_left h]
  · rw [Nat.min_eq_right h, List.take_of_length_le (Nat.le_refl _), List.take_of_length_le h]
theorem fmodN (a b : Nat) : (a : Int).fmod (b : Int) = ((a % b : Nat) : Int) := by rw [Int.fmod_eq_emod_of_nonneg _ (by omega)]; rfl
theorem fdivN (a b : Nat) : (a : Int).fdiv (b : Int) = ((a / b : Nat) : Int) := by rw [Int.fdiv_eq_ediv_of_nonneg _ (by omega)]; rfl
theorem B_modN {C : Act} {σ : Sto} {Q : AV → Sto → Prop} {i j : Int} (a b : Nat) (hi : i = (a : Int)) (hj : j = (b : Int)) (hb : b ≠ 0) (h : Q (.int ((a % b : Nat) : Int)) σ) : Bin C .Mod (.int i) (.int j) σ Q := by
  subst hi hj; exact B_mod (by omega) (by rw [fmodN]; exact h)
theorem B_divN {C : Act} {σ : Sto} {Q : AV → Sto → Prop} {i j : Int} (a b : Nat) (hi : i = (a : Int)) (hj : j = (b : Int)) (hb : b ≠ 0) (hs : b < 1000000000) (h : Q (.int ((a / b : Nat) : Int)) σ) : Bin C .FloorDiv (.int i) (.int j) σ Q := by
  subst hi hj; exact B_div (by omega) (PyProof.noPylong_small (by omega)) (by rw [fdivN]; exact h)
theorem cut_le {α : Type} (l : List α) (lo hi : Option Int) : (cut l lo hi).length ≤ l.length := by
  unfold cut; exact Nat.le_trans (List.length_take_le' _ _) (by rw [List.length_drop]; exact Nat.sub_le _ _)
theorem sub_min {x y l : Nat} : min (x + y) l - min x l ≤ y := by
  rcases Nat.le_total x l with h | h
  · rw [Nat.min_eq_left h]; exact Nat.le_trans (Nat.sub_le_sub_right (Nat.min_le_left _ _) _) (Nat.le_of_eq (Nat.add_sub_cancel_left x y))
  · rw [Nat.min_eq_right h]; exact Nat.le_trans (Nat.sub_le_sub_right (Nat.min_le_right _ _) _) (Nat.le_trans (Nat.le_of_eq (Nat.sub_self l)) (Nat.zero_le _))
theorem cut_mid {α : Type} (l : List α) (i j : Nat) : (cut l (some (i : Int)) (some ((i : Int) + (j : Int)))).length ≤ j := by
  rw [show (i : Int) + (j : Int) = ((i + j : Nat) : Int) from rfl]
  unfold cut clip
  simp only [Option.elim, clipAt_nat]
  exact Nat.le_trans (List.length_take_le _ _) sub_min
theorem else_and {A B X : Prop} {b : Bool} (other : X) (h : b = true → X → A) : (b = true → A) ∧ (b = false → (false = true → B) ∧ (false = false → X)) := ⟨fun e => h e other, fun _ => ⟨fun e => (nomatch e), fun _ => other⟩⟩
theorem law_octets_fn {w : World} {b : Heap} (hB : Base w b) (ns : List Int) (h : Addr) (k : Nat) (hn : ns.length ≤ 1000) :
    Fn thePy w b 2 NoZ (.ref 137) [.lst (ofInts ns), .ref h] (handAt h k) (fun v σ' => ∃ k', σ' = handAt h k' ∧ ∃ l : List UInt8, v = .bytes l ∧ l.length ≤ 140) := by
  refine fn_quiet (xs := ["script", "hand"]) (hB.kx 137 _ rfl) rfl hB.nolimit (codeRec_of hB.kx rfl) (len2 fun v u => rfl) rfl (by decide) (by decide) (by decide) ?_
  intro A kp B outer os L C hC ok
  subst hC
  simp only [List.zip_cons_cons, List.zip_nil_right]
  walk_at "evs"
  refine X_for (fun _ _ h => h.elim) ?_
  walk_at "evs"
  refine V_defL (draw_fn hB ns h k 5 hn (by decide)) ok (by decide) (.left .nil) fun v σ' hr => ?_
  obtain ⟨rfl, r, rfl, hr0, hr1⟩ := hr
  walk_at "evs"
  refine V_range ?_
  refine ⟨_, fun t ρ' σ' => ∃ (k : Nat) (l : List UInt8), ρ' = ([("found", .bytes l), ("script", .lst (ofInts ns)), ("hand", .ref h)] : Loc) ∧ σ' = handAt h k ∧ l.length ≤ 28 * t, It_rng ok.hh (by omega) (by omega), ⟨_, ?_, k + 1, [], rfl, rfl, by simp⟩, ?_, ?_⟩
  · walk_at "sub"
  · rintro t ρ' σ' a ha ⟨k, l, rfl, rfl, hl⟩
    refine ⟨_, Tg_name, fun it P hne => ?_⟩
    have ht := (upto_get ha).1
    have hz : l.length ≤ sizeLine := by rw [sizeLine_eq]; omega
    walk_at "evs"
    refine B_pow (by decide) (by decide) (by decide) ?_
    walk_at "evs"
    refine V_defL (draw_fn hB ns h k (2 ^ (24 : Int).toNat) hn (by decide)) ok (by decide) (.right (.left .nil)) fun v σ' hr => ?_
    obtain ⟨rfl, d, rfl, hd0, hd1⟩ := hr
    have hd1 : d < 2 ^ 24 := hd1
    obtain ⟨d, rfl⟩ := Int.eq_ofNat_of_zero_le hd0
    refine X_cons (X_assignSwap (xs := ["way", "number", "many"]) ok.hh ?_)
    walk_at "evs"
    refine B_modN d 4 rfl rfl (by omega) ?_
    walk_at "evs"
    refine B_divN d 4 rfl rfl (by omega) (by omega) ?_
    walk_at "evs"
    refine B_modN (d / 4) 256 rfl rfl (by omega) ?_
    walk_at "evs"
    refine B_divN d 1024 rfl rfl (by omega) (by omega) ?_
    walk_at "evs"
    refine B_modN (d / 1024) 28 rfl rfl (by omega) ?_
    walk_at "evs"
    refine ⟨Nat.le_of_ble_eq_true rfl, _, rfl, rfl, ?_⟩
    simp only [List.zip_cons_cons, List.zip_nil_right, List.nil_append, List.cons_append]
    have hmany : d / 1024 % 28 < 28 := Nat.mod_lt _ (by decide)
    have hnum : d / 4 % 256 < 256 := Nat.mod_lt _ (by decide)
    generalize d / 1024 % 28 = many at *
    generalize d / 4 % 256 = number at *
    walk_at "evs"
    refine ⟨fun e => ?_, fun e => ?_⟩
    · refine X_cons (X_assign (E_BinOp ?_))
      walk_at "evs"
      refine E_List ?_
      walk_at "evs"
      refine ⟨Nat.le_of_ble_eq_true rfl, ?_⟩
      walk_at "evs"
      refine V_byte number ok.hh rfl hnum ?_
      walk_at "evs"
      refine B_mulB (by simp) (by omega) (by omega) (by simp) (B_addB (by simp; omega) ?_)
      refine X_nil (X_nil ⟨_, _, ?_, .there .here, k + 1, l ++ (List.replicate (28 - (many : Int)).toNat [u8 number]).flatten, rfl, rfl, ?_⟩)
      · walk_at "sub"
      · simp; omega
    · walk_at "evs"
      refine else_and ?_ fun e1 other => ?_
      · walk_at "evs"
        refine E_List ?_
        walk_at "evs"
        refine B_divN d 32768 rfl rfl (by omega) (by omega) ?_
        walk_at "evs"
        refine B_modN (d / 32768) 256 rfl rfl (by omega) ?_
        have h3 : d / 32768 % 256 < 256 := Nat.mod_lt _ (by decide)
        generalize d / 32768 % 256 = third at *
        walk_at "evs"
        refine ⟨Nat.le_of_ble_eq_true rfl, ?_⟩
        walk_at "evs"
        refine V_bytes_ints (l := [(number : Int), (third : Int), (many : Int)]) ok.hh (by simp; omega) (Nat.le_of_ble_eq_true rfl) ?_
        refine ex_bytes (Nat.le_of_ble_eq_true rfl) ?_
        walk_at "evs"
        refine B_modN many 3 rfl rfl (by omega) ?_
        walk_at "evs"
        have hc := cut_le (List.map (fun n => n.toNat.toUInt8) [(number : Int), (third : Int), (many : Int)]) none (some (1 + ((many % 3 : Nat) : Int)))
        simp only [List.length_map, List.length_cons, List.length_nil] at hc
        generalize cut _ _ _ = c at *
        refine B_addB (by omega) (X_nil (X_nil (X_nil ⟨_, _, ?_, .there .here, k + 1, l ++ c, rfl, rfl, ?_⟩)))
        · walk_at "sub"
        · rw [List.length_append]; omega
      walk_at "evs"
      refine ⟨fun e2 => ?_, fun _ => other⟩
      have e2 := of_decide_eq_true e2
      have hl0 : 0 < l.length := List.length_pos_iff.mpr e2
      walk_at "evs"
      refine V_len_bytes hz ?_
      refine B_modN number l.length rfl rfl (by omega) ?_
      generalize number % l.length = begin at *
      walk_at "evs"
      refine ex_bytes hz ?_
      walk_at "evs"
      have hc := cut_mid l begin many
      generalize cut _ _ _ = c at *
      refine B_addB (by omega) (X_nil (X_nil (X_nil ⟨_, _, ?_, .there .here, k + 1, l ++ c, rfl, rfl, ?_⟩)))
      · walk_at "sub"
      · rw [List.length_append]; omega
  · rintro ρ' σ' ⟨k, l, rfl, rfl, hl⟩
    rw [upto_len] at hl
    walk_at "evs"
    exact ⟨k, rfl, l, rfl, by omega⟩
end

-- P3
section
set_option linter.all false
local macro_rules | `(tactic| omega) => `(tactic| lia)
theorem lenP_ge {f : List UInt8} {i h : Nat} {p : Nat × Nat} (e : lenP f i h = some p) : i ≤ p.2 := by
  unfold lenP at e
  split at e
  · cases e; exact Nat.le_refl _
  · cases hs : scan (f.drop i) with
    | none => rw [hs] at e; cases e
    | some q => rw [hs] at e; cases e; simp
noncomputable def cyc (t : List UInt8) (n : Nat) : List UInt8 := (List.range n).map fun i => t.getD (i % t.length) 0
theorem mod_succ (i L : Nat) : (i + 1) % L = (i % L + 1) % L := by
  conv => lhs; rw [← Nat.div_add_mod i L, Nat.add_assoc, Nat.mul_add_mod]
theorem cyc_succ (t : List UInt8) (ht : t ≠ []) (n : Nat) : cyc t (n + 1) = t.getD 0 0 :: cyc (t.drop 1 ++ [t.getD 0 0]) n := by
  have hl : 0 < t.length := List.length_pos_iff.mpr ht
  unfold cyc
  rw [List.range_succ_eq_map, List.map_cons, List.map_map]
  congr 1
  apply List.map_congr_left
  intro i hi
  simp only [Function.comp, Nat.succ_eq_add_one, List.length_append, List.length_drop, List.length_cons, List.length_nil]
  rw [show t.length - 1 + (0 + 1) = t.length by omega, mod_succ]
  have hm : i % t.length < t.length := Nat.mod_lt _ hl
  by_cases hc : i % t.length + 1 = t.length
  · rw [hc, Nat.mod_self]
    simp only [List.getD_eq_getElem?_getD]
    rw [List.getElem?_append_right (by simp; omega)]
    simp only [List.length_drop]
    rw [show i % t.length - (t.length - 1) = 0 by omega]
    simp
  · rw [Nat.mod_eq_of_lt (by omega)]
    simp only [List.getD_eq_getElem?_getD]
    rw [List.getElem?_append_left (by simp; omega), List.getElem?_drop, Nat.add_comm]
theorem copyP_cyc (back : Nat) (hb : 0 < back) : ∀ (n : Nat) (l : List UInt8), back ≤ l.length → copyP back n l = l ++ cyc (l.drop (l.length - back)) n
  | 0, l, _ => by simp [copyP, cyc]
  | n + 1, l, h => by
    have ht : l.drop (l.length - back) ≠ [] := by
      intro e; have := congrArg List.length e; simp at this; omega
    have e0 : (l.drop (l.length - back)).getD 0 0 = l.getD (l.length - back) 0 := by
      simp [List.getD_eq_getElem?_getD]
    rw [copyP, copyP_cyc back hb n _ (by simp; omega), cyc_succ _ ht, e0, List.append_assoc]
    congr 1
    have e1 : List.drop ((l ++ [l.getD (l.length - back) 0]).length - back) (l ++ [l.getD (l.length - back) 0]) = (l.drop (l.length - back)).drop 1 ++ [l.getD (l.length - back) 0] := by
      rw [List.drop_drop, List.length_append, List.length_singleton, List.drop_append_of_le_length (by omega)]
      congr 2; omega
    rw [e1]; rfl
theorem rep_cyc (t : List UInt8) : ∀ (k n : Nat), n ≤ k * t.length → ((List.replicate k t).flatten).take n = cyc t n := by
  intro k n h
  have hz : ∀ k, (List.replicate k t).flatten.length = k * t.length := fun k => by simp
  have key : ∀ (k i : Nat), i < k * t.length → ((List.replicate k t).flatten)[i]? = t[i % t.length]? := by
    intro k
    induction k with
    | zero => intro i h; omega
    | succ k ih =>
      intro i h
      rw [List.replicate_succ, List.flatten_cons]
      rw [Nat.succ_mul] at h
      by_cases hi : i < t.length
      · rw [List.getElem?_append_left hi, Nat.mod_eq_of_lt hi]
      · rw [List.getElem?_append_right (by omega), ih _ (by omega), ← Nat.mod_eq_sub_mod (by omega)]
  apply List.ext_getElem?
  intro i
  by_cases hi : i < n
  · rw [List.getElem?_take_of_lt hi, key k i (by omega)]
    unfold cyc
    have ht : 0 < t.length := Nat.pos_of_ne_zero fun e => by rw [e] at h; omega
    have hm : i % t.length < t.length := Nat.mod_lt _ ht
    simp [hi, List.getElem?_eq_getElem hm, List.getD_eq_getElem?_getD]
  · rw [List.getElem?_eq_none (by simp; omega), List.getElem?_eq_none (by simp [cyc]; omega)]
theorem copyP_rep (back n : Nat) (l : List UInt8) (hb : 0 < back) (h : back ≤ l.length) : l ++ ((List.replicate (n / back + 1) (l.drop (l.length - back))).flatten).take n = copyP back n l := by
  rw [copyP_cyc back hb n l h, rep_cyc]
  simp only [List.length_drop]
  rw [show l.length - (l.length - back) = back by omega, Nat.succ_mul, Nat.mul_comm]
  have h1 := Nat.div_add_mod n back
  have h2 := Nat.mod_lt n hb
  omega
theorem copyP_len (back : Nat) : ∀ (n : Nat) (l : List UInt8), (copyP back n l).length = l.length + n
  | 0, l => rfl
  | n + 1, l => by rw [copyP, copyP_len back n]; simp; omega
end

-- V5
section
noncomputable def resV : Res → AV
  | .ok b => .bytes b
  | .bad w => .str (Str.ofString w)
noncomputable def cpV (c : Cp) : AV := .tup [.int c.1, .int c.2.1, .int c.2.2.1, .int c.2.2.2]
noncomputable def cpsV (c : List Cp) : List AV := c.map cpV
noncomputable def endsV (e : List Nat) : List AV := e.map fun n => .int (n : Nat)
noncomputable def readV (r : Res × List Cp × List Nat) : AV := .tup [resV r.1, .lst (cpsV r.2.1), .lst (endsV r.2.2)]

/-- what stands at each of the law's reader's early ends -/
theorem X_bad {C : Act} {ρ : Loc} {Q : Loc → Sto → Prop} {R : AV → Sto → Prop} {ca ea : Addr} {lc le : List AV} {w : Str} {pos p1 p2 p3 p4 : Pos} {k0 n : Nat} {rest : List PySem.Stmt} (h1 : Lk ρ "copies" (.ref ca)) (h2 : Lk ρ "ends" (.ref ea)) (h : R (.tup [.str w, .lst lc, .lst le]) [])
    (hk : C.env.scope.kind = .function := by kernel_rfl) (hx : C.env.kindOf "copies" = some .local := by kernel_rfl) (hy : C.env.kindOf "ends" = some .local := by kernel_rfl)
    (ht : backTo p4 (starEach [PySem.Expr.Constant (.str w) k0 p1, .Name "copies" p2, .Name "ends" p3] C.env) = [PySem.Expr.Constant (.str w) k0 p1, .Name "copies" p2, .Name "ends" p3].map (fun e => (false, eval e C.env)) := by kernel_rfl) :
    Exs C (.Return (some (.Tuple [.Constant (.str w) k0 p1, .Name "copies" p2, .Name "ends" p3] n p4)) pos :: rest) ρ [(ea, .list le), (ca, .list lc)] Q R :=
  X_cons (X_return (E_Tuple (EL_cons (E_str (EL_cons (E_nameFreeze h1 (.there .here) (EL_cons (E_nameFreeze h2 .here (EL_nil ⟨Nat.le_of_ble_eq_true rfl, h⟩) hk hy)) hk hx)))) ht))
local macro_rules | `(tactic| walk_at "bad") => `(tactic| (refine X_bad (by walk_at "lk1") (by walk_at "lk1") ⟨rfl, ?_⟩))
theorem law_read_fn {w : World} {b : Heap} (hB : Base w b) (f : List UInt8) (size : Nat) (hf : f.length ≤ 100000) (hsz : size ≤ 1000100) :
    Fn thePy w b 2 NoZ (.ref 151) [.bytes f, .int size] [] (fun v σ' => σ' = [] ∧ v = readV (readW f size)) := by
  refine fn_quiet (xs := ["octets", "size"]) (hB.kx 151 _ rfl) rfl hB.nolimit (codeRec_of hB.kx rfl) (len2 fun v u => rfl) rfl (by decide) (by decide) (by decide) ?_
  intro A kp B outer os L C hC ok
  subst hC
  simp only [List.zip_cons_cons, List.zip_nil_right]
  have hz : f.length ≤ sizeLine := by rw [sizeLine_eq]; omega
  refine X_cons (X_assignTup ["found", "copies", "ends", "at"] ok.hh ?_)
  walk_at "evs"
  refine E_ListT ?_
  walk_at "evs"
  refine ⟨Nat.le_of_ble_eq_true rfl, fun ca hca => ?_⟩
  walk_at "evs"
  refine E_ListT ?_
  walk_at "evs"
  refine ⟨Nat.le_of_ble_eq_true rfl, fun ea hea => ?_⟩
  walk_at "evs"
  refine ⟨Nat.le_of_ble_eq_true rfl, _, rfl, rfl, ?_⟩
  simp only [List.zip_cons_cons, List.zip_nil_right, List.reverse_cons, List.reverse_nil, List.nil_append, List.cons_append]
  refine X_cons (X_while (fun _ _ h => h.elim) (fun n ρ' σ' => ∃ (found : List UInt8) (c : List Cp) (e : List Nat) (i : Nat), ρ' = ([("found", .bytes found), ("at", .int i), ("ends", .ref ea), ("copies", .ref ca), ("octets", .bytes f), ("size", .int size)] : Loc) ∧ σ' = [(ea, .list (endsV e)), (ca, .list (cpsV c))] ∧
      readP f size n found c e i = readW f size ∧ f.length - i < n ∧ found.length ≤ size ∧ c.length ≤ i ∧ e.length ≤ i) ?_ (f.length + 1) (ρ₀ := [("found", .bytes []), ("at", .int (0 : Nat)), ("ends", .ref ea), ("copies", .ref ca), ("octets", .bytes f), ("size", .int size)]) ?_
      ⟨[], [], [], 0, rfl, rfl, rfl, by omega, by simp, by simp, by simp⟩)
  · rintro n ρ' σ' ⟨found, c, e, i, rfl, rfl, hgo, hn, hfl, hcl, hel⟩
    have hfz : found.length ≤ sizeLine := by rw [sizeLine_eq]; omega
    walk_at "evs"
    refine V_len_bytes hz ?_
    walk_at "evs"
    refine ⟨fun h => ?_, fun h => ?_⟩
    · have h := of_decide_eq_true h
      obtain ⟨n, rfl⟩ : ∃ m, n = m + 1 := ⟨n - 1, by omega⟩
      rw [readP, if_neg (by omega)] at hgo
      walk_at "evs"
      refine I_bytesN i hz rfl (by omega) ?_
      have hoc := oc_lt f i
      walk_at "evs"
      refine B_divN (oc f i) 16 rfl rfl (by omega) (by omega) ?_
      walk_at "evs"
      refine V_def (lawLen_fn hB [] f (i + 1) (oc f i / 16) hf) ok (by decide) ?_
      walk_at "evs"
      cases hl1 : lenP f (i + 1) (oc f i / 16) with
      | none =>
        rw [hl1] at hgo
        simp only at hgo
        refine ⟨fun _ => ?_, fun e => (nomatch e)⟩
        walk_at "bad"
        rw [← hgo]; rfl
      | some p =>
        obtain ⟨many, i₁⟩ := p
        have hge := lenP_ge hl1
        rw [hl1] at hgo
        simp only at hgo hge
        refine ⟨fun e => (nomatch e), fun _ => X_nil ?_⟩
        refine X_cons (X_assignTup ["many", "at"] ok.hh ?_)
        walk_at "evs"
        refine ⟨_, rfl, rfl, ?_⟩
        simp only [List.zip_cons_cons, List.zip_nil_right, List.reverse_cons, List.reverse_nil, List.nil_append, List.cons_append]
        walk_at "evs"
        refine V_len_bytes hfz ?_
        walk_at "evs"
        refine ⟨fun h1 => ?_, fun h1 => X_nil ?_⟩
        · have h1 := of_decide_eq_true h1
          rw [if_pos (by omega)] at hgo
          walk_at "bad"
          rw [← hgo]; rfl
        have h1 := of_decide_eq_false h1
        rw [if_neg (by omega)] at hgo
        walk_at "evs"
        refine V_len_bytes hz ?_
        walk_at "evs"
        refine ⟨fun h2 => ?_, fun h2 => X_nil ?_⟩
        · have h2 := of_decide_eq_true h2
          rw [if_pos (by omega)] at hgo
          walk_at "bad"
          rw [← hgo]; rfl
        have h2 := of_decide_eq_false h2
        rw [if_neg (by omega)] at hgo
        refine X_cons (X_assignSwap (xs := ["found", "at"]) ok.hh ?_)
        walk_at "evs"
        refine ex_bytes hz ?_
        walk_at "evs"
        rw [show (i₁ : Int) + (many : Int) = ((i₁ + many : Nat) : Int) by omega, cut_sl f i₁ (i₁ + many) (by omega) (by omega)]
        have hsl := sl_len f i₁ (i₁ + many) (by omega)
        refine B_addB (by omega) ?_
        walk_at "evs"
        refine ⟨Nat.le_of_ble_eq_true rfl, _, rfl, rfl, ?_⟩
        simp only [List.zip_cons_cons, List.zip_nil_right, List.nil_append, List.cons_append]
        have hf₁ : (found ++ sl f i₁ (i₁ + many)).length = found.length + many := by rw [List.length_append]; omega
        generalize hfd : found ++ sl f i₁ (i₁ + many) = found₁ at *
        have hfz₁ : found₁.length ≤ sizeLine := by rw [sizeLine_eq]; omega
        refine X_cons (X_expr (E_method "list.append" ?_))
        walk_at "evs"
        refine ⟨K_list (.head _), ?_⟩
        walk_at "evs"
        refine V_len_bytes hfz₁ ?_
        walk_at "evs"
        refine V_append_list .here (by simp [endsV, sizeLine_eq]; omega) ?_
        walk_at "evs"
        refine V_len_bytes hfz₁ ?_
        walk_at "evs"
        rw [show endsV e ++ [AV.int (found₁.length : Nat)] = endsV (e ++ [found₁.length]) by simp [endsV]]
        refine ⟨fun h3 => ?_, fun h3 => X_nil ?_⟩
        · have h3 := of_decide_eq_true h3
          rw [if_pos (by omega)] at hgo
          refine X_cons (X_return (E_Tuple (EL_cons (E_nm ?_))))
          walk_at "lk"
          refine EL_cons (E_nameFreeze (by walk_at "lk1") (.there .here) (EL_cons (E_nameFreeze (by walk_at "lk1") .here (EL_nil ⟨Nat.le_of_ble_eq_true rfl, rfl, ?_⟩))))
          rw [← hgo]; rfl
        have h3 := of_decide_eq_false h3
        rw [if_neg (by omega)] at hgo
        walk_at "evs"
        refine B_modN (oc f i) 16 rfl rfl (by omega) ?_
        walk_at "evs"
        refine V_def (lawLen_fn hB [] f (i₁ + many + 2) (oc f i % 16) hf) ok (by decide) ?_
        walk_at "evs"
        refine V_len_bytes hz ?_
        walk_at "evs"
        rw [show (i₁ : Int) + (many : Int) = ((i₁ + many : Nat) : Int) by omega]
        generalize hj : i₁ + many = j at *
        cases hl2 : lenP f (j + 2) (oc f i % 16) with
        | none =>
          rw [hl2] at hgo
          simp only [ite_self] at hgo
          refine ⟨fun _ => ⟨fun _ => ?_, fun e => (nomatch e)⟩, fun _ => ?_⟩
          · walk_at "bad"
            rw [← hgo]; rfl
          · walk_at "evs"
            refine ⟨fun _ => ?_, fun e => (nomatch e)⟩
            walk_at "bad"
            rw [← hgo]; rfl
        | some p =>
          obtain ⟨l, i₂⟩ := p
          have hge2 := lenP_ge hl2
          rw [hl2] at hgo
          simp only at hgo hge2
          refine ⟨fun h4 => ⟨fun _ => ?_, fun e => (nomatch e)⟩, fun h4 => ?_⟩
          · have h4 := of_decide_eq_true h4
            rw [if_pos (by omega)] at hgo
            walk_at "bad"
            rw [← hgo]; rfl
          have h4 := of_decide_eq_false h4
          rw [if_neg (by omega)] at hgo
          walk_at "evs"
          refine ⟨fun e => (nomatch e), fun _ => X_nil ?_⟩
          refine X_cons (X_assignSwap (xs := ["back", "length"]) ok.hh ?_)
          walk_at "evs"
          refine I_bytesN j hz rfl (by omega) ?_
          walk_at "evs"
          refine I_bytesN (j + 1) hz (by omega) (by omega) ?_
          walk_at "evs"
          have ho1 := oc_lt f j
          have ho2 := oc_lt f (j + 1)
          refine B_mul (by mul_fits) ?_
          walk_at "evs"
          rw [show (oc f j : Int) + 256 * (oc f (j + 1) : Int) = ((oc f j + 256 * oc f (j + 1) : Nat) : Int) by omega]
          generalize hbk : oc f j + 256 * oc f (j + 1) = back at *
          refine I_tup (x := .int (l : Int)) (Nat.le_of_ble_eq_true rfl) (by decide) rfl ?_
          walk_at "evs"
          rw [show (l : Int) + 4 = ((l + 4 : Nat) : Int) by omega]
          refine ⟨Nat.le_of_ble_eq_true rfl, _, rfl, rfl, ?_⟩
          simp only [List.zip_cons_cons, List.zip_nil_right, List.nil_append, List.cons_append]
          walk_at "evs"
          refine ⟨fun h5 => ⟨fun _ => ?_, fun e => (nomatch e)⟩, fun h5 => ?_⟩
          · have h5 := of_decide_eq_true h5
            rw [if_pos (.inl (by omega))] at hgo
            walk_at "bad"
            rw [← hgo]; rfl
          have h5 := of_decide_eq_false h5
          walk_at "evs"
          refine V_len_bytes hfz₁ ?_
          walk_at "evs"
          refine ⟨fun h6 => ?_, fun h6 => X_nil ?_⟩
          · have h6 := of_decide_eq_true h6
            rw [if_pos (.inr (by omega))] at hgo
            walk_at "bad"
            rw [← hgo]; rfl
          have h6 := of_decide_eq_false h6
          rw [if_neg (by omega)] at hgo
          walk_at "evs"
          refine V_len_bytes hfz₁ ?_
          walk_at "evs"
          refine ⟨fun h7 => ?_, fun h7 => X_nil ?_⟩
          · have h7 := of_decide_eq_true h7
            rw [if_pos (by omega)] at hgo
            walk_at "bad"
            rw [← hgo]; rfl
          have h7 := of_decide_eq_false h7
          rw [if_neg (by omega)] at hgo
          refine X_cons (X_expr (E_method "list.append" ?_))
          walk_at "evs"
          refine ⟨K_list (.tail _ (.head _)), ?_⟩
          walk_at "evs"
          refine V_len_bytes hfz₁ ?_
          walk_at "evs"
          refine ⟨Nat.le_of_ble_eq_true rfl, ?_⟩
          walk_at "evs"
          refine V_append_list (.there .here) (by simp [cpsV, sizeLine_eq]; omega) ?_
          rw [show cpsV c ++ [AV.tup [AV.int (found₁.length : Nat), AV.int (many : Nat), AV.int (back : Nat), AV.int ((l + 4 : Nat) : Int)]] = cpsV (c ++ [(found₁.length, many, back, l + 4)]) by simp [cpsV, cpV]]
          walk_at "evs"
          refine X_assignSwap (xs := ["found", "at"]) ok.hh ?_
          walk_at "evs"
          refine ex_bytes hfz₁ ?_
          walk_at "evs"
          refine V_len_bytes hfz₁ ?_
          walk_at "evs"
          rw [show (found₁.length : Int) - (back : Int) = ((found₁.length - back : Nat) : Int) by omega, cut_from]
          refine B_divN (l + 4) back rfl rfl (by omega) (by omega) ?_
          walk_at "evs"
          rw [show (((l + 4) / back : Nat) : Int) + 1 = (((l + 4) / back + 1 : Nat) : Int) by omega]
          have hdl : (found₁.drop (found₁.length - back)).length = back := by rw [List.length_drop]; omega
          have hdm := Nat.div_add_mod (l + 4) back
          have hdle : (l + 4) / back ≤ l + 4 := Nat.div_le_self _ _
          have hmul : back * ((l + 4) / back + 1) ≤ l + 4 + back := by rw [Nat.mul_succ]; omega
          have hcp := copyP_rep back (l + 4) found₁ (by omega) (by omega)
          have hcl := copyP_len back (l + 4) found₁
          have htk : ((List.replicate ((l + 4) / back + 1) (found₁.drop (found₁.length - back))).flatten.take (l + 4)).length ≤ l + 4 := by rw [List.length_take]; omega
          have hrl : (List.replicate ((l + 4) / back + 1) (found₁.drop (found₁.length - back))).flatten.length ≤ l + 4 + back := by
            rw [show (List.replicate ((l + 4) / back + 1) (found₁.drop (found₁.length - back))).flatten.length = ((l + 4) / back + 1) * (found₁.drop (found₁.length - back)).length by simp, hdl, Nat.mul_comm]; exact hmul
          generalize (l + 4) / back = q at *
          refine B_mulBig (fun e => by have := congrArg List.length e; rw [hdl] at this; simp at this; omega) (by omega) (by omega) (by rw [hdl, Int.toNat_natCast]; omega) ?_
          rw [Int.toNat_natCast]
          refine ex_bytes (by rw [sizeLine_eq]; omega) ?_
          walk_at "evs"
          rw [C_cutTake]
          refine B_addB (by omega) ?_
          rw [hcp]
          walk_at "evs"
          refine I_tup (x := .int (i₂ : Int)) (Nat.le_of_ble_eq_true rfl) (by decide) rfl ?_
          walk_at "evs"
          refine ⟨Nat.le_of_ble_eq_true rfl, _, rfl, rfl, ?_⟩
          simp only [List.zip_cons_cons, List.zip_nil_right, List.nil_append, List.cons_append]
          refine X_nil ⟨n, by omega, _, ?_, copyP back (l + 4) found₁, _, _, i₂, rfl, rfl, hgo, by omega, by omega, by rw [List.length_append, List.length_singleton]; omega, by rw [List.length_append, List.length_singleton]; omega⟩
          walk_at "sub"
    · walk_at "bad"
      rw [← hgo]
      cases n with
      | zero => omega
      | succ n => rw [readP, if_pos (by have := of_decide_eq_false h; omega)]; rfl
  · walk_at "sub"
end

-- R1
section
set_option Elab.async false
set_option maxRecDepth 100000
set_option maxHeartbeats 4000000
set_option linter.all false
open PySem PySem.W PySem.Calls PyProof.Rows PySem.Spec Builtin Builtin.ObjectAttr
noncomputable abbrev KK (P : Params) : Frag := MineTop.frag P
theorem kf1 (P : Params) : findIn (KK P) (.ref 44) "__setattr__" = some (some (.builtin "object.__setattr__")) := by kernel_rfl
theorem kf2 (P : Params) : findIn (KK P) (.ref 44) "__getattribute__" = some (some (.builtin "BaseException.__getattribute__")) := by kernel_rfl
theorem kf3 (P : Params) : findIn (KK P) (.ref 44) "__getattr__" = some none := by kernel_rfl
theorem kf4 (P : Params) : findIn (KK P) (.ref 44) "__init__" = some (some (.ref 28)) := by kernel_rfl
theorem kf5 (P : Params) : findIn (KK P) (.ref 44) "why" = some none := by kernel_rfl
theorem kf6 (P : Params) : typeIn (KK P) (.ref 28) = some (.type "function") := by kernel_rfl
theorem kfc (P : Params) : ∃ cd, clsIn (KK P) 44 = some cd ∧ cd.hasDict = true ∧ cd.hasDel = false ∧ cd.mro = [.ref 44, .ref 31, .type "Exception", .type "BaseException", .type "object"] := ⟨_, rfl, rfl, rfl, rfl⟩
theorem kf7 (P : Params) : (findCls (KK P) (.type "Exception") (.type "type") "__init__").map (fun x => match x with | .val v => some v | _ => none) = some (some (.builtin "Exception.__init__")) := by kernel_rfl
theorem kf8 (P : Params) : findIn (KK P) (.type "type") "__getattribute__" = some (some (.builtin "type.__getattribute__")) := by kernel_rfl
theorem kf9 (P : Params) : subIn (KK P) (.type "type") (.type "type") = some true := by kernel_rfl
theorem refuse_exc (self : Value) : refuseLoop self "__setattr__" [.ref 44, .ref 31, .type "Exception", .type "BaseException", .type "object"] = pure () := by
  rw [refuseLoop_ref, refuseLoop_ref]
  kernel_rfl
abbrev bmC : List Value := [.ref 31, .type "Exception", .type "BaseException", .type "object"]
theorem clsObj {P : Params} {h : Heap} (X : (KK P).In h) : ∃ nm q bs hdct sn sub ab col dd k0 k1 k2 k3 k5, h.get? 44 = some (excClassObj nm q 44 43 bs bmC hdct sn sub ab col dd k0 k1 k2 k3 k5 "Exception.__new__") :=
  ⟨_, _, _, _, _, _, _, _, _, _, _, _, _, _, X 44 _ rfl⟩

/-- the mark of an exception of the program: its own dict -/
structure Told (h : Heap) (dx : Addr) (v : Value) : Prop where
  ns : h.Ns dx (fun y => if y = "why" then some v else none)

section
variable {prog : Program} {w : World} {A : Around} {E : Value → Shared → Prop} {s : Shared}
theorem kk_sub {P : Params} {h : Heap} (X : (KK P).In h) {M : Model} {T : Value} (e : [Value.ref 44, .ref 31, .type "Exception", .type "BaseException", .type "object"].contains T = true) {a : Addr} {o : Obj} (ho : h.get? a = some o) (hc : o.cls = .ref 44) : Looks M h (isInstance (.ref a) T) true := by
  obtain ⟨cd, hcd, h1, h2, h3⟩ := kfc P
  refine Looks.andThen (a := .ref 44) (hc ▸ (Looks.ld ho).andThen .now) ?_
  refine looks_mroIn X ?_
  unfold mroIn
  rw [hcd, Option.bind_some, h3, if_neg (by decide), e]
theorem set_why {P : Params} (X : (KK P).In s.heap) {e : Addr} {vs : Array Value} {sl : Array (Option Value)} {v : Value} {Q : Unit → Shared → Prop} (he : s.heap.get? e = some ⟨.ref 44, none, .fields vs, sl⟩)
    (h : ∀ h' dx tk, s.heap.get? dx = none → dx ≠ e → (∀ b o, b ≠ e → s.heap.get? b = some o → h'.get? b = some o) → h'.get? e = some ⟨.ref 44, some dx, .fields vs, sl⟩ → h'.Ns dx (fun y => if y = "why" then some v else none) → Q () { s with heap := h', toks := tk }) :
    wpAny (model prog w) A (setAttr (.ref e) "why" v) Q E s := by
  have SF := PySem.F.store_object
  obtain ⟨cd, hcd, h1, h2, h3⟩ := kfc P
  have I : InstAt s.heap e ⟨.ref 44, none, .fields vs, sl⟩ 44 none := ⟨he, rfl, rfl, trivial⟩
  refine set_plain X I (kf1 P) ?_
  obtain ⟨hh, g, d, tk, os⟩ := s
  dsimp only at X he
  have sub := kk_sub (M := model prog w) X (T := .type "object") (by decide) he rfl
  refine codeAny_call_builtin SF.slot.plain SF.entry (@check_slot (model prog w) _ _ ⟨hh, g, d, tk + 1, os⟩ "object.__setattr__" "object" "__setattr__" (.ref e) [.str "why" tk, v] [] _ SF.kind SF.split sub (SF.args (.ref e) (.str "why" tk) v) ?_)
  have ty : Looks (model prog w) hh (typeOf (.ref e)) (.ref 44) := (Looks.ld he).andThen .now
  have hm : Looks (model prog w) hh (mroOf (.ref 44)) cd.mro := (looks_clsIn X hcd).andThen .now
  rw [osa_eq, refuse_eq]
  refine wpAny_bind (wpAny_bind (ty.at (wpAny_bind (hm.at ?_))))
  rw [h3, refuse_exc]
  refine wpAny_pure (wpAny_bind (ty.at (wpAny_bind ((looks_findIn X (kf5 P)).at (wpAny_bind (wpAny_pure ?_))))))
  show wpAny _ _ (storeInOwnDict (.ref e) (.ref 44) (.str "why" tk) "why" v false) _ _ _
  refine wpAny_bind (wpAny_pure (wpAny_bind (wpAny_bind (wpAny_loadPart he (wpAny_bind ((looks_clsIn X hcd).at ?_))))))
  rw [h1]
  refine wpAny_bind (wpAny_alloc (wpAny_bind (wpAny_update (Heap.get?_push_of_some _ he) (wpAny_bind (wpAny_pure (wpAny_pure ?_))))))
  have g0 : ((hh.push { cls := .type "dict", data := .dict #[] }).update e fun o => { o with dict := some hh.objs.size }).get? hh.objs.size = some { cls := .type "dict", data := .dict #[] } := by
    rw [Heap.get?_update_other _ _ (Nat.ne_of_lt (Heap.lt_size he))]; exact Heap.get?_push_size _ rfl
  have ge : ((hh.push { cls := .type "dict", data := .dict #[] }).update e fun o => { o with dict := some hh.objs.size }).get? e = some ⟨.ref 44, some hh.objs.size, .fields vs, sl⟩ :=
    Heap.get?_update_self _ (Heap.get?_push_of_some _ he) rfl
  have go : ∀ b o, b ≠ e → hh.get? b = some o → ((hh.push { cls := .type "dict", data := .dict #[] }).update e fun o => { o with dict := some hh.objs.size }).get? b = some o := fun b o hb hbo => by
    rw [Heap.get?_update_other _ _ (Ne.symm hb)]; exact Heap.get?_push_of_some _ hbo
  show wpAny _ _ (storeInDict hh.objs.size (.str "why" tk) "why" v) _ _ ⟨(hh.push { cls := .type "dict", data := .dict #[] }).update e fun o => { o with dict := some hh.objs.size }, g, d, tk + 1, os⟩
  generalize ((hh.push { cls := .type "dict", data := .dict #[] }).update e fun o => { o with dict := some hh.objs.size }) = H at g0 ge go
  refine wpAny_bind (wpAny_pure (wpAny_bind ?_))
  unfold nsSet
  refine wpAny_bind (wpAny_bind (wpAny_askSetting (wpAny_pure (wpAny_bind (wpAny_mkText (wpAny_bind (wpAny_loadPart g0 ?_)))))))
  dsimp only
  rw [show aRefKeyMayBeTheName "why" (#[] : Array DictEntry) = false from rfl]
  refine wpAny_updatePart g0 ?_
  have hne : hh.objs.size ≠ e := Nat.ne_of_gt (Heap.lt_size he)
  have g1 : ∀ hs, (H.update hh.objs.size (Obj.putName "why" hs (.str "why" (tk + 1)) v)).get? hh.objs.size = some { cls := .type "dict", data := .dict #[⟨hs, .str "why" (tk + 1), v⟩] 1 } := fun hs => Heap.get?_update_self _ g0 rfl
  refine wpAny_bind (wpAny_lookBehind (g1 _) (pastItsLine_dict (by simp [sizeLine_eq])) ?_)
  refine wpAny_pure (h _ hh.objs.size (tk + 1 + 1) (Heap.get?_none_of_le (Nat.le_refl _)) hne (fun b o hb hbo => ?_) ?_ ⟨_, _, _, g1 _, rfl, ?_, fun name => ?_⟩)
  · rw [Heap.get?_update_other _ _ (Nat.ne_of_gt (Heap.lt_size hbo))]; exact go b o hb hbo
  · rw [Heap.get?_update_other _ _ hne]; exact ge
  · intro en hen
    simp at hen; subst hen; exact ⟨_, _, rfl⟩
  · by_cases hn : name = "why"
    · subst hn; rfl
    · show _ = if name = "why" then some v else none
      rw [if_neg hn]
      unfold nsFind findBy
      simp [Value.isStr, Ne.symm hn]

abbrev excObj (t : Addr) (d : Option Addr) : Obj := { cls := .ref 44, dict := d, data := .fields #[.ref t, .none, .none, .none, .bool false, .none] }
/-- Exception.__init__(self, why) -/
theorem init_base {P : Params} (X : (KK P).In s.heap) {e t : Addr} {v : Value} {Q : Value → Shared → Prop} (he : s.heap.get? e = some (excObj t none))
    (h : ∀ h' t', (∀ b o, b ≠ e → s.heap.get? b = some o → h'.get? b = some o) → h'.get? e = some (excObj t' none) → Q .none { s with heap := h' }) :
    wpAny (model prog w) A (call (.builtin "Exception.__init__") [.ref e, v]) Q E s := by
  have F := PySem.F.excBase_Exception
  obtain ⟨nm, q, bs, hdct, sn, sub, ab, col, dd, k0, k1, k2, k3, k5, hC⟩ := clsObj X
  obtain ⟨hh, g, d, tk, os⟩ := s
  dsimp only at X he hC
  have chk : ∀ (A : Around) (Q : Unit → Shared → Prop) (E : Value → Shared → Prop), Q () ⟨hh, g, d, tk, os⟩ → wpAny (model prog w) A (checkBuiltinCall "Exception.__init__" ⟨[.ref e, v], []⟩) Q E ⟨hh, g, d, tk, os⟩ := by
    intro A Q E hq
    have hcB : (Value.ref 44 :: bmC).contains (.type "Exception") = true := by decide
    have hshort := F.noStar
    simp only [checkBuiltinCall, F.initKind, F.initSplit, F.initRow]
    repeat (first | (with_reducible refine wpAny_loadPart_at he ?_) | with_reducible refine wpAny_loadPart_at hC ?_ | (with_reducible refine wpAny_isSubtype_exc hC ?_; rw [hcB]) | wp_step)
    exact hq
  refine wpAny_call (codeAny_call_builtin F.init.plain F.initEntry (chk _ _ _ ?_))
  wp_walk
  refine h _ hh.objs.size (fun b o hb hbo => by rw [Heap.get?_update_other _ _ (Ne.symm hb)]; exact Heap.get?_push_of_some _ hbo) (Heap.get?_update_self _ (Heap.get?_push_of_some _ he) rfl)
theorem exc_method {P : Params} (X : (KK P).In s.heap) {pl : Sem Bool} {Q : Value × List Value → Shared → Prop} (h : Q (.builtin "Exception.__init__", []) { s with toks := s.toks + 1 }) :
    wpAny (model prog w) A (getMethod (.type "Exception") "__init__" pl) Q E s := by
  have ty : Looks (model prog w) s.heap (typeOf (.type "Exception")) (.type "type") := Looks.of_pure (by kernel_rfl)
  have sp : Looks (model prog w) s.heap (specialOf (.type "Exception") "__getattribute__") (some (.builtin "type.__getattribute__")) := ty.andThen (looks_findIn X (kf8 P))
  have cl : findCls (KK P) (.type "Exception") (.type "type") "__init__" = some (.val (.builtin "Exception.__init__")) := by
    have := kf7 P
    cases q : findCls (KK P) (.type "Exception") (.type "type") "__init__" with
    | none => rw [q] at this; cases this
    | some x =>
      rw [q] at this
      cases x with
      | val v => simp at this; rw [this]
      | get _ _ _ _ => simp at this
  unfold getMethod
  refine wpAny_bind (sp.here ?_)
  dsimp only
  rw [if_pos canon_tga]
  have key : wpAny (model prog w) A (getAttr (.type "Exception") "__init__") (fun v s' => v = .builtin "Exception.__init__" ∧ Q (v, []) s') E s :=
    cls_open (hook := none) X (Looks.of_pure (by kernel_rfl)) ty (kf8 P) (Looks.of_pure (by kernel_rfl)) (kf9 P) cl (wpAny_pure (by show wpAny _ _ (handedOut _) _ _ _; rw [handedOut_of (by decide +kernel)]; exact wpAny_pure ⟨rfl, h⟩))
  exact wpAny_bind (wpAny_mono key (fun _ _ z => wpAny_pure z.2) fun _ _ z => z)
end
end

-- R2
section
set_option Elab.async false
set_option maxRecDepth 100000
set_option maxHeartbeats 4000000
set_option linter.all false
open PySem PySem.W PySem.Calls PyProof.Rows PySem.Spec Builtin Builtin.ObjectAttr

/-- whether it has a traceback, and of what kind -/
noncomputable def Trace (kp : Heap) (a : Addr) (vs : Array Value) (h : Heap) : Prop :=
  ∃ T oT ts fl, vs[1]? = some (.ref T) ∧ kp.get? T = none ∧ T ≠ a ∧ h.get? T = some oT ∧ oT.data = .fields ts ∧ ts[3]? = some fl
/-- a Corrupt is under way -/
noncomputable def Thr (tr : Bool) (kp B : Heap) (l : List Env) (os : OsState) (x : Str) (e : Value) (s : Shared) : Prop :=
  ∃ a dx tk sl vs, e = .ref a ∧ (kp.get? a = none ∧ kp.get? dx = none) ∧ s.heap.get? a = some ⟨.ref 44, some dx, .fields vs, sl⟩ ∧ 1 < vs.size ∧ s.heap.Ns dx (fun y => if y = "why" then some (.str x tk) else none) ∧
    (Trace kp a vs s.heap ∨ (tr = false ∧ vs[1]? = some .none)) ∧ s.heap.FunFrames B l ∧ (∀ b o, kp.get? b = some o → b ∉ l.filterMap (·.frame) → s.heap.get? b = some o) ∧
    (∀ b o, kp.get? b = some o → ∃ sl, s.heap.get? b = some { o with slots := sl }) ∧ B.StaysIn kp ∧ s.gens = #[] ∧ s.os = os
theorem Thr.weak {tr : Bool} {kp B : Heap} {l : List Env} {os : OsState} {x : Str} {e : Value} {s : Shared} (h : Thr true kp B l os x e s) : Thr tr kp B l os x e s := by
  obtain ⟨a, dx, tk, sl, vs, h1, h2, h3, h4, h5, h6, h7⟩ := h
  exact ⟨a, dx, tk, sl, vs, h1, h2, h3, h4, h5, h6.imp id (fun q => (nomatch q.1)), h7⟩

section
variable {M : Model} {A : Around} {E : Value → Shared → Prop} {s : Shared}
theorem note_any {tr : Bool} {kp B : Heap} {env : Env} {outer : List Env} {L : Addr} {os : OsState} {x : Str} {e : Value} {Q : Unit → Shared → Prop} (hfr : A.frames = some (env :: outer)) (hf : env.frame = some L)
    (t : Thr tr kp B (env :: outer) os x e s) (h : ∀ s', Thr true kp B (env :: outer) os x e s' → Q () s') : wpAny M A (noteFrame e env) Q E s := by
  obtain ⟨a, dx, tk, sl, vs, rfl, ⟨hka, hkdx⟩, ha, hsz, hdx, htr, hff, hkp, hks, hB, hg, ho⟩ := t
  have anf : a ∉ (env :: outer).filterMap (·.frame) := fun hm => by
    obtain ⟨_, o, ho, hnf⟩ := hff.mem hm
    rw [ha] at ho; injection ho with ho; subst ho; exact hnf vs rfl
  have dnf : ∀ {h : Heap} {m : Str → Option Value}, h.Ns dx m → ∀ b o ws, h.get? b = some o → o.data = .fields ws → dx ≠ b := fun hn b o ws hb hd q => by
    subst q
    obtain ⟨o2, es, ep, h2, hd2, _⟩ := hn
    rw [hb] at h2; cases h2; rw [hd] at hd2; cases hd2
  -- the new entry
  have fresh : ∀ (s : Shared) (vs : Array Value) (sl : Array (Option Value)) (hd : Value) (hn : Bool), s.heap.get? a = some ⟨.ref 44, some dx, .fields vs, sl⟩ → 1 < vs.size → s.heap.Ns dx (fun y => if y = "why" then some (.str x tk) else none) →
      s.heap.FunFrames B (env :: outer) → (∀ b o, kp.get? b = some o → b ∉ (env :: outer).filterMap (·.frame) → s.heap.get? b = some o) → (∀ b o, kp.get? b = some o → ∃ sl, s.heap.get? b = some { o with slots := sl }) → s.gens = #[] → s.os = os →
      wpAny M A (do let fr ← frameOf env; let pl ← entryPlaceOf L hn; let b ← EntryCells.newEntry hd fr .none (rawInt L) .none pl; setField (.ref a) 1 b) Q E s := by
    intro s vs sl hd hn ha hsz hdx hff hkp hks hg ho
    refine wpAny_bind (wpAny_frameOf_fun hfr hff hf fun h₁ hs₁ => ?_)
    refine wpAny_bind (wpAny_entryPlaceOf fun pl hpl => ?_)
    unfold EntryCells.newEntry newFields
    refine wpAny_bind (wpAny_newObj_type ?_ (hpl.sizeOk5 _ _ _ _ _))
    have ha₁ : h₁.get? a = some ⟨.ref 44, some dx, .fields vs, sl⟩ := (hs₁.2.1 a anf).trans ha
    have ha₂ := Heap.get?_push_of_some (h := h₁) { cls := .type "traceback", dict := none, data := .fields ([hd, .ref L, .none, rawInt L, .none] ++ (if pl.isEmpty then List.replicate 6 Value.none else pl)).toArray } ha₁
    refine wpAny_setField ha₂ rfl hsz (h _ ?_)
    have hTa : h₁.objs.size ≠ a := Nat.ne_of_gt (Heap.lt_size ha₁)
    have ha₃ := Heap.get?_update_self (Obj.mapFields (·.setIfInBounds 1 (Value.ref h₁.objs.size))) ha₂ rfl
    have hT₃ := (Heap.get?_update_other (h₁.push { cls := .type "traceback", dict := none, data := .fields ([hd, .ref L, .none, rawInt L, .none] ++ (if pl.isEmpty then List.replicate 6 Value.none else pl)).toArray })
      (Obj.mapFields (·.setIfInBounds 1 (Value.ref h₁.objs.size))) (Ne.symm hTa)).trans (Heap.get?_push_size h₁ rfl)
    have keep : ∀ b o, b ≠ a → h₁.get? b = some o →
        ((h₁.push { cls := .type "traceback", dict := none, data := .fields ([hd, .ref L, .none, rawInt L, .none] ++ (if pl.isEmpty then List.replicate 6 Value.none else pl)).toArray }).update a (Obj.mapFields (·.setIfInBounds 1 (Value.ref h₁.objs.size)))).get? b = some o :=
      fun b o hbe hb => by
        rw [Heap.get?_update_other _ _ (Ne.symm hbe)]
        exact Heap.get?_push_of_some _ hb
    have hkT : kp.get? h₁.objs.size = none := by
      cases q : kp.get? h₁.objs.size with
      | none => rfl
      | some o =>
        obtain ⟨sl', h'⟩ := hks _ o q
        obtain ⟨sl'', h''⟩ := hs₁.2.2 _ _ h'
        exact absurd (Heap.lt_size h'') (Nat.lt_irrefl _)
    have nea : ∀ b o, kp.get? b = some o → b ≠ a := fun b o hb q => by rw [q, hka] at hb; cases hb
    refine ⟨a, dx, tk, _, _, rfl, ⟨hka, hkdx⟩, ha₃, by simpa using hsz, ?_, .inl ⟨h₁.objs.size, _, _, rawInt L, by simp [hsz], hkT, hTa, hT₃, rfl, by first | (simp; done) | (rcases hpl with rfl | ⟨_, _, _, _, _, _, _, rfl⟩ <;> simp)⟩, ?_, fun b o hb hnf => ?_, fun b o hb => ?_, hB, hg, ho⟩
    · obtain ⟨o2, es, ep, h2, hd2, r⟩ := id hdx
      obtain ⟨sl2, h3⟩ := hs₁.2.2 _ _ h2
      exact ⟨_, es, ep, keep dx _ (dnf hdx a _ vs ha rfl) h3, hd2, r⟩
    · refine hff.of_keeps fun b o hb hnf => ?_
      obtain ⟨sl2, h3⟩ := hs₁.2.2 _ _ hb
      exact ⟨_, keep b _ (fun q => by rw [q, ha] at hb; cases hb; exact hnf _ rfl) h3, rfl⟩
    · exact keep b o (nea b o hb) ((hs₁.2.1 b hnf).trans (hkp b o hb hnf))
    · obtain ⟨sl', h'⟩ := hks b o hb
      obtain ⟨sl'', h''⟩ := hs₁.2.2 _ _ h'
      exact ⟨sl'', keep b _ (nea b o hb) h''⟩
  unfold noteFrame
  simp only [hf]
  rcases htr with ⟨T, oT, ts, fl, h1, hkT, hTa, hT, hdT, h3⟩ | ⟨_, h1⟩
  · refine wpAny_bind (wpAny_field ha rfl h1 ?_)
    rw [if_pos (show (Value.ref T != Value.none) = true from by simp)]
    refine wpAny_bind (wpAny_field hT hdT h3 ?_)
    by_cases hfl : (fl == rawInt L) = true
    · rw [if_pos hfl]
      exact wpAny_pure (h s ⟨a, dx, tk, sl, vs, rfl, ⟨hka, hkdx⟩, ha, hsz, hdx, .inl ⟨T, oT, ts, fl, h1, hkT, hTa, hT, hdT, h3⟩, hff, hkp, hks, hB, hg, ho⟩)
    · rw [if_neg hfl]
      refine wpAny_bind (wpAny_setField hT hdT (Array.getElem?_eq_some_iff.mp h3).1 ?_)
      have other : ∀ b, b ≠ T → (s.heap.update T (Obj.mapFields (·.setIfInBounds 3 Value.none))).get? b = s.heap.get? b := fun b hb => Heap.get?_update_other _ _ (Ne.symm hb)
      have neT : ∀ b o, kp.get? b = some o → b ≠ T := fun b o hb q => by rw [q, hkT] at hb; cases hb
      refine fresh { s with heap := s.heap.update T (Obj.mapFields (·.setIfInBounds 3 Value.none)) } vs sl _ _ ((other a (Ne.symm hTa)).trans ha) hsz ?_ ?_ (fun b o hb hnf => (other b (neT b o hb)).trans (hkp b o hb hnf)) (fun b o hb => ?_) hg ho
      · obtain ⟨o2, es, ep, h2, r⟩ := id hdx
        exact ⟨o2, es, ep, (other dx (dnf hdx T _ ts hT hdT)).trans h2, r⟩
      · exact hff.of_keeps fun b o hb hnf => ⟨o, (other b (fun q => by rw [q, hT] at hb; cases hb; exact hnf _ hdT)).trans hb, rfl⟩
      · obtain ⟨sl', h'⟩ := hks b o hb
        exact ⟨sl', (other b (neT b o hb)).trans h'⟩
  · refine wpAny_bind (wpAny_field ha rfl h1 ?_)
    rw [if_neg (by decide)]
    exact fresh s vs sl _ _ ha hsz hdx hff hkp hks hg ho
theorem flight_any {kp B : Heap} {l : List Env} {os : OsState} {x : Str} {e : Value} {fr : Option Addr} {Q : Unit → Shared → Prop} (t : Thr true kp B l os x e s) (h : ∀ s', Thr true kp B l os x e s' → Q () s') : wpAny M A (setFlight e fr) Q E s := by
  obtain ⟨a, dx, tk, sl, vs, rfl, ⟨hka, hkdx⟩, ha, hsz, hdx, ⟨T, oT, ts, fl, h1, hkT, hTa, hT, hdT, h3⟩ | ⟨q, _⟩, hff, hkp, hks, hB, hg, ho⟩ := t
  · have h33 := (Array.getElem?_eq_some_iff.mp h3).1
    unfold setFlight
    refine wpAny_bind (wpAny_field ha rfl h1 ?_)
    rw [if_pos (show (Value.ref T != Value.none) = true from by simp)]
    refine wpAny_setField hT hdT h33 (h _ ?_)
    have other : ∀ b, b ≠ T → (s.heap.update T (Obj.mapFields (·.setIfInBounds 3 (fr.elim Value.none fun f => rawInt f)))).get? b = s.heap.get? b := fun b hb => Heap.get?_update_other _ _ (Ne.symm hb)
    have neT : ∀ b o, kp.get? b = some o → b ≠ T := fun b o hb q => by rw [q, hkT] at hb; cases hb
    have dT : dx ≠ T := fun q => by
      obtain ⟨o2, es, ep, h2, hd2, _⟩ := hdx
      rw [q, hT] at h2; cases h2; rw [hdT] at hd2; cases hd2
    refine ⟨a, dx, tk, sl, vs, rfl, ⟨hka, hkdx⟩, (other a (Ne.symm hTa)).trans ha, hsz, ?_, .inl ⟨T, _, _, fr.elim Value.none fun f => rawInt f, h1, hkT, hTa, Heap.get?_update_self _ hT (Obj.isFreed_of_fields (Obj.data_mapFields hdT _)), Obj.data_mapFields hdT _, by simp [h33]⟩, ?_, (fun b o hb hnf => (other b (neT b o hb)).trans (hkp b o hb hnf)), (fun b o hb => ?_), hB, hg, ho⟩
    · obtain ⟨o2, es, ep, h2, r⟩ := id hdx
      exact ⟨o2, es, ep, (other dx dT).trans h2, r⟩
    · exact hff.of_keeps fun b o hb hnf => ⟨o, (other b (fun q => by rw [q, hT] at hb; cases hb; exact hnf _ hdT)).trans hb, rfl⟩
    · obtain ⟨sl', h'⟩ := hks b o hb
      exact ⟨sl', (other b (neT b o hb)).trans h'⟩
  · cases q
theorem leaving_any {tr : Bool} {kp B : Heap} {env : Env} {outer : List Env} {L : Addr} {os : OsState} {x : Str} {e : Value} {Q : Unit → Shared → Prop} (hfr : A.frames = some (env :: outer)) (hf : env.frame = some L) (hL : kp.get? L = none)
    (t : Thr tr kp B (env :: outer) os x e s) (h : ∀ s', Thr true kp B outer os x e s' → Q () s') : wpAny M A (leaving env e) Q E s := by
  unfold leaving
  refine wpAny_bind (note_any hfr hf t fun s' t' => flight_any t' fun s'' t'' => h s'' ?_)
  obtain ⟨a, dx, tk, sl, vs, h1, h2, h3, h4, h5, h6, ⟨_, _, h7⟩, h8, h9⟩ := t''
  refine ⟨a, dx, tk, sl, vs, h1, h2, h3, h4, h5, h6, h7, fun b o hb hn => h8 b o hb fun hm => ?_, h9⟩
  rw [List.filterMap_cons, hf] at hm
  rcases List.mem_cons.mp hm with rfl | hm
  · rw [hL] at hb; cases hb
  · exact hn hm
end
end

-- R3
section
set_option Elab.async false
set_option maxRecDepth 100000
set_option maxHeartbeats 4000000
set_option linter.all false
local macro_rules | `(tactic| omega) => `(tactic| lia)
open PySem PySem.W PySem.Calls PyProof.Rows PySem.Spec Builtin Builtin.ObjectAttr

section
variable {M : Model} {A : Around} {E : Value → Shared → Prop} {s : Shared} {env : Env}
theorem G_Assign_Attribute {o attr pos' value pos} {Q : Flow → Shared → Prop}
    (h : wpG M A (eval value env) (fun v s₁ => wpG M A (eval o env) (fun ov s₂ => wpG M A (setAttr ov attr v) (fun _ => Q .next) E s₂) E s₁) E s)
    (hs : swapsWith value (some (.Attribute o attr pos')) pos.line env = pure false := by rfl) :
    wpG M A (exec (.Assign [.Attribute o attr pos'] value pos) env) Q E s := by
  rw [plainObj_exec_Assign_Attribute o attr pos' value pos hs]
  refine wpG_bind (wpG_standAt (wpG_bind (wpG_mono h (fun v s₁ h₁ => ?_) fun _ _ x => x)))
  rw [assign_Attribute]
  refine wpG_bind (wpG_bind (wpG_holding (wpG_mono h₁ (fun ov s₂ h₂ => ?_) fun _ _ x => x)))
  refine wpG_bind (wpG_standAt (wpG_bind (wpG_holding (wpG_mono h₂ (fun _ s₃ h₃ => wpG_release (wpG_pure h₃)) fun _ _ x => x))))
/-- a call of an attribute that gives a bare built-in -/
theorem G_Call_attr {o : Expr} {name : Str} {apos pos : Pos} {args : List Expr} {id : String} {Q : Value → Shared → Prop}
    (hbase : attributeBase o name env (eval o env) = eval o env) (hline : (apos.endLine == pos.line) = true) (ht : backTo pos (starEach args env) = args.map fun e => (false, eval e env)) (hl : args.length < 10)
    (h : wpG M A (eval o env) (fun ov s₁ => ∀ pl, wpG M A (getMethod ov name pl) (fun fm s₂ => fm = (.builtin id, []) ∧
      wpG M A (spliced (args.map fun e => (false, eval e env))) (fun vs s₂ => wpG M A (call (.builtin id) vs) Q E s₂) E s₂) E s₁) E s) :
    wpG M A (eval (.Call (.Attribute o name apos) args [] pos) env) Q E s := by
  rw [arm_eval_Call, hbase]
  refine wpG_bind (wpG_mono h (fun ov s₁ h₁ => ?_) fun _ _ e => e)
  refine wpG_bind (wpG_standAt ?_)
  have hall : (backTo pos (starEach args env)).all (fun x => !x.1) = true := by
    rw [ht, List.all_eq_true]; intro x hx; obtain ⟨e, _, rfl⟩ := List.mem_map.mp hx; rfl
  have hform : methodCallForm (args.length + ([] : List Keyword).length) (backTo pos (starEach args env)) (backToKw pos (keywordEach [] env)) = true := by
    unfold methodCallForm
    rw [hall]
    have : backToKw pos (keywordEach [] env) = [] := rfl
    rw [this]
    simp; omega
  have hpos : methodCallPos true o env apos pos = pure pos := by unfold methodCallPos; simp [hline]
  unfold methodCall
  rw [hform]
  refine wpG_bind (wpG_holding ?_)
  show wpG M A (getMethod ov name _) _ E s₁
  refine wpG_mono (h₁ _) (fun fm s₂ h₂ => ?_) fun _ _ x => x
  obtain ⟨rfl, h₂⟩ := h₂
  refine wpG_bind (wpG_of_eq hpos ?_)
  have key : wpG M A (evalArgs (.builtin id) true (backTo pos (starEach args env)) []) (fun a s₂ => wpG M A (call (.builtin id) ([] ++ a.pos) a.kw) Q E s₂) E s₂ := by
    rw [ht]
    have := G_evalArgs (M := M) (A := A) (E := E) (s := s₂) (f := .builtin id) (ts := args.map fun e => eval e env) (Q := fun a s₂ => wpG M A (call (.builtin id) ([] ++ a.pos) a.kw) Q E s₂) (by rw [List.map_map]; exact h₂)
    rw [List.map_map] at this
    exact this
  refine G_callWith_plain rfl ?_ key
  rw [List.any_eq_not_all_not]
  rw [show (backTo pos (starEach args env)).all (fun x => !x.1) = true from hall]; rfl
end

theorem St.addT {C : Act} {fz : Heap} {m : Str → Option Value} {σ : Sto} {s : Shared} {n : Addr} {ao : AO} (S : St C fz m σ s) (hh : Holds fz s.heap n ao) (n1 : fz.get? n = none) (n2 : C.kp.get? n = none) (n3 : n ≠ C.env.locals) (n4 : ∀ p ∈ σ, p.1 ≠ n) : St C fz m ((n, ao) :: σ) s := by
  refine ⟨⟨S.mem.bfz, S.mem.fzh, S.mem.kph, fun p hp => ?_, ?_, S.mem.gens, S.mem.os⟩, S.ns, S.Lfz, S.Lkp, fun p hp => ?_⟩
  · rcases List.mem_cons.mp hp with rfl | hp
    · exact ⟨hh, n1, n2⟩
    · exact S.mem.trk p hp
  · simp only [List.map_cons, List.nodup_cons]
    refine ⟨fun hm => ?_, S.mem.nodup⟩
    obtain ⟨p, hp, e⟩ := List.mem_map.mp hm
    exact n4 p hp e
  · rcases List.mem_cons.mp hp with rfl | hp
    · exact n3
    · exact S.Lσ p hp

/-- an object that is a namespace -/
noncomputable def NsObj (m : Str → Option Value) (o : Obj) : Prop := ∃ es ep, o.data = .dict es ep ∧ StrKeys es ∧ ∀ name, nsFind es name = m name
theorem ns_obj {h : Heap} {a : Addr} {m : Str → Option Value} : h.Ns a m ↔ ∃ o, h.get? a = some o ∧ NsObj m o :=
  ⟨fun ⟨o, es, ep, ho, r⟩ => ⟨o, ho, es, ep, r⟩, fun ⟨o, ho, es, ep, r⟩ => ⟨o, es, ep, ho, r⟩⟩
noncomputable def exc0 (o : Obj) : Prop := ∃ t, o = excObj t none
noncomputable def exc1 (dx : Addr) (o : Obj) : Prop := ∃ t, o = excObj t (some dx)
noncomputable def whyIs (x : Str) (o : Obj) : Prop := ∃ tk, NsObj (fun y => if y = "why" then some (.str x tk) else none) o

section
variable {C : Act} {ρ : Loc} {σ : Sto}
theorem kk_at {P : Params} (X : (KK P).In C.b) {fz : Heap} {m : Str → Option Value} {s : Shared} (S : St C fz m σ s) : (KK P).In s.heap := fun a o e => S.mem.fzh _ _ (S.mem.bfz _ _ (X a o e))
theorem E_excInit {P : Params} (X : (KK P).In C.b) (hg : Gl C.b "Exception" (.type "Exception")) {Q : AV → Sto → Prop} {es : List Expr} {p1 p2 pos : Pos} {a : Addr} {v : AV} {σ₁ : Sto} (u : Upd a (.raw exc0) (.raw exc0) σ σ₁)
    (h : EvL C es ρ σ fun avs σ₂ => avs = [.ref a, v] ∧ σ₂ = σ ∧ Q .none σ₁) (hl : es.length < 10 := by decide)
    (hline : (p2.endLine == pos.line) = true := by kernel_rfl)
    (ht : backTo pos (starEach es C.env) = es.map (fun e => (false, eval e C.env)) := by kernel_rfl) (e1 : C.env.globals = mainGlobals := by kernel_rfl) (e2 : C.env.builtins = builtinsNs := by kernel_rfl)
    (hk : C.env.scope.kind = .function := by kernel_rfl) (hx : C.env.kindOf "Exception" = some .globalImplicit := by kernel_rfl) : Ev C (.Call (.Attribute (.Name "Exception" p1) "__init__" p2) es [] pos) ρ σ Q := fun fz m s S P => by
  refine G_Call_attr (id := "Exception.__init__") rfl hline ht hl (name_global hg S ?_ e1 e2 hk hx)
  refine fun pl => .of (exc_method (kk_at X S) ⟨rfl, ?_⟩)
  refine wpG_mono (h fz m _ (S.toks _) P) (fun vs s₂ h₂ => ?_) fun _ _ x => x
  obtain ⟨fz₂, avs, σ₂, x₂, S₂, i₂, rfl, rfl, hq⟩ := h₂
  cases i₂ using Iss.elimC with
  | cons _ _ _ _ i1 i2 => cases i2 using Iss.elimC with
    | cons _ _ vv _ i2 i3 =>
      (first | obtain ⟨_, rfl⟩ := Is.intE i1 | obtain ⟨_, rfl⟩ := Is.bytesE i1 | obtain rfl := Is.refE i1 | obtain rfl := Is.boolE i1 | obtain rfl := Iss.nilE i1 | obtain rfl := Is.noneE i1 | obtain ⟨_, rfl⟩ := Is.strE i1 | cases i1); (first | obtain ⟨_, rfl⟩ := Is.intE i3 | obtain ⟨_, rfl⟩ := Is.bytesE i3 | obtain rfl := Is.refE i3 | obtain rfl := Is.boolE i3 | obtain rfl := Iss.nilE i3 | obtain rfl := Is.noneE i3 | obtain ⟨_, rfl⟩ := Is.strE i3 | cases i3)
      obtain ⟨o, ho, t, rfl⟩ := (S₂.mem.trk _ u.mem).1
      refine .of (init_base (kk_at X S₂) ho fun h' t' k g => ?_)
      exact ⟨fz₂, .none, σ₁, x₂, S₂.upd (s' := { s₂ with heap := h' }) u (fun b ob hb e => k b ob hb e) ⟨_, g, t', rfl⟩, .none, hq⟩
theorem X_setWhy {P : Params} (X : (KK P).In C.b) {Q : Loc → Sto → Prop} {R : AV → Sto → Prop} {o value : Expr} {p' pos : Pos} {a : Addr} {x : Str} (hm : (a, .raw exc0) ∈ σ)
    (h : Ev C value ρ σ fun v σ₁ => v = .str x ∧ Ev C o ρ σ₁ fun ov σ₂ => ov = .ref a ∧ σ₂ = σ ∧ ∀ dx σ₃, Upd a (.raw exc0) (.raw (exc1 dx)) σ σ₃ → Q ρ ((dx, .raw (whyIs x)) :: σ₃))
    (hs : swapsWith value (some (.Attribute o "why" p')) pos.line C.env = pure false := by kernel_rfl) : Ex C (.Assign [.Attribute o "why" p'] value pos) ρ σ Q R := fun fz m s S P => by
  refine G_Assign_Attribute ((h fz m s S P).step fun fz₁ v u σ₁ s₁ x₁ S₁ i₁ h₁ => ?_) hs
  obtain ⟨rfl, h₁⟩ := h₁
  refine (h₁ fz₁ m s₁ S₁ (P.mono x₁.1)).step fun fz₂ ov ou σ₂ s₂ x₂ S₂ i₂ h₂ => ?_
  obtain ⟨rfl, rfl, h₂⟩ := h₂
  (first | obtain ⟨_, rfl⟩ := Is.intE i₂ | obtain ⟨_, rfl⟩ := Is.bytesE i₂ | obtain rfl := Is.refE i₂ | obtain rfl := Is.boolE i₂ | obtain rfl := Iss.nilE i₂ | obtain rfl := Is.noneE i₂ | obtain ⟨_, rfl⟩ := Is.strE i₂ | cases i₂)
  cases i₁ with
  | str _ tk =>
  obtain ⟨ob, ho, t, rfl⟩ := (S₂.mem.trk _ hm).1
  have upd : ∀ (dx : Addr) {σ : Sto}, (a, AO.raw exc0) ∈ σ → ∃ σ₃, Upd a (.raw exc0) (.raw (exc1 dx)) σ σ₃ := by
    intro dx σ hm
    induction σ with
    | nil => cases hm
    | cons p r ih =>
      rcases List.mem_cons.mp hm with rfl | hm
      · exact ⟨_, .here⟩
      · obtain ⟨σ₃, h⟩ := ih hm; exact ⟨_, .there h⟩
  refine .of (set_why (kk_at X S₂) ho fun h' dx tk' hn hne k g ns => ?_)
  obtain ⟨σ₃, u₃⟩ := upd dx hm
  have S₃ : St C fz₂ m σ₃ { s₂ with heap := h', toks := tk' } := S₂.upd (s' := { s₂ with heap := h', toks := tk' }) u₃ (fun b ob hb e => k b ob hb e) ⟨_, g, t, rfl⟩
  have nn : ∀ {f : Heap}, f.StaysIn s₂.heap → f.get? dx = none := fun kf => by
    cases q : Heap.get? _ dx with
    | none => rfl
    | some o => have := kf _ _ q; rw [hn] at this; cases this
  refine ⟨fz₂, m, _, x₁.trans x₂, S₃.addT ?_ (nn S₂.mem.fzh) (nn S₂.mem.kph) ?_ ?_, ρ, P.mono (x₁.trans x₂).1, h₂ dx σ₃ u₃⟩
  · obtain ⟨o, ho, no⟩ := ns_obj.mp ns
    exact ⟨o, ho, tk, no⟩
  · obtain ⟨oL, _, _, hoL, _⟩ := S₂.ns
    intro q; rw [q, hoL] at hn; cases hn
  · intro p hp q
    rcases u₃.mem' p hp with rfl | hp
    · exact hne q.symm
    · obtain ⟨ob, hob⟩ := (S₂.mem.trk p hp).1.there
      rw [q, hn] at hob; cases hob
end
theorem gl_Exception {w : World} {b : Heap} (hB : Base w b) : Gl b "Exception" (.type "Exception") := hB.gb rfl rfl (by decide)
theorem gl_Corrupt {w : World} {b : Heap} (hB : Base w b) : Gl b "Corrupt" (.ref 44) := hB.gl rfl

theorem init_fn {w : World} {b : Heap} (hB : Base w b) (a : Addr) (x : Str) : Fn thePy w b 1 NoZ (.ref 28) [.ref a, .str x] [(a, .raw exc0)] (fun v σ' => v = .none ∧ ∃ dx, σ' = [(dx, .raw (whyIs x)), (a, .raw (exc1 dx))]) := by
  refine fn_quiet (xs := ["self", "why"]) (hB.kx 28 _ rfl) rfl hB.nolimit (codeRec_of hB.kx rfl) (len2 fun v u => rfl) rfl (by decide) (by decide) (by decide) ?_
  intro A kp B outer os L C hC ok
  subst hC
  simp only [List.zip_cons_cons, List.zip_nil_right]
  refine X_cons (X_expr (E_excInit (v := .str x) hB.kx (gl_Exception hB) .here ?_))
  refine EL_cons (E_nm (lkq_here (EL_cons (E_nm (lkq_there (by kernel_rfl) (lkq_here (EL_nil ⟨rfl, rfl, rfl, ?_⟩))))))) 
  refine X_cons (X_setWhy (x := x) hB.kx (.head _) ?_)
  refine E_nm (lkq_there (by kernel_rfl) (lkq_here ⟨rfl, E_nm (lkq_here ⟨rfl, rfl, fun dx σ₃ u => X_nil ⟨by trivial, dx, ?_⟩⟩)⟩))
  cases u with
  | here => rfl
  | there u => nomatch u

theorem kfCall (P : Params) : specialIn (KK P) (.ref 44) "__call__" = some (some (.builtin "type.__call__")) := by kernel_rfl
theorem exc_new {P : Params} {prog : Program} {w : World} {A : Around} {h : Heap} {g : Array GenState} {d : Drawn} {t : Nat} {os : OsState} {R : Result → Shared → Prop} (X : (KK P).In h) {rest : List Value} (hr : rest.length ≤ sizeLine)
    (hq : R (.ok (.ret (.ref (h.objs.size + 1)))) ⟨(h.push { cls := .type "tuple", data := .seq rest.toArray }).push (excObj h.objs.size none), g, d, t, os⟩) :
    codeAny (model prog w) A (.call (.builtin "Exception.__new__") ⟨.ref 44 :: rest, []⟩) R ⟨h, g, d, t, os⟩ := by
  have F := PySem.F.excBase_Exception
  obtain ⟨nm, q, bs, hdct, sn, sub, ab, col, dd, k0, k1, k2, k3, k5, hC⟩ := clsObj X
  have hcB : (Value.ref 44 :: bmC).contains (.type "Exception") = true := by decide
  have hcA : (Value.ref 44 :: bmC).contains (.type "AttributeError") = false := by decide
  have hcN : (Value.ref 44 :: bmC).contains (.type "NameError") = false := by decide
  have chk : ∀ (A : Around) (Q : Unit → Shared → Prop) (E : Value → Shared → Prop), Q () ⟨h, g, d, t, os⟩ → wpAny (model prog w) A (checkBuiltinCall "Exception.__new__" ⟨.ref 44 :: rest, []⟩) Q E ⟨h, g, d, t, os⟩ := by
    intro A Q E hq
    have hstar := F.noStar
    simp only [checkBuiltinCall, F.newKind, F.newSplit, F.newRow]
    repeat (first | refine wpAny_loadPart_at hC ?_ | (refine wpAny_isSubtype_exc hC ?_; rw [hcB]) | refine wpAny_staticBase_exc hC ?_ | refine wpAny_madeBy_exc hC ?_ | simp only [bne_self_eq_false, Bool.false_eq_true, if_false] | wp_step)
    exact hq
  refine codeAny_call_builtin_code (Code.quiet_builtin _ F.quiet) (chk _ _ _ ?_)
  have hends := F.ends
  refine codeAny_builtinAt F.entry ?_
  unfold Builtin.«BaseException.__new__»
  refine PySem.wpAt_bind ?_
  show PySem.wpAt _ _ _ (stack >>= _) _ _ _
  refine PySem.wpAt_bind (PySem.wpAt_stack fun p below => PySem.wpAt_of_wpAny ?_)
  wp_walk
  refine PySem.wpAt_of_wpAny ?_
  rw [F.owner]
  repeat (first | with_reducible refine wpAny_madeHere_exc F.canon hC ?_ | with_reducible refine wpAny_loadPart_at hC ?_ | (with_reducible refine wpAny_isSubtype_exc hC ?_; first | rw [hcB] | rw [hcA] | rw [hcN]) | wp_step)
  show R _ _
  rw [Heap.size_push]
  exact hq
end

-- R4
section
set_option Elab.async false
set_option maxRecDepth 100000
set_option maxHeartbeats 4000000
set_option linter.all false
local macro_rules | `(tactic| omega) => `(tactic| lia)
open PySem PySem.W PySem.Calls PyProof.Rows PySem.Spec Builtin Builtin.ObjectAttr

theorem tcCode (rest : List Value) : (Code.builtin "type.__call__" ⟨.ref 44 :: rest, []⟩).weight = 1 ∧ (Code.builtin "type.__call__" ⟨.ref 44 :: rest, []⟩).envs = [] ∧ (Code.builtin "type.__call__" ⟨.ref 44 :: rest, []⟩).guards = [] ∧ (Code.builtin "type.__call__" ⟨.ref 44 :: rest, []⟩).cUnits = 1 :=
  ⟨by kernel_rfl, by kernel_rfl, by kernel_rfl, by kernel_rfl⟩
theorem room_tc {r : Nat} {A : Around} {rest : List Value} (h : Room (r + 1) A) : Room r (A.under (.builtin "type.__call__" ⟨.ref 44 :: rest, []⟩)) := by
  obtain ⟨h1, h2, h3, h4⟩ := tcCode rest
  refine ⟨h.hh, ?_, ?_, ?_⟩
  · have := h.depth; show A.depth + (Code.builtin "type.__call__" _).weight + r < _; rw [h1]; omega
  · have := h.units; show A.units + (Code.builtin "type.__call__" _).cUnits + 4 * r + 20 < _; rw [h4]; omega
  · unfold Around.under; rw [h3]; exact h.gs
theorem frames_tc {A : Around} {rest : List Value} {l : List Env} (h : A.frames = some l) : (A.under (.builtin "type.__call__" ⟨.ref 44 :: rest, []⟩)).frames = some l := by
  unfold Around.under; rw [(tcCode rest).2.1]; exact h
theorem V_corrupt {C : Act} {r : Nat} {B : Heap} {outer : List Env} {σ : Sto} {Q : AV → Sto → Prop} {x : Str} (hp : C.prog = thePy) (hB : Base C.w C.b) (ok : C.Ok r B outer) (hr : 2 ≤ r)
    (h : ∀ e dx, Q (.ref e) ((dx, .raw (whyIs x)) :: (e, .raw (exc1 dx)) :: σ)) : CallV C (.ref 44) [.str x] σ Q := fun fz vs i m s S => by
  cases i using Iss.elimC with
  | cons _ _ _ _ i1 i2 =>
  (first | obtain ⟨_, rfl⟩ := Is.intE i2 | obtain ⟨_, rfl⟩ := Is.bytesE i2 | obtain rfl := Is.refE i2 | obtain rfl := Is.boolE i2 | obtain rfl := Iss.nilE i2 | obtain rfl := Is.noneE i2 | obtain ⟨_, rfl⟩ := Is.strE i2 | cases i2)
  cases i1 with
  | str _ tk =>
  have X := kk_at hB.kx S
  obtain ⟨nm, q, bs, hdct, sn, sub, ab, col, dd, k0, k1, k2, k3, k5, hC⟩ := clsObj X
  have hcl : Looks C.M s.heap (specialOf (.ref 44) "__call__") (some (.builtin "type.__call__")) := looks_specialIn X (kfCall _)
  refine wpG_call (codeG_of_tree rfl ?_)
  show wpG _ _ (callAny (.ref 44) _) _ _ _
  refine wpG_bind (.of (wpAny_load hC ?_))
  show wpG _ _ (callAny.viaDunder (.ref 44) _) _ _ _
  unfold callAny.viaDunder
  refine wpG_bind (.of (hcl.here ?_))
  dsimp only
  rw [tc_bind]
  refine wpG_bind (wpG_pure (wpG_bind (wpG_pure ?_)))
  refine wpG_pure (a := Fin.again (.call (.builtin "type.__call__") ⟨[.ref 44, .str x tk], []⟩)) (And.intro rfl ?_)
  refine codeG_of_tree rfl ?_
  show wpG _ _ (do checkBuiltinCall "type.__call__" ⟨[.ref 44, .str x tk], []⟩; again (.builtin "type.__call__" ⟨[.ref 44, .str x tk], []⟩)) _ _ s
  obtain ⟨hh, g, d, t, os⟩ := s
  refine wpG_bind (.of (wpAny_check_type_call_sub hC ?_))
  refine wpG_pure (And.intro (Code.quiet_builtin _ (by decide +kernel)) (BA.codeG_builtin entry_typeCall (by decide +kernel) ?_))
  unfold Builtin.«type.__call__»
  dsimp only
  rw [if_neg (by decide)]
  refine wpG_bind (.of (wpAny_mroOf_exc hC ?_))
  rw [if_neg (by decide)]
  refine wpG_bind (.of (wpAny_madeBy_exc hC ?_))
  dsimp only
  refine wpG_bind (wpG_pure ?_)
  refine wpG_bind (wpG_holding (wpG_call (.of (exc_new X (by simp [sizeLine_eq]) ?_))))
  have S₁ := S.new_frozen (o := { cls := .type "tuple", data := .seq [Value.str x tk].toArray }) rfl t
  obtain ⟨S₁, x₁, g₁⟩ := S₁
  have S₂ := S₁.new_tracked (o := excObj hh.objs.size none) (ao := .raw exc0) rfl t fun h' e => ⟨_, e, _, rfl⟩
  generalize hfz : addTo fz (hh.push { cls := .type "tuple", data := .seq [Value.str x tk].toArray }) hh.objs.size = fz₁ at *
  have S₃ : St C fz₁ m ((hh.objs.size + 1, .raw exc0) :: σ) ⟨(hh.push { cls := .type "tuple", data := .seq [Value.str x tk].toArray }).push (excObj hh.objs.size none), g, d, t, os⟩ := by
    have := S₂
    dsimp only at this
    rw [Heap.size_push] at this
    exact this
  have X₃ := kk_at hB.kx S₃
  have he : ((hh.push { cls := .type "tuple", data := .seq [Value.str x tk].toArray }).push (excObj hh.objs.size none)).get? (hh.objs.size + 1) = some (excObj hh.objs.size none) := Heap.get?_push_at (by rw [Heap.size_push]) rfl
  refine wpG_bind (.of ((kk_sub X₃ (T := .ref 44) (by decide) he rfl).at ?_))
  rw [if_neg (by decide)]
  have ty : Looks C.M ((hh.push { cls := .type "tuple", data := .seq [Value.str x tk].toArray }).push (excObj hh.objs.size none)) (typeOf (.ref (hh.objs.size + 1))) (.ref 44) := (Looks.ld he).andThen .now
  refine wpG_bind (wpG_holding ?_)
  unfold callSpecial?
  refine wpG_bind (.of ((ty.andThen (looks_findIn X₃ (kf4 _))).at ?_))
  refine wpG_holding (wpG_bind (.of ((bind_fn X₃ _ (kf6 _)).at ?_)))
  let C' : Act := ⟨C.prog, C.w, C.A.under (.builtin "type.__call__" ⟨[.ref 44, .str x tk], []⟩), C.env, C.b, C.kp, C.os, fun _ _ => False⟩
  obtain ⟨r, rfl⟩ : ∃ k, r = k + 1 := ⟨r - 1, by omega⟩
  have ok' : C'.Ok r B outer := ⟨room_tc ok.room, frames_tc ok.fr, ok.kf, ok.Bk, ok.BB, ok.kind, ok.frame, ok.globs, ok.bltns⟩
  have S₄ : St C' fz₁ m ((hh.objs.size + 1, .raw exc0) :: σ) ⟨(hh.push { cls := .type "tuple", data := .seq [Value.str x tk].toArray }).push (excObj hh.objs.size none), g, d, t, os⟩ := ⟨S₃.mem, S₃.ns, S₃.Lfz, S₃.Lkp, S₃.Lσ⟩
  have cv : CallV C' (.ref 28) [.ref (hh.objs.size + 1), .str x] ((hh.objs.size + 1, .raw exc0) :: σ) (fun v σ' => v = .none ∧ ∃ dx, σ' = (dx, .raw (whyIs x)) :: (hh.objs.size + 1, .raw (exc1 dx)) :: σ) := by
    refine V_defL (r := 1) (by have := init_fn hB (hh.objs.size + 1) x; rw [← hp] at this; exact this) ok' (by omega) (.left (Split.none σ)) fun v σ' hv => ?_
    obtain ⟨rfl, dx, rfl⟩ := hv
    exact ⟨rfl, dx, rfl⟩
  have run := cv fz₁ [.ref (hh.objs.size + 1), .str x tk] (.cons _ _ _ _ (.ref _) (.cons _ _ _ _ (.str _ _) .nil)) m _ S₄
  refine wpG_bind (wpG_mono run (fun v s' hv => ?_) fun _ _ q => q.elim)
  obtain ⟨fz', av, σ', x₄, S₅, i₅, rfl, dx, rfl⟩ := hv
  (first | obtain ⟨_, rfl⟩ := Is.intE i₅ | obtain ⟨_, rfl⟩ := Is.bytesE i₅ | obtain rfl := Is.refE i₅ | obtain rfl := Is.boolE i₅ | obtain rfl := Iss.nilE i₅ | obtain rfl := Is.noneE i₅ | obtain ⟨_, rfl⟩ := Is.strE i₅ | cases i₅)
  refine wpG_pure ?_
  dsimp only
  rw [if_neg (by decide)]
  refine wpG_pure ?_
  exact ⟨fz', .ref _, _, x₁.trans x₄, ⟨S₅.mem, S₅.ns, S₅.Lfz, S₅.Lkp, S₅.Lσ⟩, .ref _, h _ _⟩
end

-- R5
section
set_option Elab.async false
set_option maxRecDepth 100000
set_option maxHeartbeats 4000000
set_option linter.all false
open PySem PySem.W PySem.Calls PyProof.Rows PySem.Spec Builtin Builtin.ObjectAttr

theorem E_callCls {C : Act} {ρ : Loc} {σ : Sto} {Q : AV → Sto → Prop} {es : List Expr} {np pos : Pos} (hB : Base C.w C.b) (h : EvL C es ρ σ fun avs σ₁ => CallV C (.ref 44) avs σ₁ Q)
    (ht : backTo pos (starEach es C.env) = es.map (fun e => (false, eval e C.env)) := by kernel_rfl) (e1 : C.env.globals = mainGlobals := by kernel_rfl) (e2 : C.env.builtins = builtinsNs := by kernel_rfl)
    (hk : C.env.scope.kind = .function := by kernel_rfl) (hx : C.env.kindOf "Corrupt" = some .globalImplicit := by kernel_rfl) : Ev C (.Call (.Name "Corrupt" np) es [] pos) ρ σ Q := fun fz m s S P => by
  refine G_Call_ofName (name_global (gl_Corrupt hB) S ?_ e1 e2 hk hx)
  unfold callWith
  refine wpG_bind (wpG_holding (wpG_mono (evalArgs_list ht (P' := fun a s' => a.kw = [] ∧ EvAt C (call (.ref 44) a.pos) fz m s' Q ∧ (KK C.w.params).In s'.heap) (wpG_mono (h fz m s S P) (fun vs s₁ h₁ => ?_) fun _ _ x => x)) (fun a s₁ h₁ => wpG_bind (wpG_standAt ?_)) fun _ _ x => x))
  · obtain ⟨fz₁, avs, σ₁, x₁, S₁, i₁, h₁⟩ := h₁
    exact ⟨rfl, (h₁ fz₁ vs i₁ m s₁ S₁).ext x₁, kk_at hB.kx S₁⟩
  · obtain ⟨pos', kw⟩ := a
    obtain ⟨hkw, hc, X⟩ := h₁
    dsimp only at hkw hc
    subst hkw
    obtain ⟨nm, q, bs, hdct, sn, sub, ab, col, dd, k0, k1, k2, k3, k5, hC⟩ := clsObj X
    obtain ⟨hh, g, d, t, os⟩ := s₁
    simp only [plain_any ht, List.any_nil, Bool.or_false]
    refine wpG_bind (.of (wpAny_keeperOf_exc hC ?_))
    exact G_callTail hc

theorem raise_exc {M : Model} {A : Around} {E : Value → Shared → Prop} {s : Shared} {env : Env} {P : Params} {x : Sem Value} {Q : Flow → Shared → Prop} (hh : A.handled = none)
    (h : wpG M A x (fun v s₁ => ∃ a dx t, v = .ref a ∧ (KK P).In s₁.heap ∧ s₁.heap.get? a = some (excObj t (some dx)) ∧ E (.ref a) s₁) E s) : wpG M A (raiseStmt env (some x) none) Q E s := by
  unfold raiseStmt
  refine wpG_bind (wpG_mono h (fun v s₁ h₁ => ?_) fun _ _ x => x)
  obtain ⟨a, dx, t, rfl, X, he, hE⟩ := h₁
  obtain ⟨nm, q, bs, hdct, sn, sub, ab, col, dd, k0, k1, k2, k3, k5, hC⟩ := clsObj X
  have hcB : (Value.ref 44 :: bmC).contains (.type "BaseException") = true := by decide
  obtain ⟨hp, g, d, tk, os⟩ := s₁
  refine .of ?_
  repeat (first | with_reducible refine wpAny_loadPart_at he ?_ | with_reducible refine wpAny_loadPart_at hC ?_ | (with_reducible refine wpAny_isSubtype_exc hC ?_; rw [hcB]) | wp_step)
  exact wpAny_raiseNew_none hh hE

theorem X_raise {C : Act} {ρ : Loc} {σ : Sto} {Q : Loc → Sto → Prop} {R : AV → Sto → Prop} {r : Nat} {B : Heap} {outer : List Env} {x : Str} {np cpos pos sp : Pos} {k : Nat} (hp : C.prog = thePy) (hB : Base C.w C.b) (ok : C.Ok r B outer) (hr : 2 ≤ r)
    (hE : ∀ e s', Thr false C.kp B (C.env :: outer) C.os x e s' → C.E e s')
    (ht : backTo cpos (starEach [.Constant (.str x) k sp] C.env) = [Expr.Constant (.str x) k sp].map (fun e => (false, eval e C.env)) := by kernel_rfl) (e1 : C.env.globals = mainGlobals := by kernel_rfl) (e2 : C.env.builtins = builtinsNs := by kernel_rfl)
    (hk : C.env.scope.kind = .function := by kernel_rfl) (hx : C.env.kindOf "Corrupt" = some .globalImplicit := by kernel_rfl) : Ex C (.Raise (some (.Call (.Name "Corrupt" np) [.Constant (.str x) k sp] [] cpos)) none pos) ρ σ Q R := fun fz m s S P => by
  rw [arm_exec_Raise]
  have ev : Ev C (.Call (.Name "Corrupt" np) [.Constant (.str x) k sp] [] cpos) ρ σ (fun v σ' => ∃ e dx, v = .ref e ∧ σ' = (dx, .raw (whyIs x)) :: (e, .raw (exc1 dx)) :: σ) :=
    E_callCls hB (EL_cons (E_str (EL_nil (V_corrupt hp hB ok hr fun e dx => ⟨e, dx, rfl, rfl⟩)))) ht e1 e2 hk hx
  refine wpG_bind (wpG_standAt ?_)
  show wpG _ _ (raiseStmt C.env (some (do let v ← eval (.Call (.Name "Corrupt" np) [.Constant (.str x) k sp] [] cpos) C.env; standAt pos; pure v)) none) _ _ _
  refine raise_exc (P := C.w.params) ok.hh (wpG_bind (wpG_mono (ev fz m _ S P) (fun v s₁ h₁ => wpG_bind (wpG_standAt (wpG_pure ?_))) fun _ _ x => x))
  obtain ⟨fz₁, av, σ₁, x₁, S₁, i₁, e, dx, rfl, rfl⟩ := h₁
  cases i₁
  obtain ⟨oe, hoe, t, rfl⟩ := (S₁.mem.trk _ (.tail _ (.head _))).1
  obtain ⟨od, hod, tk, hw⟩ := (S₁.mem.trk _ (.head _)).1
  have hkpe := And.intro (S₁.mem.trk _ (.tail _ (.head _))).2.2 (S₁.mem.trk _ (.head _)).2.2
  refine ⟨e, dx, t, rfl, kk_at hB.kx S₁, hoe, hE _ _ ⟨e, dx, tk, _, _, rfl, hkpe, hoe, by simp, ns_obj.mpr ⟨od, hod, hw⟩, .inr ⟨rfl, by simp⟩, ?_, fun b o hb _ => S₁.mem.kph b o hb, fun b o hb => ⟨o.slots, S₁.mem.kph b o hb⟩, ok.BB, S₁.mem.gens, S₁.mem.os⟩⟩
  obtain ⟨oL, es, ep, hoL, hdL, _⟩ := S₁.ns
  refine ⟨by rw [ok.kind]; decide, ⟨C.env.locals, oL, ok.frame, ?_, hoL, fun vs q => by rw [hdL] at q; cases q⟩, ok.kf.of_keeps fun b o hb _ => ⟨o, S₁.mem.kph b o hb, rfl⟩⟩
  cases q : B.get? C.env.locals with
  | none => rfl
  | some o => have := ok.BB _ _ q; rw [ok.Bk] at this; cases this

/-- how a function raises Corrupt -/
noncomputable def ZT (W : Str → Prop) : Around → Heap → Heap → List Env → OsState → Value → Shared → Prop := fun _ kp B outer os e s => ∃ x, W x ∧ Thr true kp B outer os x e s
noncomputable def EThr (W : Str → Prop) (kp B : Heap) (outer : List Env) (os : OsState) (L : Addr) (env : Env) (e : Value) (s : Shared) : Prop := kp.get? L = none ∧ ∃ x, W x ∧ Thr false kp B (env :: outer) os x e s
theorem Thr.narrow {tr : Bool} {kp kp' B : Heap} {l : List Env} {os : OsState} {x : Str} {e : Value} {s : Shared} (k : kp.StaysIn kp') (hB : B.StaysIn kp) (h : Thr tr kp' B l os x e s) : Thr tr kp B l os x e s := by
  have no : ∀ b, kp'.get? b = none → kp.get? b = none := fun b hb => by
    cases q : kp.get? b with
    | none => rfl
    | some o => have := k _ _ q; rw [hb] at this; cases this
  obtain ⟨a, dx, tk, sl, vs, h1, h2, h3, h4, h5, h6, h7, h8, h9, h10, h11⟩ := h
  exact ⟨a, dx, tk, sl, vs, h1, ⟨no _ h2.1, no _ h2.2⟩, h3, h4, h5, h6.imp (fun ⟨T, oT, ts, fl, q1, q2, q3⟩ => ⟨T, oT, ts, fl, q1, no _ q2, q3⟩) id, h7, fun b o hb => h8 b o (k b o hb), fun b o hb => h9 b o (k b o hb), hB, h11⟩

/-- a contract of a function that may raise -/
theorem fn_raise {prog : Program} {w : World} {b : Heap} {r : Nat} {W : Str → Prop} {a : Addr} {o : Obj} {name qual : Str} {params : Arguments} {body : List Stmt} {scope : Scope} {dV kV doc pm cdv ct : Value} {an : Option Addr} {avs : List AV} {σ : Sto} {R : AV → Sto → Prop} {xs : List Str}
    (ho : b.get? a = some o) (hd : o.data = .func (fnX name qual params body scope [] dV kV doc pm an cdv ct)) (hlim : b.NoLimit) (hcd : b.CodeRec cdv qual)
    (hbind : ∀ vs : List Value, vs.length = xs.length → bindArgs (fnX name qual params body scope [] dV kV doc pm an cdv ct) ⟨vs, []⟩ = pure (xs.zip vs)) (hlen : avs.length = xs.length)
    (hloc : ∀ x ∈ xs, scope.names.lookup x = some .local) (hnd : xs.Nodup) (hcell : ∀ x ∈ scope.names, x.2 ≠ .cell)
    (h : ∀ (A : Around) (kp B : Heap) (outer : List Env) (os : OsState) (L : Addr) (C : Act), C = ⟨prog, w, A.deeper (envX qual scope L a cdv []), envX qual scope L a cdv [], b, kp, os, EThr W kp B outer os L (envX qual scope L a cdv [])⟩ → C.Ok r B outer → Exs C body (xs.zip avs) σ (fun _ σ' => R .none σ') R)
    (hco : scope.isCoroutine = false := by kernel_rfl) (hgen : scope.isGenerator = false := by kernel_rfl) (hk : scope.kind = .function := by kernel_rfl) : Fn prog w b (r + 1) (ZT W) (.ref a) avs σ R :=
  fn_intro ho hd hlim hcd hbind hlen hloc hnd hcell (fun _ kp B outer os L e s => EThr W kp B outer os L (envX qual scope L a cdv []) e s) h (fun A kp B outer os L e s' room bel hBL hE => by
    obtain ⟨hL, x, hW, t⟩ := hE
    exact .of (leaving_any (by show A.frames.map _ = _; rw [bel.fr]; rfl) rfl hL t fun s'' t'' => ⟨x, hW, t''⟩)) hco hgen hk
/-- what a called function raises is raised here -/
theorem V_raises {C : Act} {σ σp σr : Sto} {Q : AV → Sto → Prop} {r r' : Nat} {B : Heap} {outer : List Env} {f : Value} {avs : List AV} {W : Str → Prop} {R : AV → Sto → Prop} (hF : Fn C.prog C.w C.b r (ZT W) f avs σp R) (ok : C.Ok r' B outer) (hr : r ≤ r') (sp : Split σp σr σ)
    (hE : ∀ x, W x → ∀ e s', Thr false C.kp B (C.env :: outer) C.os x e s' → C.E e s') (hq : ∀ v σ', R v σ' → Q v (σ' ++ σr)) : CallV C f avs σ Q :=
  CallV_fn hF ⟨ok.room.less hr, ok.fr, ok.kf, ok.Bk, ok.BB, ok.kind, ok.frame, ok.globs, ok.bltns⟩ sp hq fun fz m s e s' S hz => by
    obtain ⟨x, hW, t⟩ := hz
    refine hE x hW e s' (Thr.weak (t.narrow (fun b o hb => hideAll_get _ (S.mem.kph b o hb) fun hm => ?_) ok.BB))
    obtain ⟨p, hp, e⟩ := List.mem_map.mp hm
    have := (S.mem.trk p (sp.l p hp)).2.2
    rw [e, hb] at this; cases this
/-- what flies through a loop -/
theorem flies {C : Act} {r : Nat} {B : Heap} {outer : List Env} {W : Str → Prop} {L : Addr} (ok : C.Ok r B outer) (hL : L = C.env.locals) (hE : C.E = EThr W C.kp B outer C.os L C.env) : C.Flies := fun e s h => by
  rw [hE] at h ⊢
  obtain ⟨h0, x, hW, t⟩ := h
  refine .of (note_any ok.fr ok.frame t fun s' t' => ?_)
  have t2 := t'
  obtain ⟨a, dx, tk, sl, vs, rfl, hka, ha, hsz, hdx, ⟨T, oT, ts, fl, h1, hkT, hTa, hT, hdT, h3⟩ | ⟨q, _⟩, r⟩ := t2
  · refine wpG_bind (.of (wpAny_field ha rfl h1 ?_))
    rw [if_neg (by simp)]
    exact .of (flight_any t' fun s'' t'' => ⟨h0, x, hW, t''.weak⟩)
  · cases q
end

-- V6
section
theorem copyP_succ (back : Nat) : ∀ (n : Nat) (l : List UInt8), copyP back (n + 1) l = copyP back n l ++ [(copyP back n l).getD ((copyP back n l).length - back) 0]
  | 0, l => rfl
  | n + 1, l => by
    rw [copyP, copyP_succ back n]; rfl
theorem length_in_fn {w : World} {b : Heap} (hB : Base w b) (f : List UInt8) (i told : Nat) (hf : f.length ≤ 100000) :
    Fn thePy w b 3 (ZT fun x => x = "too short" ∧ lenP f i told = none) (.ref 109) [.bytes f, .int i, .int told] [] (fun v σ' => σ' = [] ∧ ∃ p, lenP f i told = some p ∧ v = .tup [.int p.1, .int p.2]) := by
  refine fn_raise (xs := ["octets", "at", "told"]) (hB.kx 109 _ rfl) rfl hB.nolimit (codeRec_of hB.kx rfl) (len3 fun v u x => rfl) rfl (by decide) (by decide) (by decide) ?_
  intro A kp B outer os L C hC ok
  subst hC
  simp only [List.zip_cons_cons, List.zip_nil_right]
  have hz : f.length ≤ sizeLine := by rw [sizeLine_eq]; omega
  walk_at "evs"
  refine ⟨fun e => ?_, fun e => X_nil ?_⟩
  · have e := of_decide_eq_true e
    walk_at "evs"
    refine ⟨Nat.le_of_ble_eq_true rfl, rfl, (told, i), ?_, rfl⟩
    rw [lenP, if_pos (by omega)]
  · have e := of_decide_eq_false e
    have hh : ¬ told < 15 := by omega
    walk_at "evs"
    refine X_while (flies ok rfl rfl) (fun k ρ' σ' => ∃ j : Nat, ρ' = ([("at", .int (i + j : Nat)), ("length", .int (15 + 255 * j : Nat)), ("octets", .bytes f)] : Loc) ∧ σ' = [] ∧ k = f.length - (i + j) ∧ lenP f i told = (scan (f.drop (i + j))).map fun p => (15 + 255 * j + p.1, i + j + p.2)) ?_ (f.length - (i + 0)) (ρ₀ := [("at", .int (i + 0 : Nat)), ("length", .int (15 + 255 * 0 : Nat)), ("octets", .bytes f)]) ?_ ⟨0, rfl, rfl, rfl, ?_⟩
    · rintro k ρ' σ' ⟨j, rfl, rfl, rfl, hj⟩
      walk_at "evs"
      refine V_len_bytes hz ?_
      walk_at "evs"
      refine ⟨fun h => ?_, fun h => ?_⟩
      · have h := of_decide_eq_true h
        walk_at "evs"
        refine I_bytesN (i + j) hz rfl (by omega) ?_
        walk_at "evs"
        refine I_bytesN (i + j) hz (by omega) (by omega) ?_
        walk_at "evs"
        have ho := oc_lt f (i + j)
        refine ⟨fun h2 => ?_, fun h2 => ?_⟩
        · have h2 := of_decide_eq_true h2
          have hs := scan_last (f := f) (e := i + j) (by omega) (fun q => by have := oc_255.mpr q; omega)
          rw [hs] at hj
          walk_at "evs"
          refine ⟨Nat.le_of_ble_eq_true rfl, rfl, _, hj, ?_⟩
          simp only
          congr 3
        · have h2 := of_decide_eq_false h2
          refine X_nil (X_nil ⟨f.length - (i + (j + 1)), by omega, _, ?_, j + 1, rfl, rfl, rfl, ?_⟩)
          · walk_at "sub"
          · rw [hj, scan_step (by omega) (oc_255.mp (by omega)), Option.map_map, show i + j + 1 = i + (j + 1) by omega]
            congr 1; funext p
            simp only [Function.comp]
            congr 1 <;> omega
      · have h := of_decide_eq_false h
        rw [scan_none (by omega)] at hj
        refine X_cons (X_raise rfl hB ok (by omega) fun e s' t => ⟨ok.Bk, _, ⟨rfl, hj⟩, t⟩)
    · walk_at "sub"
    · rw [lenP, if_neg hh]; simp

/-- what copy_in does -/
inductive CpRes where
  | ok (i : Nat) (l : List UInt8) | bad (why : String)
noncomputable def copyInP (f : List UInt8) (i told : Nat) (found : List UInt8) (size : Nat) : CpRes :=
  if f.length < i + 2 then .bad "too short" else match lenP f (i + 2) told with
  | none => .bad "too short"
  | some (l, i₂) =>
    if oc f i + 256 * oc f (i + 1) = 0 ∨ found.length < oc f i + 256 * oc f (i + 1) then .bad "a copy of nothing"
    else if size < found.length + (l + 4) then .bad "too long"
    else .ok i₂ (copyP (oc f i + 256 * oc f (i + 1)) (l + 4) found)
theorem copy_in_fn {w : World} {b : Heap} (hB : Base w b) (f : List UInt8) (i told : Nat) (a : Addr) (fd : List UInt8) (size : Nat) (hf : f.length ≤ 100000) (hsz : size ≤ 1000100) (hfd : fd.length ≤ size) :
    Fn thePy w b 4 (ZT fun x => ∃ y, copyInP f i told fd size = .bad y ∧ x = Str.ofString y) (.ref 116) [.bytes f, .int i, .int told, .ref a, .int size] [(a, .ba fd)] (fun v σ' => ∃ j l, copyInP f i told fd size = .ok j l ∧ v = .int j ∧ σ' = [(a, .ba l)]) := by
  refine fn_raise (xs := ["octets", "at", "told", "found", "size"]) (hB.kx 116 _ rfl) rfl hB.nolimit (codeRec_of hB.kx rfl) (len5 fun v u x y z => rfl) rfl (by decide) (by decide) (by decide) ?_
  intro A kp B outer os L C hC ok
  subst hC
  simp only [List.zip_cons_cons, List.zip_nil_right]
  have hz : f.length ≤ sizeLine := by rw [sizeLine_eq]; omega
  have hzd : fd.length ≤ sizeLine := by rw [sizeLine_eq]; omega
  walk_at "evs"
  refine V_len_bytes hz ?_
  walk_at "evs"
  refine ⟨fun h => X_cons (X_raise rfl hB ok (by omega) fun e s' t => ⟨ok.Bk, _, ⟨_, ?_, rfl⟩, t⟩), fun h => X_nil ?_⟩
  · rw [copyInP, if_pos (by have := of_decide_eq_true h; omega)]
  have h := of_decide_eq_false h
  walk_at "evs"
  refine I_bytesN i hz rfl (by omega) ?_
  walk_at "evs"
  refine I_bytesN (i + 1) hz (by omega) (by omega) ?_
  have ho := oc_lt f i
  have ho1 := oc_lt f (i + 1)
  walk_at "evs"
  refine B_shl (by decide) (by decide) (by omega) (B_or ?_)
  rw [show (2 : Int) ^ (8 : Int).toNat = 2 ^ 8 from rfl, orS (a := oc f i) (b := oc f (i + 1)) (k := 8) (by omega), show oc f i + oc f (i + 1) * 2 ^ 8 = oc f i + 256 * oc f (i + 1) by omega]
  generalize hbk : oc f i + 256 * oc f (i + 1) = back at *
  walk_at "evs"
  refine X_assignTup ["many", "at"] ok.hh ?_
  walk_at "evs"
  rw [show (i : Int) + 2 = ((i + 2 : Nat) : Int) by omega]
  refine V_raises (length_in_fn hB f (i + 2) told hf) ok (by decide) (Split.none _) (fun x hx e s' t => ⟨ok.Bk, x, ⟨"too short", ?_, hx.1⟩, t⟩) fun v σ' hv => ?_
  · rw [copyInP, if_neg (by omega), hx.2]
  obtain ⟨rfl, ⟨l, i₂⟩, hl, rfl⟩ := hv
  refine ⟨_, rfl, rfl, ?_⟩
  simp only [List.zip_cons_cons, List.zip_nil_right, List.reverse_cons, List.reverse_nil, List.nil_append, List.cons_append]
  walk_at "evs"
  have hcp : copyInP f i told fd size = if back = 0 ∨ fd.length < back then .bad "a copy of nothing" else if size < fd.length + (l + 4) then .bad "too long" else .ok i₂ (copyP back (l + 4) fd) := by
    rw [copyInP, if_neg (by omega), hl, hbk]
  rw [show (l : Int) + 4 = ((l + 4 : Nat) : Int) by omega]
  refine ⟨fun h5 => ⟨fun _ => X_cons (X_raise rfl hB ok (by omega) fun e s' t => ⟨ok.Bk, _, ⟨_, ?_, rfl⟩, t⟩), fun e => (nomatch e)⟩, fun h5 => ?_⟩
  · rw [hcp, if_pos (.inl (by have := of_decide_eq_false h5; omega))]
  have h5 := of_decide_eq_true h5
  walk_at "evs"
  refine V_len_ba (.head _) hzd ?_
  walk_at "evs"
  refine ⟨fun h6 => X_cons (X_raise rfl hB ok (by omega) fun e s' t => ⟨ok.Bk, _, ⟨_, ?_, rfl⟩, t⟩), fun h6 => X_nil ?_⟩
  · rw [hcp, if_pos (.inr (by simp at h6; omega))]
  have h6 : back ≤ fd.length := by simp at h6; omega
  rw [if_neg (by omega)] at hcp
  walk_at "evs"
  refine V_len_ba (.head _) hzd ?_
  walk_at "evs"
  refine ⟨fun h7 => X_cons (X_raise rfl hB ok (by omega) fun e s' t => ⟨ok.Bk, _, ⟨_, ?_, rfl⟩, t⟩), fun h7 => X_nil ?_⟩
  · rw [hcp, if_pos (by have := of_decide_eq_true h7; omega)]
  have h7 := of_decide_eq_false h7
  rw [if_neg (by omega)] at hcp
  refine X_cons (X_for (flies ok rfl rfl) ?_)
  walk_at "evs"
  refine V_range ?_
  refine ⟨_, fun t ρ' σ' => ρ' = ([("octets", .bytes f), ("at", .int i₂), ("found", .ref a), ("size", .int size), ("back", .int back)] : Loc) ∧ σ' = [(a, .ba (copyP back t fd))] ∧ t ≤ l + 4, It_rng ok.hh (by omega) (by omega), ⟨_, ?_, rfl, rfl, by omega⟩, ?_, ?_⟩
  · walk_at "sub"
  · rintro t ρ' σ' ai hai ⟨rfl, rfl, ht⟩
    have ht' := (upto_get hai).1
    refine ⟨_, Tg_name, fun it P hne => ?_⟩
    have hcl := copyP_len back t fd
    have hzc : (copyP back t fd).length ≤ sizeLine := by rw [sizeLine_eq]; omega
    refine X_cons (X_expr (E_method "bytearray.append" ?_))
    walk_at "evs"
    refine ⟨(K_ba (.tail _ (.head _))).1, ?_⟩
    walk_at "evs"
    refine V_len_ba (.tail _ (.head _)) hzc ?_
    walk_at "evs"
    have hlt : (copyP back t fd).length - back < (copyP back t fd).length := by omega
    refine I_ba (x := (copyP back t fd)[(copyP back t fd).length - back]) (.tail _ (.head _)) hzc (by omega) ?_ ?_
    · rw [show ((copyP back t fd).length : Int) - (back : Int) = (((copyP back t fd).length - back : Nat) : Int) by omega, Int.toNat_natCast, List.getElem?_eq_getElem hlt]
    walk_at "evs"
    have hb := UInt8.toNat_lt ((copyP back t fd)[(copyP back t fd).length - back])
    refine V_append_ba ok.room.gs (.there .here) (by omega) (by omega) (by rw [sizeLine_eq]; omega) ?_
    walk_at "evs"
    refine X_nil ⟨_, _, ?_, .here, rfl, ?_, by omega⟩
    · walk_at "sub"
    · rw [copyP_succ, Int.toNat_natCast]
      simp [List.getD_eq_getElem?_getD, hlt]
  · rintro ρ' σ' ⟨rfl, rfl, ht⟩
    rw [upto_len, Int.toNat_natCast]
    walk_at "evs"
    exact ⟨i₂, _, hcp, rfl, rfl⟩

theorem readP_step (f : List UInt8) (size : Nat) (n : Nat) (found : List UInt8) (c : List Cp) (e : List Nat) (i : Nat) (h : i < f.length) : (readP f size (n + 1) found c e i).1 = match lenP f (i + 1) (oc f i / 16) with
    | none => .bad "too short"
    | some (many, i₁) =>
      if size < found.length + many then .bad "too long"
      else if f.length < i₁ + many then .bad "too short"
      else if (found ++ sl f i₁ (i₁ + many)).length = size then .ok (found ++ sl f i₁ (i₁ + many))
      else match copyInP f (i₁ + many) (oc f i % 16) (found ++ sl f i₁ (i₁ + many)) size with
        | .bad y => .bad y
        | .ok j l => (readP f size n l (c ++ [((found ++ sl f i₁ (i₁ + many)).length, many, oc f (i₁ + many) + 256 * oc f (i₁ + many + 1), l.length - (found ++ sl f i₁ (i₁ + many)).length)]) (e ++ [(found ++ sl f i₁ (i₁ + many)).length]) j).1 := by
  rw [readP, if_neg (by omega)]
  cases lenP f (i + 1) (oc f i / 16) with
  | none => rfl
  | some p =>
    obtain ⟨many, i₁⟩ := p
    simp only
    split
    · rfl
    split
    · rfl
    split
    · rfl
    unfold copyInP
    split
    · rfl
    cases lenP f (i₁ + many + 2) (oc f i % 16) with
    | none => rfl
    | some q =>
      obtain ⟨l, i₂⟩ := q
      simp only
      split
      · rfl
      split
      · rfl
      simp only [copyP_len, Nat.add_sub_cancel_left]
theorem unpack_fn {w : World} {b : Heap} (hB : Base w b) (f : List UInt8) (size : Nat) (hf : f.length ≤ 100000) (hsz : size ≤ 1000100) :
    Fn thePy w b 6 (ZT fun x => ∃ y, (readW f size).1 = .bad y ∧ x = Str.ofString y) (.ref 123) [.bytes f, .int size] [] (fun v σ' => σ' = [] ∧ ∃ l, (readW f size).1 = .ok l ∧ v = .bytes l) := by
  refine Fn.drop (R := fun v σ' => ∃ l, (readW f size).1 = .ok l ∧ v = .bytes l) ?_ fun v σ' h => ⟨rfl, h⟩
  refine fn_raise (xs := ["octets", "size"]) (hB.kx 123 _ rfl) rfl hB.nolimit (codeRec_of hB.kx rfl) (len2 fun v u => rfl) rfl (by decide) (by decide) (by decide) ?_
  intro A kp B outer os L C hC ok
  subst hC
  simp only [List.zip_cons_cons, List.zip_nil_right]
  have hz : f.length ≤ sizeLine := by rw [sizeLine_eq]; omega
  refine X_cons (X_assignSwap (xs := ["found", "at"]) ok.hh ?_)
  walk_at "evs"
  refine V_bytearray ok.room.gs fun fa hfa => ?_
  walk_at "evs"
  refine ⟨Nat.le_of_ble_eq_true rfl, _, rfl, rfl, ?_⟩
  simp only [List.zip_cons_cons, List.zip_nil_right, List.nil_append, List.cons_append]
  refine X_cons (X_while (flies ok rfl rfl) (fun n ρ' σ' => ∃ (fd : List UInt8) (c : List Cp) (e : List Nat) (i : Nat), ρ' = ([("at", .int i), ("found", .ref fa), ("octets", .bytes f), ("size", .int size)] : Loc) ∧ σ' = [(fa, .ba fd)] ∧
      (readP f size n fd c e i).1 = (readW f size).1 ∧ f.length - i < n ∧ fd.length ≤ size) ?_ (f.length + 1) (ρ₀ := [("at", .int (0 : Nat)), ("found", .ref fa), ("octets", .bytes f), ("size", .int size)]) ?_
      ⟨[], [], [], 0, rfl, rfl, rfl, by omega, by simp⟩)
  · rintro n ρ' σ' ⟨fd, c, e, i, rfl, rfl, hgo, hn, hfl⟩
    obtain ⟨n, rfl⟩ : ∃ m, n = m + 1 := ⟨n - 1, by omega⟩
    have hfz : fd.length ≤ sizeLine := by rw [sizeLine_eq]; omega
    refine T_plain (E_bool (U_bool ⟨fun _ => ?_, fun e => (nomatch e)⟩))
    walk_at "evs"
    refine V_len_bytes hz ?_
    walk_at "evs"
    refine ⟨fun h => X_cons (X_raise rfl hB ok (by omega) fun e s' t => ⟨ok.Bk, _, ⟨"too short", ?_, rfl⟩, t⟩), fun h => X_nil ?_⟩
    · rw [← hgo, readP, if_pos (by have := of_decide_eq_true h; omega)]
    have h := of_decide_eq_false h
    rw [readP_step _ _ _ _ _ _ _ (by omega)] at hgo
    walk_at "evs"
    refine I_bytesN i hz rfl (by omega) ?_
    have hoc := oc_lt f i
    walk_at "evs"
    refine X_assignTup ["many", "at"] ok.hh ?_
    walk_at "evs"
    refine B_shr (by decide) ?_
    rw [show (2 : Int) ^ (4 : Int).toNat = ((16 : Nat) : Int) from rfl, fdivN, show (i : Int) + 1 = ((i + 1 : Nat) : Int) by omega]
    walk_at "evs"
    refine V_raises (length_in_fn hB f (i + 1) (oc f i / 16) hf) ok (by decide) (Split.none _) (fun x hx e s' t => ⟨ok.Bk, x, ⟨"too short", ?_, hx.1⟩, t⟩) fun v σ' hv => ?_
    · rw [← hgo, hx.2]
    obtain ⟨rfl, ⟨many, i₁⟩, hl, rfl⟩ := hv
    have hge := lenP_ge hl
    rw [hl] at hgo
    simp only at hgo hge
    refine ⟨_, rfl, rfl, ?_⟩
    simp only [List.zip_cons_cons, List.zip_nil_right, List.reverse_cons, List.reverse_nil, List.nil_append, List.cons_append]
    walk_at "evs"
    refine V_len_ba (.head _) hfz ?_
    walk_at "evs"
    refine ⟨fun h1 => X_cons (X_raise rfl hB ok (by omega) fun e s' t => ⟨ok.Bk, _, ⟨"too long", ?_, rfl⟩, t⟩), fun h1 => X_nil ?_⟩
    · rw [← hgo, if_pos (by have := of_decide_eq_true h1; omega)]
    have h1 := of_decide_eq_false h1
    rw [if_neg (by omega)] at hgo
    walk_at "evs"
    refine V_len_bytes hz ?_
    walk_at "evs"
    refine ⟨fun h2 => X_cons (X_raise rfl hB ok (by omega) fun e s' t => ⟨ok.Bk, _, ⟨"too short", ?_, rfl⟩, t⟩), fun h2 => X_nil ?_⟩
    · rw [← hgo, if_pos (by have := of_decide_eq_true h2; omega)]
    have h2 := of_decide_eq_false h2
    rw [if_neg (by omega)] at hgo
    have hsl := sl_len f i₁ (i₁ + many) (by omega)
    refine X_cons (X_expr (E_method "bytearray.extend" ?_))
    walk_at "evs"
    refine ⟨(K_ba (.head _)).2, ?_⟩
    walk_at "evs"
    refine ex_bytes hz ?_
    walk_at "evs"
    rw [show (i₁ : Int) + (many : Int) = ((i₁ + many : Nat) : Int) by omega, cut_sl f i₁ (i₁ + many) (by omega) (by omega)]
    refine V_extend_ba ok.room.gs .here (by rw [sizeLine_eq]; omega) ?_
    have hf₁ : (fd ++ sl f i₁ (i₁ + many)).length = fd.length + many := by rw [List.length_append]; omega
    generalize hfd : fd ++ sl f i₁ (i₁ + many) = fd₁ at *
    have hfz₁ : fd₁.length ≤ sizeLine := by rw [sizeLine_eq]; omega
    walk_at "evs"
    refine V_len_ba (.head _) hfz₁ ?_
    walk_at "evs"
    refine ⟨fun h3 => ?_, fun h3 => X_nil ?_⟩
    · have h3 := of_decide_eq_true h3
      rw [if_pos (by omega)] at hgo
      walk_at "evs"
      exact V_bytes_ba (.head _) hfz₁ ⟨_, hgo.symm, rfl⟩
    have h3 := of_decide_eq_false h3
    rw [if_neg (by omega)] at hgo
    walk_at "evs"
    rw [show (i₁ : Int) + (many : Int) = ((i₁ + many : Nat) : Int) by omega]
    generalize hj : i₁ + many = j at *
    walk_at "evs"
    refine B_and ?_
    rw [bitAnd_m4, show (oc f i : Int) % 16 = ((oc f i % 16 : Nat) : Int) by omega]
    walk_at "evs"
    refine V_raises (copy_in_fn hB f j (oc f i % 16) fa fd₁ size hf hsz (by omega)) ok (by decide) (.left .nil) (fun x hx e s' t => ⟨ok.Bk, x, ?_, t⟩) fun v σ' hv => ?_
    · obtain ⟨y, hy, rfl⟩ := hx
      exact ⟨y, by rw [← hgo, hy], rfl⟩
    obtain ⟨j₂, l, hcp, rfl, rfl⟩ := hv
    rw [hcp] at hgo
    simp only at hgo
    have hj2 : j < j₂ ∧ l.length ≤ size := by
      unfold copyInP at hcp
      split at hcp
      · cases hcp
      split at hcp
      · cases hcp
      rename_i hl2
      have := lenP_ge hl2
      split at hcp
      · cases hcp
      split at hcp
      · cases hcp
      cases hcp
      simp only at this
      rw [copyP_len]
      omega
    refine X_nil ⟨n, by omega, _, ?_, l, _, _, j₂, rfl, rfl, hgo, by omega, hj2.2⟩
    walk_at "sub"
  · walk_at "sub"
end

-- R6
section
open Builtin Builtin.ObjectAttr
section
variable {prog : Program} {w : World} {A : Around} {E : Value → Shared → Prop} {s : Shared} {env : Env}
theorem kfN (P : Params) : noGet (KK P) none = true ∧ hasDictIn (KK P) 44 = true := ⟨by kernel_rfl, by kernel_rfl⟩
theorem get_why {P : Params} (X : (KK P).In s.heap) {a dx : Addr} {vs : Array Value} {sl : Array (Option Value)} {v : Value} {m : Str → Option Value} {expr : Bool} {Q : Value → Shared → Prop} (ha : s.heap.get? a = some ⟨.ref 44, some dx, .fields vs, sl⟩) (hd : s.heap.Ns dx m) (hm : m "why" = some v) (hv : handedIn v = true)
    (h : Q v { s with toks := s.toks + 1 }) : wpAny (model prog w) A (getAttr (.ref a) "why" expr) Q E s := by
  have FB := PySem.F.attrBase_Exception
  obtain ⟨od, hod, es, ep, hde, hsk, hfind⟩ := ns_obj.mp hd
  have I : InstAt s.heap a ⟨.ref 44, some dx, .fields vs, sl⟩ 44 (some od) := ⟨ha, rfl, rfl, hod⟩
  have hl : lookIn "why" od = some (some v) := by
    have hf := hfind "why"
    rw [hm] at hf
    unfold nsFind findBy at hf
    unfold lookIn
    rw [hde]
    dsimp only
    rw [Array.find?_toList]
    cases q : es.find? (fun e => e.key.isStr "why") with
    | none => rw [q] at hf; cases hf
    | some e => rw [q] at hf; simp at hf; simp [hf]
  have fo := findObj_own (name := "why") (kfN P).2 (kf5 P) (kfN P).1 hl
  obtain ⟨hh, g, d, t, os⟩ := s
  dsimp only at X ha hod I
  have ty : Looks (model prog w) hh (typeOf (.ref a)) (.ref 44) := I.type
  unfold getAttr getAttrBy
  refine wpAny_bind (wpAny_mkText (wpAny_holding (wpAny_bind (ty.at (wpAny_bind ((looks_findIn X (kf2 P)).at ?_))))))
  dsimp only
  rw [show (onTheHeap (Value.ref 44) && Value.builtin "BaseException.__getattribute__" == Value.builtin "object.__getattribute__") = false from by rw [show (Value.builtin "BaseException.__getattribute__" == Value.builtin "object.__getattribute__") = false from by decide +kernel]; rfl, if_neg (by decide)]
  unfold getAttrByItsOwn
  refine wpAny_bind (m := hookBefore (.ref 44)) ((looks_findIn X (kf3 P)).at ?_)
  refine wpAny_bind (wpAny_attempt (wpAny_holding ?_))
  unfold callGetattribute
  rw [show (expr && onTheHeap (Value.builtin "BaseException.__getattribute__")) = false from by cases expr <;> rfl, if_neg (by decide)]
  unfold boundAndCalled
  rw [FB.ga.bind]
  refine wpAny_bind (wpAny_pure ?_)
  have hk : builtinKind "BaseException.__getattribute__" = some .slot := by decide +kernel
  have hsplit : splitId "BaseException.__getattribute__" = some ("BaseException", "__getattribute__") := by decide +kernel
  have sub := kk_sub (M := model prog w) X (T := .type "BaseException") (by decide) ha rfl
  refine wpAny_call (codeAny_call_builtin FB.ga.plain PySem.F.entry_bexc_ga ?_)
  refine @check_slot (model prog w) _ _ ⟨hh, g, d, t + 1, os⟩ "BaseException.__getattribute__" "BaseException" "__getattribute__" (.ref a) [.str "why" t] [] _ hk hsplit sub (PySem.F.args_bexc_ga _ _) ?_
  have L1 := looks_find (M := model prog w) X I fo
  unfold Builtin.«object.__getattribute__»
  refine wpAny_bind (wpAny_pure (wpAny_bind (wpAny_pure (wpAny_bind (ty.at (wpAny_bind (L1.at ?_)))))))
  refine wpAny_pure ?_
  dsimp only
  rw [handedOut_of hv]
  exact wpAny_pure h
theorem G_Try_except {body orelse : List Stmt} {h₀ : ExceptHandler} {hs : List ExceptHandler} {pos : Pos} {Q : Flow → Shared → Prop} {E₁ : Value → Shared → Prop}
    (h : wpG (model prog w) A (execs body env) (fun f s₁ => f ≠ .next ∧ Q f s₁) E₁ s)
    (k : ∀ e s₁, E₁ e s₁ → wpG (model prog w) A (noteFrame e env) (fun _ s₂ => wpG (model prog w) A (setFlight e none) (fun _ s₃ => wpG (model prog w) A (handleBy e env (h₀ :: hs)) Q E s₃) E s₂) E s₁) :
    wpG (model prog w) A (exec (.Try body (h₀ :: hs) orelse [] pos) env) Q E s := by
  rw [arm_exec_Try]
  refine wpG_bind (wpG_standAt ?_)
  unfold tryStmt
  simp only [List.isEmpty_nil, if_true, List.isEmpty_cons, Bool.false_and, Bool.false_eq_true, if_false]
  refine wpG_bind (wpG_attempt (wpG_mono h (fun f s₁ h₁ => ?_) fun e s₁ h₁ => ?_))
  · cases f <;> first | exact absurd rfl h₁.1 | exact wpG_pure h₁.2
  · exact wpG_bind (wpG_mono (k e s₁ h₁) (fun _ _ h₂ => wpG_bind h₂) fun _ _ x => x)
end
end

-- R7
section
open Builtin Builtin.ObjectAttr
theorem call_open {prog : Program} {w : World} {b : Heap} {a : Addr} {o : Obj} {name qual : Str} {params : Arguments} {body : List Stmt} {scope : Scope} {dV kV doc pm cdv ct : Value} {an : Option Addr} {xs : List Str} {A : Around} {s : Shared} {vs : List Value} {R : Result → Shared → Prop}
    (ho : b.get? a = some o) (hd : o.data = .func (fnX name qual params body scope [] dV kV doc pm an cdv ct)) (hlim : b.NoLimit) (hcd : b.CodeRec cdv qual) (hbind : bindArgs (fnX name qual params body scope [] dV kV doc pm an cdv ct) ⟨vs, []⟩ = pure (xs.zip vs))
    (hloc : ∀ x ∈ xs, scope.names.lookup x = some .local) (hcell : ∀ x ∈ scope.names, x.2 ≠ .cell) (hr : A.depth < recursionLimit) (kb : b.StaysIn s.heap)
    (h : ∀ h₁, h₁.Ns s.heap.objs.size (fun x => (xs.zip vs).reverse.lookup x) → s.heap.StaysIn h₁ →
      wpG (model prog w) (A.deeper (envX qual scope s.heap.objs.size a cdv [])) (execs body (envX qual scope s.heap.objs.size a cdv [])) (fun f s' => R (.ok (.ret (match f with | .ret v => v | _ => .none))) s')
        (fun e s' => wpG (model prog w) (A.deeper (envX qual scope s.heap.objs.size a cdv [])) (leaving (envX qual scope s.heap.objs.size a cdv []) e) (fun _ s'' => R (.error e) s'') (fun e' s'' => R (.error e') s'') s')
        { s with heap := h₁, toks := s.toks + (xs.zip vs).length })
    (hco : scope.isCoroutine = false := by kernel_rfl) (hgen : scope.isGenerator = false := by kernel_rfl) (hk : scope.kind = .function := by kernel_rfl) : codeG (model prog w) A (.call (.ref a) ⟨vs, []⟩) R s := by
  refine codeG_call_def (fd := fnX name qual params body scope [] dV kV doc pm an cdv ct) (body := body) (binds := xs.zip vs) hr (kb _ _ ho) hd (hlim.keeps kb) ?_ rfl (BindsTo.of_eq hbind) hcell (fun x hx => hloc _ (List.of_mem_zip hx).1) (fun h₁ hns hk₁ => h h₁ hns hk₁) hco hgen hk
  obtain ⟨c₂, o₂, vs₂, t₂, e₂, g₂, r₂⟩ := hcd
  exact ⟨c₂, o₂, vs₂, t₂, e₂, kb _ _ g₂, r₂⟩
noncomputable def EH (W : Str → Prop) (H B : Heap) (outer : List Env) (os : OsState) (L : Addr) (env : Env) (e : Value) (s : Shared) : Prop := ∃ H' x, H.StaysIn H' ∧ (∃ m, H'.Ns L m) ∧ W x ∧ Thr true H' B (env :: outer) os x e s
theorem G_Try_thr {prog : Program} {w : World} {A : Around} {E : Value → Shared → Prop} {s : Shared} {env : Env} {body orelse : List Stmt} {h₀ : ExceptHandler} {hs : List ExceptHandler} {pos : Pos} {Q : Flow → Shared → Prop} (W : Str → Prop) (kp B : Heap) (outer : List Env) (os : OsState) (L : Addr)
    (h : wpG (model prog w) A (execs body env) (fun f s₁ => f ≠ .next ∧ Q f s₁) (EH W kp B outer os L env) s)
    (k : ∀ e s₁, EH W kp B outer os L env e s₁ → wpG (model prog w) A (noteFrame e env) (fun _ s₂ => wpG (model prog w) A (setFlight e none) (fun _ s₃ => wpG (model prog w) A (handleBy e env (h₀ :: hs)) Q E s₃) E s₂) E s₁) :
    wpG (model prog w) A (exec (.Try body (h₀ :: hs) orelse [] pos) env) Q E s := G_Try_except h k
/-- the body of the try -/
theorem heard_try {w : World} {b : Heap} (hB : Base w b) (f : List UInt8) (size : Nat) (hf : f.length ≤ 100000) (hsz : size ≤ 1000100) {C : Act} {B : Heap} {outer : List Env} {p0 p1 p2 p3 p4 : Pos} {R : AV → Sto → Prop} (hp : C.prog = thePy) (hw : C.w = w) (hb : C.b = b) (ok : C.Ok 7 B outer)
    (hE : C.E = EH (fun x => ∃ y, (readW f size).1 = .bad y ∧ x = Str.ofString y) C.kp B outer C.os C.env.locals C.env)
    (ht : backTo p1 (starEach [.Name "octets" p2, .Name "size" p3] C.env) = [Expr.Name "octets" p2, .Name "size" p3].map (fun e => (false, eval e C.env)))
    (hk : C.env.scope.kind = .function) (hx : C.env.kindOf "lz4_unpack" = some .globalImplicit) (h1 : C.env.kindOf "octets" = some .local) (h2 : C.env.kindOf "size" = some .local)
    (hR : ∀ l, (readW f size).1 = .ok l → R (.bytes l) []) :
    Exs C [.Return (some (.Call (.Name "lz4_unpack" p0) [.Name "octets" p2, .Name "size" p3] [] p1)) p4] [("octets", .bytes f), ("size", .int size)] [] (fun _ _ => False) R := by
  subst hw hb
  refine X_cons (X_return (E_callF (gl_unpack hB) (df_unpack hB) ?_ ht ok.globs ok.bltns hk hx))
  refine EL_cons (E_nm (lkq_here ?_) hk h1)
  refine EL_cons (E_nm (lkq_there (by kernel_rfl) (lkq_here ?_)) hk h2)
  refine EL_nil (CallV_fn (r := 6) (by have := unpack_fn hB f size hf hsz; rw [← hp] at this; exact this) ⟨ok.room.less (by omega), ok.fr, ok.kf, ok.Bk, ok.BB, ok.kind, ok.frame, ok.globs, ok.bltns⟩ (Split.none _) (fun v σ' hv => ?_) (fun fz m s e s' S hz => ?_))
  rotate_left
  · obtain ⟨x, hx, t⟩ := hz
    rw [hE]
    have k : s.heap.StaysIn (hideAll s.heap (([] : Sto).map (·.1))) := fun b o hb => hideAll_get _ hb (by simp)
    obtain ⟨oL, es, ep, hoL, r⟩ := S.ns
    exact ⟨_, x, fun b o hb => k b o (S.mem.kph b o hb), ⟨m, oL, es, ep, k _ _ hoL, r⟩, hx, t⟩
  · obtain ⟨rfl, l, hl, rfl⟩ := hv
    exact hR l hl

theorem heard_body {w : World} {b : Heap} (hB : Base w b) (f : List UInt8) (size : Nat) (hf : f.length ≤ 100000) (hsz : size ≤ 1000100) {A : Around} {B H : Heap} {outer : List Env} {os : OsState} {s : Shared} {v1 v2 : Value} {env : Env} {L : Addr} {Q : Flow → Shared → Prop} {E : Value → Shared → Prop} {p0 p1 p2 p3 p4 p5 p6 p7 p8 p9 p10 : Pos}
    (room : Room 8 A) (fr : A.frames = some outer) (kf : H.FunFrames B outer) (hBs : B.StaysIn H) (hbs : b.StaysIn H) (hbB : b.StaysIn B) (hHL : H.get? L = none) (hHs : H.StaysIn s.heap) (hg : s.gens = #[]) (ho : s.os = os)
    (hns : s.heap.Ns L (fun x => ([("octets", v1), ("size", v2)] : List (Str × Value)).reverse.lookup x)) (i1 : Is H (.bytes f) v1) (i2 : Is H (.int size) v2)
    (ht : backTo p1 (starEach [.Name "octets" p2, .Name "size" p3] env) = [Expr.Name "octets" p2, .Name "size" p3].map (fun e => (false, eval e env)))
    (hk : env.scope.kind = .function) (hx : env.kindOf "lz4_unpack" = some .globalImplicit) (k1 : env.kindOf "octets" = some .local) (k2 : env.kindOf "size" = some .local) (k3 : env.kindOf "fault" = some .local) (k4 : env.kindOf "Corrupt" = some .globalImplicit)
    (e1 : env.frame = some L) (e2 : env.locals = L) (e3 : env.globals = mainGlobals) (e4 : env.builtins = builtinsNs)
    (hat : ∀ (o : Expr) attr pos, o = .Name "fault" p5 → eval (.Attribute o attr pos) env = (do
      let x ← eval o env
      standAt pos.atName
      let r ← holding [x] (getAttr x attr true)
      letTemporaryGo o x r
      pure r))
    (hQ : ∀ v s', Is H (resV (readW f size).1) v → (∀ b o, H.get? b = some o → b ∉ outer.filterMap (·.frame) → s'.heap.get? b = some o) → (∀ b o, H.get? b = some o → ∃ sl, s'.heap.get? b = some { o with slots := sl }) → s'.gens = #[] → s'.os = os → Q (.ret v) s') :
    wpG (model thePy w) (A.deeper env) (exec (.Try [.Return (some (.Call (.Name "lz4_unpack" p0) [.Name "octets" p2, .Name "size" p3] [] p1)) p4]
      [.ExceptHandler (some (.Name "Corrupt" p8)) (some "fault") [.Return (some (.Attribute (.Name "fault" p5) "why" p6)) p7] p9] [] [] p10) env) Q E s := by
  have hBL : B.get? L = none := by
    cases q : B.get? L with
    | none => rfl
    | some o => have := hBs _ _ q; rw [hHL] at this; cases this
  have ok : Act.Ok ⟨thePy, w, A.deeper env, env, b, H, os, EH (fun x => ∃ y, (readW f size).1 = .bad y ∧ x = Str.ofString y) H B outer os env.locals env⟩ 7 B outer :=
    ⟨room.deeper _, by show A.frames.map _ = _; rw [fr]; rfl, kf, by show H.get? env.locals = none; rw [e2]; exact hHL, hBs, hk, by show env.frame = some env.locals; rw [e1, e2], e3, e4⟩
  have S : St ⟨thePy, w, A.deeper env, env, b, H, os, EH (fun x => ∃ y, (readW f size).1 = .bad y ∧ x = Str.ofString y) H B outer os env.locals env⟩ H (fun x => ([("octets", v1), ("size", v2)] : List (Str × Value)).reverse.lookup x) [] s :=
    ⟨⟨hbs, hHs, hHs, fun _ h => (nomatch h), .nil, hg, ho⟩, by show s.heap.Ns env.locals _; rw [e2]; exact hns, by show H.get? env.locals = none; rw [e2]; exact hHL, by show H.get? env.locals = none; rw [e2]; exact hHL, fun _ h => (nomatch h)⟩
  have P : RhoOk H [("octets", .bytes f), ("size", .int size)] (fun x => ([("octets", v1), ("size", v2)] : List (Str × Value)).reverse.lookup x) := by
    intro x av e
    simp only [List.lookup_cons, List.lookup_nil] at e
    split at e
    · rename_i hq; cases e; rw [beq_iff_eq.mp hq]; exact ⟨v1, rfl, i1⟩
    · split at e
      · rename_i hq; cases e; rw [beq_iff_eq.mp hq]; exact ⟨v2, rfl, i2⟩
      · cases e
  have fr' : (A.deeper env).frames = some (env :: outer) := by show A.frames.map _ = _; rw [fr]; rfl
  refine G_Try_thr (fun x => ∃ y, (readW f size).1 = .bad y ∧ x = Str.ofString y) H B outer os env.locals ?_ fun e s₁ he => ?_
  · refine wpG_mono (heard_try (R := fun v σ' => v = resV (readW f size).1) hB f size hf hsz rfl rfl rfl ok rfl ht hk hx k1 k2 (fun l hl => by rw [hl]; rfl) H _ s S P) (fun fl s' hfl => ?_) fun e s' he => he
    obtain ⟨fz', m', σ', x, S', hfl⟩ := hfl
    cases fl with
    | next => obtain ⟨_, _, h⟩ := hfl; exact h.elim
    | ret v =>
      obtain ⟨av, i', rfl⟩ := hfl
      refine ⟨fun h => (nomatch h), hQ v s' ?_ (fun b o hb _ => S'.mem.kph b o hb) (fun b o hb => ⟨o.slots, S'.mem.kph b o hb⟩) S'.mem.gens S'.mem.os⟩
      cases hr : (readW f size).1 with
      | ok l => rw [hr] at i'; cases i'; exact .bytes _ _
      | bad y => rw [hr] at i'; cases i'; exact .str _ _
    | _ => exact hfl.elim
  · obtain ⟨H', x, hHH, ⟨mL, hL'⟩, ⟨y, hy, rfl⟩, t⟩ := he
    rw [e2] at hL'
    refine .of (note_any fr' e1 t fun s₂ t₂ => wpG.of (flight_any t₂ fun s₃ t₃ => .of ?_))
    clear t t₂
    have t₄ := t₃
    obtain ⟨a, dx, tk, sl, vs, rfl, hka, ha, hsz', hdx, htr, hff, hkp, hks, hB', hg3, ho3⟩ := t₄
    have hbs3 : b.StaysIn s₃.heap := fun c o hc => hkp c o (hHH _ _ (hbs c o hc)) fun hm => by
      have := (hff.mem hm).1; rw [hbB _ _ hc] at this; cases this
    have X₃ : (KK w.params).In s₃.heap := fun c o hc => hbs3 c o (hB.kx c o hc)
    obtain ⟨nm, q, bs, hdct, sn, sub, ab, col, dd, k0, k1', k2', k3', k5, hC⟩ := clsObj X₃
    refine wpAny_handleBy_cons (codeAny_handlers_test ?_) (by intro q; cases q)
    obtain ⟨mg, hmg, hgv⟩ := hB.mg
    refine Name_function_global hk k4 (loadGlobal_global (by rw [e3]; obtain ⟨o, es, ep, ho', r⟩ := hmg; exact ⟨o, es, ep, hbs3 _ _ ho', r⟩) (hgv "Corrupt" (.ref 44) rfl) ?_)
    obtain ⟨hh, g, d, tk3, os3⟩ := s₃
    refine wpAny_excMatches_sub_self hC ha rfl (by decide) ?_
    simp only [if_true]
    refine codeAny_handlers_suite_as ?_
    refine flight_any t₃ fun s₄ t₄ => ?_
    clear ha hdx htr hff hkp hks hB' hg3 ho3 hbs3 X₃ hC hka hsz'
    obtain ⟨a', dx, tk, sl, vs, ea, ⟨hka, hkdx⟩, ha, hsz', hdx, htr, hff, hkp, hks, hB', hg3, ho3⟩ := t₄
    cases ea
    have hbs3 : b.StaysIn s₄.heap := fun c o hc => hkp c o (hHH _ _ (hbs c o hc)) fun hm => by
      have := (hff.mem hm).1; rw [hbB _ _ hc] at this; cases this
    have X₄ : (KK w.params).In s₄.heap := fun c o hc => hbs3 c o (hB.kx c o hc)
    obtain ⟨oL, es, ep, hoL, rL⟩ := hL'
    obtain ⟨slL, hoL4⟩ := hks _ _ hoL
    have nL : s₄.heap.Ns env.locals mL := by rw [e2]; exact ⟨_, es, ep, hoL4, rL⟩
    have aL : a ≠ L := fun q => by rw [q, hoL] at hka; cases hka
    have dL : dx ≠ L := fun q => by rw [q, hoL] at hkdx; cases hkdx
    have hp : (env.scope.kind == .class || (env.scope.kind == .module && env.locals != env.globals)) = false := by rw [hk]; rfl
    refine wpAny_storeName_local k3 nL (fun h₅ n₅ b₅ => ?_) hp
    have ha₅ := (b₅.2 a (by rw [e2]; exact aL)).trans ha
    have hd₅ := hdx.sameBut b₅ (by rw [e2]; exact dL)
    have X₅ : (KK w.params).In h₅ := fun c o hc => (b₅.2 c (fun q => by
      have h1 := hHH _ _ (hbs _ _ (hB.kx c o hc)); rw [q, e2] at hc
      have := hbs _ _ (hB.kx _ o hc); rw [hHL] at this; cases this)).trans (X₄ c o hc)
    refine wpAny_execs_cons (wpAny_Return_some (Attribute_any_ ?_ (hat _ _ _ rfl)))
    refine wpAny_Name (wpAny_loadName_local hk k3 n₅ (if_pos rfl) ?_)
    refine get_why (s := { heap := h₅, gens := s₄.gens, drawn := s₄.drawn, toks := s₄.toks + 1, os := s₄.os }) X₅ ha₅ hd₅ (if_pos rfl) rfl ?_
    refine wpAny_nameGoes k3 n₅ hp fun h₆ m₆ n₆ b₆ => ?_
    have same : ∀ c o, c ≠ L → s₄.heap.get? c = some o → h₆.get? c = some o := fun c o hc ho' => ((b₆.2 c (by rw [e2]; exact hc)).trans (b₅.2 c (by rw [e2]; exact hc))).trans ho'
    have neL : ∀ c o, H.get? c = some o → c ≠ L := fun c o hc q => by rw [q, hHL] at hc; cases hc
    refine hQ _ _ ?_ (fun c o hc hnf => same c o (neL c o hc) (hkp c o (hHH _ _ hc) fun hm => ?_)) (fun c o hc => ?_) hg3 ho3
    · rw [hy]; exact .str _ _
    · rw [List.filterMap_cons, e1] at hm
      rcases List.mem_cons.mp hm with rfl | hm
      · exact neL _ _ hc rfl
      · exact hnf hm
    · obtain ⟨sl', h'⟩ := hks c o (hHH _ _ hc)
      exact ⟨sl', same c _ (neL c o hc) h'⟩
theorem heard_fn {w : World} {b : Heap} (hB : Base w b) (f : List UInt8) (size : Nat) (hf : f.length ≤ 100000) (hsz : size ≤ 1000100) {A : Around} {B : Heap} {outer : List Env} {os : OsState} {s : Shared} {t1 t2 : Tok} (room : Room 8 A) (fr : A.frames = some outer)
    (kf : s.heap.FunFrames B outer) (hBs : B.StaysIn s.heap) (hbs : b.StaysIn s.heap) (hbB : b.StaysIn B) (hg : s.gens = #[]) (ho : s.os = os) :
    codeG (model thePy w) A (.call (.ref 170) ⟨[.bytes f.toArray t1, .int size t2], []⟩) (fun r s' => ∃ v, r = .ok (.ret v) ∧ Is s.heap (resV (readW f size).1) v ∧ (∀ b o, s.heap.get? b = some o → b ∉ outer.filterMap (·.frame) → s'.heap.get? b = some o) ∧
      (∀ b o, s.heap.get? b = some o → ∃ sl, s'.heap.get? b = some { o with slots := sl }) ∧ s'.gens = #[] ∧ s'.os = os) s := by
  refine call_open (xs := ["octets", "size"]) (hB.kx 170 _ rfl) rfl hB.nolimit (codeRec_of hB.kx rfl) rfl (by decide) (by decide) (by have := room.depth; omega) hbs fun h₁ hns hk₁ => ?_
  have hL0 : s.heap.get? s.heap.objs.size = none := Heap.get?_none_of_le (Nat.le_refl _)
  have hBL : B.get? s.heap.objs.size = none := by
    cases q : B.get? s.heap.objs.size with
    | none => rfl
    | some o => have := hBs _ _ q; rw [hL0] at this; cases this
  generalize hL : s.heap.objs.size = L at *
  simp only [List.zip_cons_cons, List.zip_nil_right, List.length_cons, List.length_nil]
  refine G_execs_cons (heard_body (H := s.heap) (L := L) (os := os) (v1 := .bytes f.toArray t1) (v2 := .int size t2) hB f size hf hsz room fr kf hBs hbs hbB hL0 (by exact hk₁) hg ho hns (.bytes _ _) (.int _ _) (by kernel_rfl) (by kernel_rfl) (by kernel_rfl) (by kernel_rfl) (by kernel_rfl) (by kernel_rfl) (by kernel_rfl) (by kernel_rfl) (by kernel_rfl) (by kernel_rfl) (by kernel_rfl) ?_ ?_)
  · rintro o attr pos rfl; rfl
  · intro v s' i k1 k2 k3 k4
    exact ⟨v, rfl, i, k1, k2, k3, k4⟩
end

-- C1
section
set_option Elab.async false
set_option maxRecDepth 100000
set_option maxHeartbeats 1000000
set_option linter.all false
local macro_rules | `(tactic| omega) => `(tactic| lia)
open PySem PySem.W PySem.Calls PyProof.Rows PySem.Spec

section
variable {C : Act} {ρ : Loc} {σ : Sto}
theorem E_cell {Q : AV → Sto → Prop} {x : Str} {pos : Pos} {c : Addr} {av : AV} (hm : (c, .cell (some av)) ∈ σ) (h : Q av σ) (hk : C.env.scope.kind = .function := by kernel_rfl) (hx : C.env.kindOf x = some .cell := by kernel_rfl) (hc : C.env.cells.lookup x = some c := by kernel_rfl)
    (hd : (x == ("__debug__" : Str)) = false := by decide) : Ev C (.Name x pos) ρ σ Q := fun fz m s S P => by
  obtain ⟨o, v, ho, hd', i⟩ := (S.mem.trk _ hm).1
  cases i with
  | some _ v i => exact .of <| wpAny_Name (wpAny_loadName_cell hk hx hc ⟨o, ho, hd'⟩ ⟨fz, av, σ, Ext.refl _ _, S, i, h⟩) hd
theorem X_assignCell {Q : Loc → Sto → Prop} {R : AV → Sto → Prop} {x : Str} {pos' pos : Pos} {value : Expr} {c : Addr} {c0 : Option AV} (h : Ev C value ρ σ fun v σ₁ => ∃ σ₂, Upd c (.cell c0) (.cell (some v)) σ₁ σ₂ ∧ Q ρ σ₂)
    (hs : swapsWith value (some (.Name x pos')) pos.line C.env = pure false := by kernel_rfl) (hk : C.env.scope.kind = .function := by kernel_rfl) (hx : C.env.kindOf x = some .cell := by kernel_rfl) (hc : C.env.cells.lookup x = some c := by kernel_rfl) :
    Ex C (.Assign [.Name x pos'] value pos) ρ σ Q R := fun fz m s S P => by
  refine G_Assign_Name ((h fz m s S P).step fun fz₁ a u σ₁ s₁ x₁ S₁ i₁ h₁ => ?_) hs
  obtain ⟨σ₂, up, h₁⟩ := h₁
  obtain ⟨o, v0, ho, hd', _⟩ := (S₁.mem.trk _ up.mem).1
  refine .of (wpAny_storeName_cell hk hx hc ⟨o, ho, hd'⟩ fun h' hc' hs' => ?_)
  obtain ⟨o', ho', hd''⟩ := hc'
  exact ⟨fz₁, m, σ₂, x₁, S₁.upd (s' := { s₁ with heap := h' }) up (fun b ob hb e => (hs'.2 b hb).trans e) ⟨o', _, ho', hd'', .some _ _ i₁⟩, ρ, P.mono x₁.1, h₁⟩
end

section
variable {prog : Program} {w : World} {A : Around} {s : Shared}
theorem codeG_call_cells {R : Result → Shared → Prop} {a : Addr} {o : Obj} {fd : FuncData} {body : List Stmt} {vals : List Value} {binds : List (Str × Value)}
    (hroom : A.depth < recursionLimit) (ho : s.heap.get? a = some o) (hdata : o.data = .func fd) (hlim : s.heap.NoLimit) (hcd : s.heap.CodeRec fd.code fd.qualname)
    (hbody : fd.body = .stmts body) (hbind : bindArgs fd ⟨vals, []⟩ = pure binds) (hclo : fd.closure = [])
    (hkind : ∀ x ∈ binds, fd.scope.names.lookup x.1 = some .local ∨ (fd.scope.names.lookup x.1 = some .cell ∧ ((cellsFrom (s.heap.objs.size + 1) fd.scope.names []).lookup x.1).isSome = true))
    (h : ∀ s₁, InCallC s (callEnvC fd s.heap.objs.size a).locals (bindL (callEnvC fd s.heap.objs.size a).kindOf binds fun _ => none) (callEnvC fd s.heap.objs.size a).cells
        (bindC (callEnvC fd s.heap.objs.size a).kindOf binds fun _ => none) s₁ →
      wpG (model prog w) (A.deeper (callEnvC fd s.heap.objs.size a)) (execs body (callEnvC fd s.heap.objs.size a)) (fun f s' => R (.ok (.ret (match f with | .ret v => v | _ => .none))) s')
        (fun e s' => wpG (model prog w) (A.deeper (callEnvC fd s.heap.objs.size a)) (leaving (callEnvC fd s.heap.objs.size a) e) (fun _ s'' => R (.error e) s'') (fun e' s'' => R (.error e') s'') s') s₁)
    (hco : fd.scope.isCoroutine = false := by rfl) (hgen : fd.scope.isGenerator = false := by rfl) (hk : fd.scope.kind = .function := by rfl) :
    codeG (model prog w) A (.call (.ref a) ⟨vals, []⟩) R s := by
  refine codeG_call_function hroom ho hdata hco hgen hbody hcd ?_
  rw [hbind, hclo]
  refine wpG_pure (.of (wpAny_newFunctionEnv_cells hk hkind fun env he s' x => ?_))
  subst he
  exact ⟨hlim.keeps x.toInCall.keep, codeG_func (h s' x)⟩
end

/-- what a function keeps when its own cells go -/
noncomputable def Cut (R : AV → Sto → Prop) (v : AV) (σ' : Sto) : Prop := ∃ rest σ'', σ'.Perm (rest ++ σ'') ∧ R v σ''
theorem Mem.perm {b kp fz : Heap} {σ σ' : Sto} {os : OsState} {s : Shared} (M : Mem b kp fz σ os s) (p : σ.Perm σ') : Mem b kp fz σ' os s :=
  ⟨M.bfz, M.fzh, M.kph, fun q hq => M.trk q (p.mem_iff.mpr hq), (p.map _).nodup_iff.mp M.nodup, M.gens, M.os⟩
theorem Mem.cut {b kp fz : Heap} {rest σ : Sto} {os : OsState} {s : Shared} (M : Mem b kp fz (rest ++ σ) os s) : Mem b kp fz σ os s :=
  ⟨M.bfz, M.fzh, M.kph, fun q hq => M.trk q (List.mem_append_right _ hq), by have := M.nodup; rw [List.map_append, List.nodup_append] at this; exact this.2.1, M.gens, M.os⟩

/-- a def with cells that raises nothing -/
theorem fn_cells {prog : Program} {w : World} {b : Heap} {r : Nat} {a : Addr} {o : Obj} {name qual : Str} {params : Arguments} {body : List Stmt} {scope : Scope} {dV kV doc pm cdv ct : Value} {an : Option Addr} {avs : List AV} {σ : Sto} {R : AV → Sto → Prop} {xs : List Str}
    (ho : b.get? a = some o) (hd : o.data = .func (fnX name qual params body scope [] dV kV doc pm an cdv ct)) (hlim : b.NoLimit) (hcd : b.CodeRec cdv qual) (σc : Addr → Sto) (ρ0 : Loc)
    (hbind : ∀ vs : List Value, vs.length = xs.length → bindArgs (fnX name qual params body scope [] dV kV doc pm an cdv ct) ⟨vs, []⟩ = pure (xs.zip vs)) (hlen : avs.length = xs.length)
    (hkind : ∀ L, ∀ x ∈ xs, scope.names.lookup x = some .local ∨ (scope.names.lookup x = some .cell ∧ ((cellsFrom (L + 1) scope.names []).lookup x).isSome = true))
    (hcl : ∀ fz h L vs, Iss fz avs vs → (∀ n c, (cellsFrom (L + 1) scope.names []).lookup n = some c → h.IsCell c (bindC (fun x => scope.names.lookup x) (xs.zip vs) (fun _ => none) n)) → ∀ p ∈ σc L, Holds fz h p.1 p.2)
    (hab : ∀ L, ∀ p ∈ σc L, L < p.1) (hnd : ∀ L, ((σc L).map (·.1)).Nodup)
    (hρ : ∀ fz vs, Iss fz avs vs → RhoOk fz ρ0 (bindL (fun x => scope.names.lookup x) (xs.zip vs) fun _ => none))
    (h : ∀ (A : Around) (kp B : Heap) (outer : List Env) (os : OsState) (L : Addr) (C : Act), C = ⟨prog, w, A.deeper (envX qual scope L a cdv (cellsFrom (L + 1) scope.names [])), envX qual scope L a cdv (cellsFrom (L + 1) scope.names []), b, kp, os, fun _ _ => False⟩ → C.Ok r B outer → Exs C body ρ0 (σc L ++ σ) (fun _ σ' => Cut R .none σ') (Cut R))
    (hco : scope.isCoroutine = false := by kernel_rfl) (hgen : scope.isGenerator = false := by kernel_rfl) (hk : scope.kind = .function := by kernel_rfl) : Fn prog w b (r + 1) NoZ (.ref a) avs σ R := by
  intro A kp fz B outer os s vs room bel M i
  have kb : b.StaysIn s.heap := fun a o e => M.fzh a o (M.bfz a o e)
  have hvl : vs.length = xs.length := i.length ▸ hlen
  have hL1 : kp.get? s.heap.objs.size = none := M.kph.fresh
  refine codeG_call_cells (fd := fnX name qual params body scope [] dV kV doc pm an cdv ct) (body := body) (binds := xs.zip vs) (by have := room.depth; omega) (kb _ _ ho) hd (hlim.keeps kb) ?_ rfl (hbind vs hvl) rfl (fun x hx => hkind _ _ (List.of_mem_zip hx).1) (fun s₁ x => ?_) hco hgen hk
  · obtain ⟨c₂, o₂, vs₂, t₂, e₂, g₂, r₂⟩ := hcd
    exact ⟨c₂, o₂, vs₂, t₂, e₂, kb _ _ g₂, r₂⟩
  obtain ⟨h₁, tk, es, hk₁⟩ := x.done
  subst es
  have hns : h₁.Ns s.heap.objs.size (bindL (fun x => scope.names.lookup x) (xs.zip vs) fun _ => none) := x.toInCall.ns
  have hcells := x.cell
  have ok : Act.Ok ⟨prog, w, A.deeper (envX qual scope s.heap.objs.size a cdv (cellsFrom (s.heap.objs.size + 1) scope.names [])), envX qual scope s.heap.objs.size a cdv (cellsFrom (s.heap.objs.size + 1) scope.names []), b, kp, os, fun _ _ => False⟩ r B outer :=
    ⟨room.deeper _, by show (A.frames.map _) = _; rw [bel.fr]; rfl, bel.kf, hL1, bel.Bk, hk, rfl, rfl, rfl⟩
  have M₁ : Mem b kp fz σ os { s with heap := h₁, toks := tk } := M.grow (s' := { s with heap := h₁, toks := tk }) hk₁ rfl rfl
  have big : ∀ p ∈ σ, p.1 < s.heap.objs.size := fun p hp => by
    obtain ⟨ob, hob⟩ := (M.trk p hp).1.there
    exact Heap.lt_size hob
  have S : St ⟨prog, w, A.deeper (envX qual scope s.heap.objs.size a cdv (cellsFrom (s.heap.objs.size + 1) scope.names [])), envX qual scope s.heap.objs.size a cdv (cellsFrom (s.heap.objs.size + 1) scope.names []), b, kp, os, fun _ _ => False⟩ fz (bindL (fun x => scope.names.lookup x) (xs.zip vs) fun _ => none) (σc s.heap.objs.size ++ σ) { s with heap := h₁, toks := tk } := by
    refine ⟨⟨M₁.bfz, M₁.fzh, M₁.kph, fun p hp => ?_, ?_, M₁.gens, M₁.os⟩, hns, M.fzh.fresh, hL1, fun p hp => ?_⟩
    · rcases List.mem_append.mp hp with hp | hp
      · have hlt := hab _ p hp
        have nn : ∀ {f : Heap}, f.StaysIn s.heap → f.get? p.1 = none := fun kf => by
          cases q : Heap.get? _ p.1 with
          | none => rfl
          | some o => exact absurd (Heap.lt_size (kf _ _ q)) (Nat.not_lt.mpr (Nat.le_of_lt hlt))
        exact ⟨hcl fz h₁ _ vs i hcells p hp, nn M.fzh, nn M.kph⟩
      · exact M₁.trk p hp
    · rw [List.map_append, List.nodup_append]
      refine ⟨hnd _, M.nodup, fun u hu v hv e => ?_⟩
      obtain ⟨p, hp, rfl⟩ := List.mem_map.mp hu
      obtain ⟨q, hq, rfl⟩ := List.mem_map.mp hv
      have h1 := hab _ p hp
      have h2 := big q hq
      rw [show p.1 = q.1 from e] at h1
      exact absurd h2 (Nat.not_lt.mpr (Nat.le_of_lt h1))
    · rcases List.mem_append.mp hp with hp | hp
      · exact Nat.ne_of_gt (hab _ p hp)
      · exact Nat.ne_of_lt (big p hp)
  refine wpG_mono (h A kp B outer os s.heap.objs.size _ rfl ok fz _ _ S (hρ fz vs i)) (fun f s' hf => ?_) fun e s' he => he.elim
  obtain ⟨fz', m', σ', x, S', hf⟩ := hf
  cases f with
  | next => obtain ⟨ρ', P', rest, σ'', hp, hR⟩ := hf; exact ⟨fz', .none, σ'', x, (S'.mem.perm hp).cut, .none, hR⟩
  | ret v => obtain ⟨av, i', rest, σ'', hp, hR⟩ := hf; exact ⟨fz', av, σ'', x, (S'.mem.perm hp).cut, i', hR⟩
  | brk => exact hf.elim
  | cont => exact hf.elim
end

-- C2
section
set_option Elab.async false
set_option maxRecDepth 100000
set_option maxHeartbeats 1000000
set_option linter.all false
local macro_rules | `(tactic| omega) => `(tactic| lia)
open PySem PySem.W PySem.Calls PyProof.Rows PySem.Spec

-- the block of a comprehension
section
variable {M : Model} {A : Around} {E : Value → Shared → Prop} {s : Shared} {env : Env}
theorem wpG_standIf {α : Type} {c : Prop} [Decidable c] {pos : Pos} {k : PUnit → Sem α} {Q : α → Shared → Prop} (h : wpG M A (k ()) Q E s) :
    wpG M A (if c then (standAt pos >>= k) else k ()) Q E s := by
  split
  · exact wpG_bind (wpG_standAt h)
  · exact h
noncomputable def compDone (M : Model) (A : Around) (E : Value → Shared → Prop) (use : Option (Value → Sem Unit)) (Q : Value → Shared → Prop) (acc : Value) (C : Addr) (s' : Shared) : Prop :=
  match use with
  | none => ∃ m, s'.heap.Ns C m ∧ ∀ h', Heap.SameBut C s'.heap h' → Q acc { s' with heap := h' }
  | some u => wpG M A (u acc) (fun _ s'' => ∃ m, s''.heap.Ns C m ∧ ∀ h', Heap.SameBut C s''.heap h' → Q .none { s'' with heap := h' }) E s'
theorem G_comprehension {e : Expr} {scope : Scope} {pos : Pos} {newAcc first : Sem Value} {g : Comprehension} {gs : List Comprehension} {cl : List (Str × Addr)} {use : Option (Value → Sem Unit)} {Q : Value → Shared → Prop}
    (hcl : clausesOf e = g :: gs) (hs : ∀ x, foldedSetIterable g.iter env x = pure x) (hclos : closureFor scope env = pure cl)
    (hkind : scope.kind = .function) (hnames : ∀ x ∈ scope.names, x.2 = .local → scope.names.lookup x.1 = some .local)
    (h : wpG M A first (fun x s₁ => wpG M A (pyIter x) (fun it s₂ => wpG M A newAcc (fun acc s₃ =>
      wpG M A (newFunctionEnv scope env.globals cl [] env.qual none .none (some env)) (fun cenv s₄ =>
        codeG M A (.compStart e 0 it acc { cenv with scope := relabel scope env }) (fun r s' => match r with | .ok _ => compDone M A E use Q acc cenv.locals s' | .error _ => False) s₄) E s₃) E s₂) E s₁) E s) :
    wpG M A (comprehension e scope env pos newAcc false first use) Q E s := by
  unfold comprehension
  rw [hclos, hcl]
  refine wpG_bind (wpG_mono h (fun x s₁ h₁ => wpG_bind (wpG_standAt (wpG_bind (wpG_of_eq (hs x) (wpG_bind (wpG_holding (wpG_mono h₁ (fun it s₂ h₂ =>
    wpG_standIf (wpG_bind (wpG_mono h₂ (fun acc s₃ h₃ => wpG_bind (wpG_pure (wpG_bind (wpG_mono h₃ (fun cenv s₄ h₄ => ?_) fun _ _ h' => h')))) fun _ _ h' => h')))
      fun _ _ h' => h'))))))) fun _ _ h' => h')
  dsimp only
  have hv : ∀ x ∈ (scope.names.filter fun x => (x.2 == .local || x.2 == .cell) && x.1 != (".0" : Str)).reverse, x.2 = .local →
      Env.kindOf { cenv with scope := relabel scope env } x.1 = some .local := fun x hx hl => lookup_relabel_local (hnames x (List.mem_filter.mp (List.mem_reverse.mp hx)).1 hl)
  have hv' : ∀ x ∈ (scope.names.filter fun x => (x.2 == .local || x.2 == .cell) && x.1 != (".0" : Str)).reverse.drop 1 ++ (scope.names.filter fun x => (x.2 == .local || x.2 == .cell) && x.1 != (".0" : Str)).reverse.take 1,
      x.2 = .local → Env.kindOf { cenv with scope := relabel scope env } x.1 = some .local := fun x hx hl => by
    rcases List.mem_append.mp hx with h1 | h1
    · exact hv x (List.mem_of_mem_drop h1) hl
    · exact hv x (List.mem_of_mem_take h1) hl
  refine wpG_holding (wpG_bind (wpG_attempt (wpG_holding (wpG_run (codeG_mono h₄ fun r s' hr => ?_)))))
  cases r with
  | ok f =>
    cases use with
    | none =>
      obtain ⟨m, hn, hr⟩ := hr
      exact wpG_bind (wpG_holding (.of (wpAny_comp_letGo (cenv := { cenv with scope := relabel scope env }) hkind _ s' m hv hn fun h' m' _ hs' => wpG_pure (hr h' hs'))))
    | some u =>
      refine wpG_bind (wpG_rule (wpG_bind (wpG_holding (wpG_mono hr (fun _ s'' hr' => ?_) fun _ _ h' => h'))))
      obtain ⟨m, hn, hr'⟩ := hr'
      exact wpG_bind (.of (wpAny_comp_letGo (cenv := { cenv with scope := relabel scope env }) hkind _ s'' m hv' hn fun h' m' _ hs' => wpG_pure (hr' h' hs')))
  | error x => exact hr.elim
end

section
variable {prog : Program} {w : World} {A : Around} {R : Result → Shared → Prop} {s : Shared}
theorem wpG_notedAt {α : Type} {M : Model} {A : Around} {env : Env} {m : Sem α} {pos : Pos} {Q : α → Shared → Prop} {E : Value → Shared → Prop} {s : Shared} (h : wpG M A m Q (fun _ _ => False) s) :
    wpG M A (m.onRaise fun x => do noteFrame x env; standAt pos) Q E s :=
  wpG_onRaise (wpG_mono h (fun _ _ q => q) fun _ _ hx => hx.elim)
theorem codeG_compStart {elt target iter ifs rest scope pos it acc env}
    (h0 : codeG (model prog w) A (.compLoop (.ListComp elt (⟨target, iter, ifs, 0⟩ :: rest) scope pos) 0 it acc env) R s)
    (h : wpG (model prog w) A (pyIter it) (fun it' s' => codeG (model prog w) A (.compLoop (.ListComp elt (⟨target, iter, ifs, 0⟩ :: rest) scope pos) 0 it' acc env) R s') (fun _ _ => False) s) :
    codeG (model prog w) A (.compStart (.ListComp elt (⟨target, iter, ifs, 0⟩ :: rest) scope pos) 0 it acc env) R s := by
  refine codeG_of_tree rfl ?_
  show wpG _ _ ((compStart (.ListComp elt (⟨target, iter, ifs, 0⟩ :: rest) scope pos) 0 it acc env).onRaise (fun x => do noteFrame x env; standAt theWindowsPlace)) _ _ s
  refine wpG_notedAt ?_
  unfold compStart
  show wpG _ _ (ask >>= _) _ _ s
  refine wpG_bind (.of (wpAny_askSetting (wpG_ite ?_)))
  split
  · first
      | exact wpG_bind (wpG_pure (wpG_pure (And.intro rfl h0)))
      | exact wpG_pure (And.intro rfl h0)
  · first
      | exact wpG_bind (wpG_rule (wpG_bind (wpG_standAt (wpG_bind (wpG_mono h (fun it' s' h' => wpG_pure (And.intro rfl h')) fun _ _ x => x)))))
      | (refine wpG_bind (wpG_rule ?_); show wpG _ _ (standAt iter.pos >>= _) _ _ s; exact wpG_bind (wpG_standAt (wpG_bind (wpG_mono h (fun it' s' h' => wpG_pure (And.intro rfl h')) fun _ _ x => x))))
theorem codeG_compLoop {elt iter : Expr} {x : Str} {px : Pos} {scope : Scope} {pos : Pos} {it acc : Value} {env : Env} (I : Nat → Shared → Prop)
    (turn : ∀ n s, I n s → wpG (model prog w) A (pyNext it) (fun r s₁ => match r with
      | none => R (.ok .next) s₁
      | some v => wpG (model prog w) A (assign (.Name x px) env v) (fun _ s₂ => wpG (model prog w) A (eval elt env) (fun x s₃ =>
          wpG (model prog w) A (call (.builtin "list.append") [acc, x]) (fun _ s₄ => ∃ m, m < n ∧ I m s₄) (fun _ _ => False) s₃) (fun _ _ => False) s₂) (fun _ _ => False) s₁) (fun _ _ => False) s)
    (n : Nat) (h : I n s) : codeG (model prog w) A (.compLoop (.ListComp elt [⟨.Name x px, iter, [], 0⟩] scope pos) 0 it acc env) R s := by
  refine codeG_loop' rfl rfl I (fun n s hI => ?_) n h
  show wpG _ _ ((compTurn (.ListComp elt [⟨.Name x px, iter, [], 0⟩] scope pos) 0 it acc env).onRaise (fun x => do noteFrame x env; theTreesLotGoes x)) _ _ s
  refine wpG_onRaise (wpG_mono ?_ (fun _ _ q => q) fun _ _ (hx : False) => hx.elim)
  rw [compTurn_list1]
  refine wpG_bind (wpG_standAt (wpG_bind (wpG_mono (turn n s hI) (fun r s₁ h₁ => ?_) fun _ _ h' => h')))
  cases r with
  | none => exact wpG_pure h₁
  | some v =>
    refine wpG_bind (wpG_of_eq (a := ()) rfl ?_)
    exact wpG_bind (wpG_mono h₁ (fun _ s₂ h₂ => wpG_bind (wpG_bind (wpG_mono h₂ (fun x s₃ h₃ => wpG_bind (wpG_mono h₃
      (fun _ s₄ h₄ => wpG_pure (wpG_pure (.inl ⟨rfl, h₄⟩))) fun _ _ h' => h')) fun _ _ h' => h'))) fun _ _ h' => h')
end

noncomputable def rngO (k : Nat) (n : Int) (o : Obj) : Prop := o = { cls := .type "range_iterator", dict := none, data := .fields #[rawInt (k : Nat), rawInt ((n.toNat : Int) - (k : Nat)), rawInt 1], slots := #[] }
section
variable {C : Act} {fz : Heap} {m : Str → Option Value} {σ σ' : Sto} {s : Shared}
theorem rng_start {n : Int} {u : Value} {P' : Value → Shared → Prop} (h1 : -1000000000 ≤ n) (h2 : n ≤ 1000000000) (i : Is fz (.rng 0 n) u) (S : St C fz m σ s) (h : ∀ I s', St C fz m ((I, .raw (rngO 0 n)) :: σ) s' → P' (.ref I) s') : wpG C.M C.A (pyIter u) P' C.E s := by
  cases i with
  | rng a _ _ t u v hr =>
    have hsz : Builtin.Range.rangeSize 0 n 1 = (n.toNat : Int) := by unfold Builtin.Range.rangeSize; simp; split <;> omega
    have hsm : Builtin.Range.small 0 n 1 = true := by
      unfold Builtin.Range.small
      rw [hsz]
      simp only [Builtin.Range.rangeFitsLong, Bool.and_eq_true, Bool.or_eq_true, decide_eq_true_eq]
      refine ⟨⟨⟨⟨⟨by omega, by omega⟩, by omega, by omega⟩, by omega, by omega⟩, by omega, by omega⟩, .inr ?_⟩
      rw [if_pos (by omega)]
      simp only [Bool.and_eq_true, decide_eq_true_eq]
      exact ⟨by omega, by omega⟩
    obtain ⟨S', ne⟩ := S.new_raw (o := { cls := .type "range_iterator", data := .fields #[rawInt 0, rawInt (Builtin.Range.rangeSize 0 n 1), rawInt 1] }) (P := rngO 0 n) rfl (by unfold rngO; rw [hsz]; simp)
    exact .of <| wpAny_pyIter_range (S.mem.fzh _ _ hr) hsm (h _ _ S')
theorem rng_next {n : Int} {k : Nat} {I : Addr} {P' : Option Value → Shared → Prop} {E' : Value → Shared → Prop} (hk : k < n.toNat) (u : Upd I (.raw (rngO k n)) (.raw (rngO (k + 1) n)) σ σ') (S : St C fz m σ s) (h : ∀ t s', St C fz m σ' s' → P' (some (.int k t)) s') : wpG C.M C.A (pyNext (.ref I)) P' E' s := by
  obtain ⟨ob, hob, rfl⟩ := (S.mem.trk _ u.mem).1
  refine .of <| wpAny_pyNext_range_item hob (by omega) fun h' hit hs => h _ _ (S.upd (s' := { s with heap := h', toks := s.toks + 1 }) u (fun b ob hb e => (hs.2 b hb).trans e) ⟨_, hit, ?_⟩)
  unfold rngO
  have e1 : ((k : Nat) : Int) + 1 = ((k + 1 : Nat) : Int) := by omega
  have e2 : (n.toNat : Int) - (k : Int) - 1 = (n.toNat : Int) - ((k + 1 : Nat) : Int) := by omega
  rw [e1, e2]
theorem rng_end {n : Int} {I : Addr} {P' : Option Value → Shared → Prop} {E' : Value → Shared → Prop} (hh : C.A.handled = none) (u : Del I (.raw (rngO n.toNat n)) σ σ') (S : St C fz m σ s) (h : ∀ s', St C fz m σ' s' → P' none s') : wpG C.M C.A (pyNext (.ref I)) P' E' s := by
  obtain ⟨ob, hob, rfl⟩ := (S.mem.trk _ u.mem).1
  exact .of <| wpAny_pyNext_range_end hh hob (by omega) fun h' hx => h _ (S.upd_del u (fun b ob hb e => hx b ob hb e))
theorem rng_self {n : Int} {k : Nat} {I : Addr} {P' : Value → Shared → Prop} {E' : Value → Shared → Prop} (hm : (I, .raw (rngO k n)) ∈ σ) (S : St C fz m σ s) (h : P' (.ref I) s) : wpG C.M C.A (pyIter (.ref I)) P' E' s := by
  obtain ⟨ob, hob, rfl⟩ := (S.mem.trk _ hm).1
  exact .of (wpAny_pyIter_rangeiter (x := ((k : Nat) : Int)) (left := (n.toNat : Int) - (k : Nat)) (step := 1) hob h)
end
end

-- C3
section
set_option Elab.async false
set_option maxRecDepth 100000
set_option maxHeartbeats 1000000
set_option linter.all false
local macro_rules | `(tactic| omega) => `(tactic| lia)
open PySem PySem.W PySem.Calls PyProof.Rows PySem.Spec

/-- where the block of a comprehension runs -/
noncomputable def CompAct (C : Act) (scope : Scope) (cl : List (Str × Addr)) (B : Heap) (outer : List Env) (C' : Act) : Prop :=
  ∃ Lc kp', C' = ⟨C.prog, C.w, C.A, compEnvC scope cl Lc C.env, C.b, kp', C.os, fun _ _ => False⟩ ∧ Bel C.A B (C.env :: outer) kp'
noncomputable def DictO (o : Obj) : Prop := ∃ (m : Str → Option Value) (es : Array DictEntry) (ep : Nat), o.data = .dict es ep ∧ StrKeys es ∧ ∀ name, nsFind es name = m name

section
variable {C : Act} {ρ : Loc} {σ : Sto}
/-- the block: from the iterator and the empty list to the list -/
theorem comp_block {r : Nat} {B : Heap} {outer : List Env} {elt iter : Expr} {x : Str} {px pos : Pos} {scope : Scope} {cl : List (Str × Addr)} {n : Int} {it acc : Addr} {fz : Heap} {m : Str → Option Value} {s : Shared} (ok : C.Ok r B outer)
    (hcell : ∀ y ∈ scope.names, y.2 ≠ .cell) (hkind : scope.kind = .function) (hx : scope.names.lookup x = some .local)
    (Inv : Nat → List AV → Sto → Prop) (S : St C fz m ((acc, .list []) :: (it, .raw (rngO 0 n)) :: σ) s) (h0 : Inv 0 [] σ) (hz : n ≤ 1000000)
    (hbody : ∀ C', CompAct C scope cl B outer C' → ∀ (k : Nat) l σr P, k < n.toNat → Inv k l σr → Ev C' elt [(x, .int k)] ((it, .raw P) :: (acc, .list l) :: σr) fun v σ₂ => ∃ σr', σ₂.Perm ((it, .raw P) :: (acc, .list l) :: σr') ∧ l.length ≤ sizeLine ∧ Inv (k + 1) (l ++ [v]) σr')
    {R : Addr → Result → Shared → Prop}
    (hR : ∀ Lc fz' l σ' s', Ext C.kp fz fz' → St C fz' m ((Lc, .raw DictO) :: (acc, .list l) :: σ') s' → Inv n.toNat l σ' → R Lc (.ok .next) s') :
    wpG C.M C.A (newFunctionEnv scope C.env.globals cl [] C.env.qual none .none (some C.env)) (fun cenv s₄ =>
      codeG C.M C.A (.compStart (.ListComp elt [⟨.Name x px, iter, [], 0⟩] scope pos) 0 (.ref it) (.ref acc) { cenv with scope := relabel scope C.env }) (R cenv.locals) s₄) C.E s := by
  refine .of (wpAny_newFunctionEnv hcell (by intro y hy; simp at hy) (fun h₁ hns₁ hsb₁ => ?_) hkind)
  have kk : s.heap.StaysIn h₁ := fun b o e => hsb₁.extBut b o (Nat.ne_of_lt (Heap.lt_size e)) (Heap.get?_push_of_some _ e)
  obtain ⟨oL, esL, epL, hoL, rL⟩ := S.ns
  have hLlt : C.env.locals < s.heap.objs.size := Heap.lt_size hoL
  generalize hkp : hideAll s.heap ((((acc, AO.list []) :: (it, AO.raw (rngO 0 n)) :: σ) : Sto).map (·.1)) = kp'
  have hid : ∀ b o, s.heap.get? b = some o → (∀ p ∈ ((acc, AO.list []) :: (it, AO.raw (rngO 0 n)) :: σ : Sto), p.1 ≠ b) → kp'.get? b = some o := fun b o e hn => by
    rw [← hkp]; exact hideAll_get _ e fun hm => by
      obtain ⟨p, hp, e⟩ := List.mem_map.mp hm
      exact hn p hp e
  have kps : kp'.StaysIn s.heap := fun b o e => by rw [← hkp] at e; exact of_hideAll _ e
  have kcp : C.kp.StaysIn kp' := fun b o e => hid b o (S.mem.kph b o e) fun p hp q => by
    have := (S.mem.trk p hp).2.2; rw [q, e] at this; cases this
  have hL' := hid _ _ hoL fun p hp => S.Lσ p hp
  have bel : Bel C.A B (C.env :: outer) kp' := by
    refine ⟨ok.fr, ⟨by rw [ok.kind]; decide, ⟨C.env.locals, oL, ok.frame, ?_, hL', fun vs q => by rw [rL.1] at q; cases q⟩, ok.kf.of_keeps fun b o e _ => ⟨o, kcp b o e, rfl⟩⟩, fun b o e => kcp b o (ok.BB b o e)⟩
    cases q : B.get? C.env.locals with
    | none => rfl
    | some o => have := ok.BB _ _ q; rw [ok.Bk] at this; cases this
  let C' : Act := ⟨C.prog, C.w, C.A, compEnvC scope cl s.heap.objs.size C.env, C.b, kp', C.os, fun _ _ => False⟩
  have S' : St C' fz (fun x => ([] : List (Str × Value)).reverse.lookup x) ((acc, .list []) :: (it, .raw (rngO 0 n)) :: σ) { s with heap := h₁, toks := s.toks + ([] : List (Str × Value)).length } := by
    refine ⟨⟨S.mem.bfz, fun b o e => kk b o (S.mem.fzh b o e), fun b o e => kk b o (kps b o e), fun p hp => ⟨(S.mem.trk p hp).1.at (kk _), (S.mem.trk p hp).2.1, ?_⟩, S.mem.nodup, S.mem.gens, S.mem.os⟩, hns₁, S.mem.fzh.fresh, kps.fresh, fun p hp => ?_⟩
    · show kp'.get? p.1 = none; rw [← hkp]; exact hideAll_none _ (List.mem_map_of_mem hp)
    · obtain ⟨ob, hob⟩ := (S.mem.trk p hp).1.there
      exact Nat.ne_of_lt (Heap.lt_size hob)
  have fin : ∀ (fz' : Heap) m' l σ' s', Ext kp' fz fz' → St C' fz' m' ((acc, .list l) :: σ') s' → St C fz' m ((s.heap.objs.size, .raw DictO) :: (acc, .list l) :: σ') s' := by
    intro fz' m' l σ' s' ex T
    have nk : ∀ a, kp'.get? a = none → C.kp.get? a = none := fun a ha => by
      cases q : C.kp.get? a with
      | none => rfl
      | some o => have := kcp _ _ q; rw [ha] at this; cases this
    refine ⟨⟨T.mem.bfz, T.mem.fzh, fun b o e => T.mem.kph b o (kcp b o e), fun p hp => ?_, ?_, T.mem.gens, T.mem.os⟩, ⟨oL, esL, epL, T.mem.kph _ _ hL', rL⟩, ex.2 _ _ hL' S.Lfz, S.Lkp, fun p hp => ?_⟩
    · rcases List.mem_cons.mp hp with rfl | hp
      · obtain ⟨od, es, ep, hod, r⟩ := T.ns
        exact ⟨⟨od, hod, _, es, ep, r⟩, T.Lfz, nk _ T.Lkp⟩
      · exact ⟨(T.mem.trk p hp).1, (T.mem.trk p hp).2.1, nk _ (T.mem.trk p hp).2.2⟩
    · rw [List.map_cons, List.nodup_cons]
      refine ⟨fun hm => ?_, T.mem.nodup⟩
      obtain ⟨p, hp, e⟩ := List.mem_map.mp hm
      exact T.Lσ p hp e
    · rcases List.mem_cons.mp hp with rfl | hp
      · exact Nat.ne_of_gt hLlt
      · intro q
        have := (T.mem.trk p hp).2.2
        rw [q] at this
        exact absurd (hL'.symm.trans this) (by simp)
  have loop : ∀ s₃ : Shared, s₃ = { s with heap := h₁, toks := s.toks + ([] : List (Str × Value)).length } →
      codeG C.M C.A (.compLoop (.ListComp elt [⟨.Name x px, iter, [], 0⟩] scope pos) 0 (.ref it) (.ref acc) (compEnvC scope cl s.heap.objs.size C.env)) (R s.heap.objs.size) s₃ := by
    rintro s₃ rfl
    refine codeG_compLoop (fun j s => ∃ k fz' m' l σ' σ'', j = n.toNat - k ∧ k ≤ n.toNat ∧ Ext kp' fz fz' ∧ St C' fz' m' σ'' s ∧ σ''.Perm ((it, .raw (rngO k n)) :: (acc, .list l) :: σ') ∧ Inv k l σ') ?_ (n.toNat - 0)
      ⟨0, fz, _, [], σ, _, rfl, Nat.zero_le _, Ext.refl _ _, S', List.Perm.swap _ _ _, h0⟩
    rintro j s₄ ⟨k, fz', m', l, σ', σ'', rfl, hk, ex, T, pm, hI⟩
    have T := T.perm pm
    rcases Nat.lt_or_ge k n.toNat with hlt | hge
    · refine rng_next (C := C') hlt .here T fun t s₅ T₅ => ?_
      refine G_assign_Name (store_step (C := C') (ρ := []) T₅ (fun _ _ e => by cases e) (.int _ _) (fun m₆ s₆ T₆ P₆ => ?_) hkind (lookup_relabel_local hx))
      refine wpG_mono (hbody C' ⟨_, _, rfl, bel⟩ k l σ' _ hlt hI fz' m₆ s₆ T₆ P₆) (fun v s₇ h₇ => ?_) fun _ _ e => e
      obtain ⟨fz₇, av, σ₂, x₇, T₇, i₇, σr', pm₇, hsz, hI₇⟩ := h₇
      have ap : CallV C' (.builtin "list.append") [.ref acc, av] ((it, .raw (rngO (k + 1) n)) :: (acc, .list l) :: σr') (fun v σ₃ => v = .none ∧ σ₃ = (it, .raw (rngO (k + 1) n)) :: (acc, .list (l ++ [av])) :: σr') :=
        V_append_list (.there .here) hsz ⟨rfl, rfl⟩
      refine wpG_mono (ap fz₇ [.ref acc, v] (.cons _ _ _ _ (.ref _) (.cons _ _ _ _ i₇ .nil)) _ s₇ (T₇.perm pm₇)) (fun v s₈ h₈ => ?_) fun _ _ e => e
      obtain ⟨fz₈, av₈, σ₈, x₈, T₈, i₈, rfl, rfl⟩ := h₈
      exact ⟨_, by omega, k + 1, fz₈, m₆, l ++ [av], σr', _, rfl, hlt, (ex.trans x₇).trans x₈, T₈, List.Perm.refl _, hI₇⟩
    · obtain rfl : k = n.toNat := by omega
      refine rng_end (C := C') ok.hh .here T fun s₅ T₅ => ?_
      exact hR _ fz' l σ' s₅ (Ext.narrow kcp ex) (fin fz' m' l σ' s₅ ex T₅) hI
  exact codeG_compStart (loop _ rfl) (rng_self (C := C') (.tail _ (.head _)) S' (loop _ rfl))

/-- a tracked list that is frozen -/
theorem St.frozen {fz : Heap} {m : Str → Option Value} {s : Shared} {a : Addr} {l : List AV} {σ' : Sto} (S : St C fz m σ s) (u : Del a (.list l) σ σ') : ∃ fz', Ext C.kp fz fz' ∧ St C fz' m σ' s ∧ Is fz' (.lst l) (.ref a) := by
  have ha := S.mem.trk _ u.mem
  obtain ⟨vs, pl, hi⟩ := ha.1
  obtain ⟨ob, hob, hc⟩ := pl.isList
  obtain ⟨S₂, x₂, g₂⟩ := (S.drop u).freeze hob ha.2.1 ha.2.2 (S.Lσ _ u.mem) (u.nodup S.mem.nodup).2
  exact ⟨_, x₂, S₂, .lst _ _ vs ⟨ob, g₂, hc⟩ (hi.mono x₂.1)⟩

theorem E_ListComp {r : Nat} {B : Heap} {outer : List Env} {elt iter : Expr} {x : Str} {px pos : Pos} {scope : Scope} {Q : AV → Sto → Prop} (cl : List (Str × Addr)) (ok : C.Ok r B outer)
    (h : Ev C iter ρ σ fun v σ₁ => ∃ (n : Int) (Inv : Nat → List AV → Sto → Prop), v = .rng 0 n ∧ -1000000 ≤ n ∧ n ≤ 1000000 ∧ Inv 0 [] σ₁ ∧
      (∀ C', CompAct C scope cl B outer C' → ∀ (k : Nat) l σr it acc P, k < n.toNat → Inv k l σr → Ev C' elt [(x, .int k)] ((it, .raw P) :: (acc, .list l) :: σr) fun v σ₂ => ∃ σr', σ₂.Perm ((it, .raw P) :: (acc, .list l) :: σr') ∧ l.length ≤ sizeLine ∧ Inv (k + 1) (l ++ [v]) σr') ∧
      (∀ l σ', Inv n.toNat l σ' → Q (.lst l) σ'))
    (hcell : ∀ y ∈ scope.names, y.2 ≠ .cell := by decide) (hkind : scope.kind = .function := by kernel_rfl) (hx : scope.names.lookup x = some .local := by kernel_rfl)
    (hnames : ∀ y ∈ scope.names, y.2 = .local → scope.names.lookup y.1 = some .local := by decide) (hclos : closureFor scope C.env = pure cl := by kernel_rfl)
    (hs : ∀ x, foldedSetIterable iter C.env x = pure x := by intro _; kernel_rfl) : Ev C (.ListComp elt [⟨.Name x px, iter, [], 0⟩] scope pos) ρ σ Q := fun fz m s S P => by
  show wpG C.M C.A (eval _ C.env) _ _ _
  rw [eval_ListComp]
  refine G_comprehension (use := none) rfl hs hclos hkind hnames ?_
  refine EvAt.step (h fz m s S P) fun fz₁ v u σ₁ s₁ x₁ S₁ i₁ h₁ => ?_
  obtain ⟨n, Inv, rfl, h1, h2, h0, hbody, hq⟩ := h₁
  refine rng_start (by omega) (by omega) i₁ S₁ fun it s₂ S₂ => ?_
  have S₃ := S₂.new_tracked (o := { cls := .type "list", data := .seq ([] : List Value).toArray }) (ao := .list []) rfl s₂.toks fun h' e => ⟨[], ⟨0, e⟩, .nil⟩
  refine .of (wpAny_newObj_type ?_ (by show _ ≤ _; simp [sizeLine_eq]))
  refine comp_block (C := C) ok hcell hkind hx Inv S₃ h0 h2 (fun C' hC' k l σr P hk hI => hbody C' hC' k l σr _ _ P hk hI) (R := fun Lc r s' => match r with | .ok _ => compDone C.M C.A C.E none (EvPost C fz m Q) (.ref s₂.heap.objs.size) Lc s' | .error _ => False) ?_
  intro Lc fz' l σ' s' ex T hI
  obtain ⟨od, hod, mm, hdo⟩ := (T.mem.trk _ (.head _)).1
  obtain ⟨es, ep, hd, r⟩ := hdo
  refine ⟨mm, ⟨od, es, ep, hod, hd, r⟩, fun h' hs' => ?_⟩
  have T₂ : St C fz' m ((s₂.heap.objs.size, .list l) :: σ') { s' with heap := h' } := T.upd_del (s' := { s' with heap := h' }) .here fun b ob hb e => (hs'.2 b hb).trans e
  obtain ⟨fz₃, x₃, T₃, i₃⟩ := T₂.frozen .here
  exact ⟨fz₃, .lst l, σ', (x₁.trans ex).trans x₃, T₃, i₃, hq l σ' hI⟩

theorem X_assignComp {r : Nat} {B : Heap} {outer : List Env} {elt iter : Expr} {x y : Str} {px py pos spos : Pos} {scope : Scope} {Q : Loc → Sto → Prop} {R : AV → Sto → Prop} (cl : List (Str × Addr)) (ok : C.Ok r B outer)
    (h : Ev C iter ρ σ fun v σ₁ => ∃ (n : Int) (Inv : Nat → List AV → Sto → Prop), v = .rng 0 n ∧ -1000000 ≤ n ∧ n ≤ 1000000 ∧ Inv 0 [] σ₁ ∧
      (∀ C', CompAct C scope cl B outer C' → ∀ (k : Nat) l σr it acc P, k < n.toNat → Inv k l σr → Ev C' elt [(x, .int k)] ((it, .raw P) :: (acc, .list l) :: σr) fun v σ₂ => ∃ σr', σ₂.Perm ((it, .raw P) :: (acc, .list l) :: σr') ∧ l.length ≤ sizeLine ∧ Inv (k + 1) (l ++ [v]) σr') ∧
      (∀ l σ', Inv n.toNat l σ' → Q ((y, .lst l) :: ρ) σ'))
    (hcell : ∀ y ∈ scope.names, y.2 ≠ .cell := by decide) (hkind : scope.kind = .function := by kernel_rfl) (hx : scope.names.lookup x = some .local := by kernel_rfl)
    (hnames : ∀ y ∈ scope.names, y.2 = .local → scope.names.lookup y.1 = some .local := by decide) (hclos : closureFor scope C.env = pure cl := by kernel_rfl)
    (hsw : swapsWith (.ListComp elt [⟨.Name x px, iter, [], 0⟩] scope pos) (some (.Name y py)) spos.line C.env = pure true := by kernel_rfl) (hy : C.env.kindOf y = some .local := by kernel_rfl)
    (hs : ∀ x, foldedSetIterable iter C.env x = pure x := by intro _; kernel_rfl) : Ex C (.Assign [.Name y py] (.ListComp elt [⟨.Name x px, iter, [], 0⟩] scope pos) spos) ρ σ Q R := fun fz m s S P => by
  rw [exec_Assign_Name_used _ _ _ _ hsw]
  refine wpG_bind (wpG_standAt (wpG_bind ?_))
  show wpG C.M C.A (do let _ ← comprehension (.ListComp elt [⟨.Name x px, iter, [], 0⟩] scope pos) scope C.env _ (newList []) false (eval iter C.env) (some (assign (.Name y py) C.env))) _ _ s
  refine wpG_bind (wpG_mono (G_comprehension (use := some (assign (.Name y py) C.env)) (Q := fun _ s' => FlowPost C fz Q R .next s') rfl hs hclos hkind hnames ?_) (fun _ s' hq => wpG_pure (wpG_pure hq)) fun _ _ e => e)
  refine EvAt.step (h fz m s S P) fun fz₁ v u σ₁ s₁ x₁ S₁ i₁ h₁ => ?_
  obtain ⟨n, Inv, rfl, h1, h2, h0, hbody, hq⟩ := h₁
  refine rng_start (by omega) (by omega) i₁ S₁ fun it s₂ S₂ => ?_
  have S₃ := S₂.new_tracked (o := { cls := .type "list", data := .seq ([] : List Value).toArray }) (ao := .list []) rfl s₂.toks fun h' e => ⟨[], ⟨0, e⟩, .nil⟩
  refine .of (wpAny_newObj_type ?_ (by show _ ≤ _; simp [sizeLine_eq]))
  refine comp_block (C := C) ok hcell hkind hx Inv S₃ h0 h2 (fun C' hC' k l σr P hk hI => hbody C' hC' k l σr _ _ P hk hI) (R := fun Lc r s' => match r with | .ok _ => compDone C.M C.A C.E (some (assign (.Name y py) C.env)) (fun _ s' => FlowPost C fz Q R .next s') (.ref s₂.heap.objs.size) Lc s' | .error _ => False) ?_
  intro Lc fz' l σ' s' ex T hI
  obtain ⟨fz₃, x₃, T₃, i₃⟩ := T.frozen (.there .here)
  have x₀₃ := (x₁.trans ex).trans x₃
  show wpG _ _ (assign (.Name y py) C.env (.ref s₂.heap.objs.size)) _ _ _
  refine G_assign_Name (store_step T₃ (P.mono x₀₃.1) i₃ (fun m₄ s₄ T₄ P₄ => ?_) ok.kind hy)
  obtain ⟨od, hod, mm, hdo⟩ := (T₄.mem.trk _ (.head _)).1
  obtain ⟨es, ep, hd, r⟩ := hdo
  refine ⟨mm, ⟨od, es, ep, hod, hd, r⟩, fun h' hs' => ?_⟩
  exact ⟨fz₃, m₄, σ', x₀₃, T₄.upd_del (s' := { s₄ with heap := h' }) .here fun b ob hb e => (hs'.2 b hb).trans e, _, P₄, hq l σ' hI⟩
end
end

-- C4
section
set_option Elab.async false
set_option maxRecDepth 100000
set_option maxHeartbeats 1000000
set_option linter.all false
open PySem PySem.W PySem.Calls PyProof.Rows PySem.Spec

section
variable {C : Act} {σ : Sto} {Q : AV → Sto → Prop}
/-- a call from the block of a comprehension -/
theorem CallV_fnB {r : Nat} {B : Heap} {l : List Env} {Z} {f : Value} {avs : List AV} {σp σr : Sto} {R : AV → Sto → Prop} (hF : Fn C.prog C.w C.b r Z f avs σp R) (room : Room r C.A) (hb : Bel C.A B l C.kp) (sp : Split σp σr σ)
    (hq : ∀ v σ', R v σ' → Q v (σ' ++ σr)) (hz : ∀ fz m s e s', St C fz m σ s → Z C.A (hideAll s.heap (σp.map (·.1))) B l C.os e s' → C.E e s') : CallV C f avs σ Q := fun fz vs i m s S => by
  have nd := sp.nodup S.mem.nodup
  have hid : ∀ b o, s.heap.get? b = some o → (∀ p ∈ σp, p.1 ≠ b) → (hideAll s.heap (σp.map (·.1))).get? b = some o := fun b o e n => hideAll_get _ e fun hm => by
    obtain ⟨p, hp, e⟩ := List.mem_map.mp hm
    exact n p hp e
  have kk : C.kp.StaysIn (hideAll s.heap (σp.map (·.1))) := fun b o e => hid b o (S.mem.kph b o e) fun p hp q => by
    have := (S.mem.trk p (sp.l p hp)).2.2; rw [q, e] at this; cases this
  obtain ⟨oL, es, ep, hoL, hdL, hrL⟩ := S.ns
  have hL' := hid _ _ hoL fun p hp => S.Lσ p (sp.l p hp)
  have bel : Bel C.A B l (hideAll s.heap (σp.map (·.1))) := ⟨hb.fr, hb.kf.of_keeps fun b o e _ => ⟨o, kk b o e, rfl⟩, fun b o e => kk b o (hb.Bk b o e)⟩
  have mem : Mem C.b (hideAll s.heap (σp.map (·.1))) fz σp C.os s :=
    ⟨S.mem.bfz, S.mem.fzh, fun b o e => of_hideAll _ e, fun p hp => ⟨(S.mem.trk p (sp.l p hp)).1, (S.mem.trk p (sp.l p hp)).2.1, hideAll_none _ (List.mem_map_of_mem hp)⟩, nd.1, S.mem.gens, S.mem.os⟩
  refine wpG_call (codeG_mono (hF C.A _ fz B _ C.os s vs room bel mem i) fun res s' h => ?_)
  cases res with
  | error e => exact hz fz m s e s' S h
  | ok fl =>
    cases fl with
    | ret v =>
      obtain ⟨fz', av, σ', x, M', i', hR⟩ := h
      refine ⟨fz', av, σ' ++ σr, x.narrow kk, ⟨⟨M'.bfz, M'.fzh, fun b o e => M'.kph b o (kk b o e), fun p hp => ?_, ?_, M'.gens, M'.os⟩, ⟨oL, es, ep, M'.kph _ _ hL', hdL, hrL⟩, x.2 _ _ hL' S.Lfz, S.Lkp, fun p hp => ?_⟩, i', hq _ _ hR⟩
      · rcases List.mem_append.mp hp with hp | hp
        · refine ⟨(M'.trk p hp).1, (M'.trk p hp).2.1, ?_⟩
          cases q : C.kp.get? p.1 with
          | none => rfl
          | some o => have := (M'.trk p hp).2.2; rw [kk _ _ q] at this; cases this
        · have h0 := S.mem.trk p (sp.r p hp)
          obtain ⟨ob, hob⟩ := h0.1.there
          have hp' := hid _ _ hob fun q hq => nd.2.2 q hq p hp
          refine ⟨(h0.1.mono x.1).at fun ob' e => ?_, x.2 _ _ hp' h0.2.1, h0.2.2⟩
          rw [hob] at e; cases e
          exact M'.kph _ _ hp'
      · rw [List.map_append, List.nodup_append]
        refine ⟨M'.nodup, nd.2.1, fun a ha b hb e => ?_⟩
        obtain ⟨p, hp, rfl⟩ := List.mem_map.mp ha
        obtain ⟨q, hq, rfl⟩ := List.mem_map.mp hb
        obtain ⟨ob, hob⟩ := (S.mem.trk q (sp.r q hq)).1.there
        have := hid _ _ hob fun y hy => nd.2.2 y hy q hq
        have h2 := (M'.trk p hp).2.2
        rw [show p.1 = q.1 from e, this] at h2; cases h2
      · rcases List.mem_append.mp hp with hp | hp
        · intro e
          have h2 := (M'.trk p hp).2.2
          rw [e, hL'] at h2; cases h2
        · exact S.Lσ p (sp.r p hp)
    | _ => exact h
end


end

-- S1
section
set_option Elab.async false
set_option maxRecDepth 100000
set_option maxHeartbeats 4000000
set_option linter.all false
local macro_rules | `(tactic| omega) => `(tactic| lia)
open PySem PySem.W PySem.Calls PyProof.Rows PySem.Spec

inductive BytesAre : List Value → List (List UInt8) → Prop
  | nil : BytesAre [] []
  | cons (b : List UInt8) (t : Tok) (vs : List Value) (l : List (List UInt8)) : BytesAre vs l → BytesAre (.bytes b.toArray t :: vs) (b :: l)
theorem BytesAre.length : ∀ {vs : List Value} {l : List (List UInt8)}, BytesAre vs l → vs.length = l.length
  | _, _, .nil => rfl
  | _, _, .cons _ _ _ _ h => congrArg (· + 1) h.length
theorem BytesAre.at : ∀ {vs : List Value} {l : List (List UInt8)}, BytesAre vs l → ∀ (i : Nat) (v : Value), vs[i]? = some v → ∃ t, v = .bytes (l.getD i []).toArray t
  | _, _, .nil, i, v, h => by simp at h
  | _, _, .cons b t _ _ hr, 0, v, h => by simp at h; exact ⟨t, by rw [← h]; rfl⟩
  | _, _, .cons b t _ _ hr, i + 1, v, h => by
    simp only [List.getElem?_cons_succ] at h
    obtain ⟨t', e⟩ := hr.at i v h
    exact ⟨t', by rw [e]; rfl⟩
theorem BytesAre.of {fz : Heap} : ∀ {l : List (List UInt8)} {vs : List Value}, Iss fz (l.map .bytes) vs → BytesAre vs l
  | [], _, h => by cases h; exact .nil
  | b :: l, _, h => by
    simp only [List.map_cons] at h
    cases h with
    | cons _ _ _ _ h1 h2 => cases h1; exact .cons _ _ _ _ (BytesAre.of h2)

section
variable {prog : Program} {w : World} {A : Around} {R : Result → Shared → Prop} {I : Addr} {fp wr : List Addr} {G : Array GenState → Array GenState → Prop} {n : Nat} {P : Nat → Value → Prop} {St : Nat → Shared → Prop}
theorem set_loop (W : WalksS prog w A.in1 I fp wr G n P St) (S : Addr) (hSf : S ∉ fp)
    (bs : List (List UInt8)) (hn : n = bs.length) (nd : bs.Nodup) (hval : ∀ i v, P i v → ∃ t, v = .bytes (bs.getD i []).toArray t) (hb : n + 1 < scanBound) :
    ∀ (k i : Nat) (s : Shared), n - i = k → i ≤ n → St i s →
      s.heap.SetOf (bytesKind prog w) S (fun k' => decide (k' ∈ bs.take i)) i →
      (∀ s', Moved (S :: wr) G s s' → s'.heap.SetOf (bytesKind prog w) S (fun k' => decide (k' ∈ bs.take n)) n → R (.ok (.ret .none)) s') →
      codeAny (model prog w) A (.builtin "set.update.loop" ⟨[.ref S, .ref I], []⟩) R s := by
  have hSw : S ∉ wr := fun h => hSf (W.sub _ h)
  have hsub : ∀ b ∈ wr, b ∈ S :: wr := fun b hb => List.mem_cons_of_mem _ hb
  intro k
  induction k with
  | zero =>
    intro i s hk hi hst hS hR
    have hin : i = n := by omega
    subst hin
    refine codeAny_builtin F.entry_set_update_loop ?_
    rw [Around.under_plainId F.plain_set_update_loop _]
    show wpAny _ A.in1 (pyNext (.ref I) >>= _) _ _ s
    refine wpAny_bind (W.done s _ _ hst fun s' hm => ?_)
    show wpAny _ A.in1 (ret Value.none) _ _ s'
    exact wpAny_pure (hR s' (hm.mono hsub) (by
      obtain ⟨o, es, ep, t, ho, rest⟩ := hS
      exact ⟨o, es, ep, t, hm.heap S _ hSw ho, rest⟩))
  | succ k ih =>
    intro i s hk hi hst hS hR
    have hlt : i < n := by omega
    refine codeAny_builtin F.entry_set_update_loop ?_
    rw [Around.under_plainId F.plain_set_update_loop _]
    show wpAny _ A.in1 (pyNext (.ref I) >>= _) _ _ s
    refine wpAny_bind (W.item i s _ _ hlt hst fun v s' hP hst' hm => ?_)
    obtain ⟨t, rfl⟩ := hval i v hP
    have hS' : s'.heap.SetOf (bytesKind prog w) S (fun k' => decide (k' ∈ bs.take i)) i := by
      obtain ⟨o, es, ep, tb, ho, rest⟩ := hS
      exact ⟨o, es, ep, tb, hm.heap S _ hSw ho, rest⟩
    show wpAny _ A.in1 (holding [Value.bytes (bs.getD i []).toArray t] (setAdd S (.bytes (bs.getD i []).toArray t)) >>= _) _ _ s'
    refine wpAny_bind (wpAny_holding ?_)
    unfold setAdd
    refine wpAny_holding ?_
    refine wpAny_bind ((bytesKind prog w).pyHash (k := bs.getD i []) (bytesKind_is _ _ _ _) ?_)
    have hib : i < bs.length := hn ▸ hlt
    have hget : bs.getD i [] = bs[i] := by simp [List.getD, hib]
    have hnew : decide (bs.getD i [] ∈ bs.take i) = false := by
      rw [decide_eq_false_iff_not, hget]
      intro hm
      obtain ⟨j, hj, e⟩ := List.getElem_of_mem hm
      rw [List.length_take] at hj
      rw [List.getElem_take] at e
      have := (List.getElem_inj (h₀ := by omega) (h₁ := hib) nd).mp e
      omega
    refine wpAny_setAddHashed_of (knd := bytesKind prog w) (s := { s' with toks := s'.toks + 1 }) (bytesKind_is _ _ _ _) rfl hS' (by omega) fun h' hsb hS2 => ?_
    have hmem : ∀ k' : List UInt8, (decide (k' ∈ bs.take i) || decide (k' = bs.getD i [])) = decide (k' ∈ bs.take (i + 1)) := fun k' => by
      have e : (k' ∈ bs.take i ++ [bs[i]]) = (k' ∈ bs.take i ∨ k' = bs[i]) := by rw [List.mem_append, List.mem_singleton]
      rw [List.take_succ_eq_append_getElem hib, hget]
      simp only [e, Bool.decide_or]
    have hSi : h'.SetOf (bytesKind prog w) S (fun k' => decide (k' ∈ bs.take (i + 1))) (i + 1) :=
      SetOf_congr hS2 hmem (by simp only [hnew, Bool.false_eq_true, if_false])
    refine wpAny_pure ⟨plainId_quiet F.plain_set_update_loop _, ih (i + 1) _ (by omega) hlt (W.frame _ s' _ _ hst' (Nat.le_succ _) fun b hb o e => ?_) hSi fun s'' hm'' hS'' => ?_⟩
    · rw [hsb.2 b (fun h : b = S => hSf (by rw [← h]; exact hb))]; exact e
    · refine hR s'' (Moved.trans W.gtrans ((hm.mono hsub).then_heap (Nat.le_succ _) fun b o hb e => ?_) hm'') hS''
      rw [hsb.2 b (fun h : b = S => hb (by rw [h]; exact List.mem_cons_self))]; exact e
end

section
variable {prog : Program} {w : World} {A : Around} {E : Value → Shared → Prop} {s : Shared}
theorem call_set_bytes {l : Addr} {items : Array Value} {bs : List (List UInt8)} {Q : Value → Shared → Prop}
    (hh : A.handled = none) (hl : s.heap.IsList l items) (hi : BytesAre items.toList bs) (nd : bs.Nodup) (hb : bs.length + 1 < scanBound)
    (h : ∀ (h' : Heap) (tk : Nat), h'.SetOf (bytesKind prog w) s.heap.objs.size (fun k' => decide (k' ∈ bs.take bs.length)) bs.length →
      (∀ b o, b < s.heap.objs.size → s.heap.get? b = some o → h'.get? b = some o) → Q (.ref s.heap.objs.size) { s with heap := h', toks := tk }) :
    wpAny (model prog w) A (call (.type "set") [.ref l]) Q E s := by
  have hsz : items.size = bs.length := by rw [← Array.length_toList]; exact hi.length
  obtain ⟨c, tl, hmro⟩ := F.called_set.mro
  have hmade := F.called_set.made
  have hsub := F.called_set.sub
  refine wpAny_call (codeAny_of_tree ?_)
  show wpAny _ _ (callAny (.type "set") _) _ _ _
  refine wpAny_pure ⟨Code.quiet_builtin _ (by decide +kernel), codeAny_builtin F.entry_type_call ?_⟩
  rw [Around.under_plain (weight_type_call_type "set" [.ref l] []) rfl]
  have h1 := F.called_set.notType
  have h2 := F.called_set.canCreate
  have hct := F.typeCall_set_1 (.ref l)
  repeat (any_goals (first | assumption | wp_step))
  refine codeAny_mono (code_set_new_1 (.ref l) (E := E) (Q₁ := fun obj s₁ => ∃ led : Bool, obj = .ref s.heap.objs.size ∧ s₁ = { s with heap := s.heap.push { cls := .type "set", dict := none, data := .set #[] 0 (.fresh 0 0 led) } }) fun led => ⟨led, rfl, rfl⟩) fun r s₁ hr => ?_
  cases r with
  | error e => exact hr
  | ok fl =>
    cases fl with
    | ret obj =>
      obtain ⟨led, rfl, rfl⟩ := hr
      have hS : (s.heap.push { cls := .type "set", dict := none, data := .set #[] 0 (.fresh 0 0 led) }).get? s.heap.objs.size = some { cls := .type "set", dict := none, data := .set #[] 0 (.fresh 0 0 led) } := Heap.get?_push_size _ rfl
      have hT : Shared.TypeIs { s with heap := s.heap.push { cls := .type "set", dict := none, data := .set #[] 0 (.fresh 0 0 led) } } (.ref s.heap.objs.size) "set" := ⟨_, hS, rfl⟩
      have hli := F.called_set.init.lookup
      have hbi := F.called_set.init.bind (.ref s.heap.objs.size)
      repeat (any_goals (first | assumption | wp_step))
      refine codeAny_mono (codeAny_call_builtin (R := wants (fun r s₂ => r = .none ∧ ∃ h' tk, s₂ = { s with heap := h', toks := tk } ∧
          h'.SetOf (bytesKind prog w) s.heap.objs.size (fun k' => decide (k' ∈ bs.take bs.length)) bs.length ∧
          (∀ b o, b < s.heap.objs.size → s.heap.get? b = some o → h'.get? b = some o)) E) F.called_set.init.plain F.entry_set_init (check_set_init_1 hT ?_)) fun r₂ s₂ hr₂ => ?_
      · obtain ⟨ol, hol, hcl, nl, hdl⟩ := hl
        obtain ⟨ocls, odict, odata, oslots⟩ := ol
        simp only at hcl hdl
        subst hcl; subst hdl
        have hol' : (s.heap.push { cls := .type "set", dict := none, data := .set #[] 0 (.fresh 0 0 led) }).get? l = some { cls := .type "list", dict := odict, data := .seq items nl, slots := oslots } := Heap.get?_push_of_some _ hol
        have hsls := F.sub_list_set
        have hslf := F.sub_list_frozenset
        have hne : (Value.type "list" == Value.type "dict") = false := by decide
        have hl1 : (s.heap.push { cls := .type "set", dict := none, data := .set #[] 0 (.fresh 0 0 led) }).IsList l items := ⟨_, hol', rfl, nl, rfl⟩
        unfold Builtin.«set.__init__» noKeywords Builtin.Frozenset.updateFrom
        generalize hPI : pyIter = PI
        wp_walk
        subst hPI
        refine wpAny_pyIter_list hl1 ?_
        refine wpAny_bind (wpAny_runValue ?_)
        have hlS : l < s.heap.objs.size := Heap.lt_size hol
        have hh3 : A.in1.in1.in1.handled = none := by simp [hh]
        have hneI : l ≠ (s.heap.push { cls := .type "set", dict := none, data := .set #[] 0 (.fresh 0 0 led) }).objs.size := by
          rw [Heap.size_push]; exact Nat.ne_of_lt (Nat.lt_succ_of_lt hlS)
        have hSf : s.heap.objs.size ∉ [(s.heap.push { cls := .type "set", dict := none, data := .set #[] 0 (.fresh 0 0 led) }).objs.size, l] := by
          rw [Heap.size_push]; simp only [List.mem_cons, List.mem_singleton, List.not_mem_nil, or_false, not_or]
          exact ⟨Nat.ne_of_lt (Nat.lt_succ_self _), Nat.ne_of_gt hlS⟩
        have hval : ∀ (i : Nat) (v : Value), items[i]? = some v → ∃ t, v = .bytes (bs.getD i []).toArray t := fun i v hv =>
          hi.at i v (by rw [Array.getElem?_toList]; exact hv)
        refine set_loop ((Walks.list hh3 _ l hneI items).toS) s.heap.objs.size
          hSf bs hsz nd hval (by rw [hsz]; exact hb) (items.size - 0) 0 _ (by omega) (Nat.zero_le _)
          ⟨⟨_, Heap.get?_push_size _ rfl, rfl, rfl⟩, (hl1.push _)⟩ ?hS0 ?hR
        case hS0 =>
          have hget : ((s.heap.push { cls := .type "set", dict := none, data := .set #[] 0 (.fresh 0 0 led) }).push { cls := .type "list_iterator", data := .fields #[.ref l, .int 0 0] }).get? s.heap.objs.size
              = some { cls := .type "set", dict := none, data := .set #[] 0 (.fresh 0 0 led) } := Heap.get?_push_of_some _ hS
          exact PyProof.Rows.SetOf_congr ((PyProof.Rows.setObjOf_fresh (knd := bytesKind prog w) led).setOf hget (by unfold scanBound; omega)) (fun _ => by simp) rfl
        case hR =>
          intro s' hm hS'
          rw [hsz] at hS'
          obtain ⟨h', g', d', tk', os'⟩ := s'
          have eg : g' = s.gens := hm.gens
          have ed : d' = s.drawn := hm.drawn
          have eo : os' = s.os := hm.os
          subst eg; subst ed; subst eo
          show wpAny _ _ _ _ _ _
          refine wpAny_pure ?_
          show wpAny _ _ (ret Value.none) _ _ _
          refine wpAny_pure ⟨rfl, h', tk', rfl, hS', fun b o hb e => ?_⟩
          have hb1 : b ≠ s.heap.objs.size := Nat.ne_of_lt hb
          have hb2 : b ≠ (s.heap.push { cls := .type "set", dict := none, data := .set #[] 0 (.fresh 0 0 led) }).objs.size := by
            rw [Heap.size_push]; exact Nat.ne_of_lt (Nat.lt_succ_of_lt hb)
          exact hm.heap b o (by simp only [List.mem_cons, List.mem_singleton, List.not_mem_nil, or_false, not_or]; exact ⟨hb1, hb2⟩) (Heap.get?_push_of_some _ (Heap.get?_push_of_some _ e))
      · cases r₂ with
        | error e => exact hr₂
        | ok fl₂ =>
          cases fl₂ with
          | ret r =>
            obtain ⟨rfl, h', tk, rfl, hS', hk'⟩ := hr₂
            repeat (any_goals (first | assumption | wp_step))
            exact h _ _ hS' hk'
          | _ => exact hr₂.elim
    | _ => exact hr.elim
end

/-- a set of n elements -/
noncomputable def SetO (n : Nat) (o : Obj) : Prop := o.ExactSet ∧ ∃ es ep t, o.data = .set es ep t ∧ t.fits es.size = true ∧ es.size = n

section
variable {C : Act} {ρ : Loc} {σ : Sto} {Q : AV → Sto → Prop}
theorem V_set {l : List (List UInt8)} (hh : C.A.handled = none) (nd : l.Nodup) (hb : l.length + 1 < scanBound) (h : ∀ a, (∀ p ∈ σ, p.1 ≠ a) → Q (.ref a) ((a, .raw (SetO l.length)) :: σ)) : CallV C (.type "set") [.lst (l.map .bytes)] σ Q := fun fz vs i m s S => by
  cases i using Iss.elimC with
  | cons _ _ v _ i1 i2 =>
    (first | obtain ⟨_, rfl⟩ := Is.intE i2 | obtain ⟨_, rfl⟩ := Is.bytesE i2 | obtain rfl := Is.refE i2 | obtain rfl := Is.boolE i2 | obtain rfl := Iss.nilE i2 | obtain rfl := Is.noneE i2 | obtain ⟨_, rfl⟩ := Is.strE i2 | cases i2)
    cases i1 using Is.elimL with
    | lst a _ ws hl hw =>
      have hl' : s.heap.IsList a ws.toArray := stays_list S.mem.fzh hl
      refine .of <| call_set_bytes hh hl' (by simpa using BytesAre.of hw) nd hb fun h' tk hS hk => ?_
      obtain ⟨o, ho, hex, es, ep, t, hd, _, _, hn, hf⟩ := hS.objOf
      have S₁ : St C fz m σ { s with heap := h', toks := tk } := S.grow fun b o e => hk b o (Heap.lt_size e) e
      have nt : ∀ p ∈ σ, p.1 ≠ s.heap.objs.size := fun p hp => by
        obtain ⟨ob, hob⟩ := (S.mem.trk p hp).1.there
        exact Nat.ne_of_lt (Heap.lt_size hob)
      exact ⟨_, .ref _, _, Ext.refl _ _, S₁.addT (ao := .raw (SetO l.length)) ⟨o, ho, hex, es, ep, t, hd, hf, hn⟩ S.mem.fzh.fresh S.mem.kph.fresh (Nat.ne_of_gt S.ns.lt) nt, .ref _, h _ nt⟩
theorem V_len_set {a : Addr} {n : Nat} (hm : (a, .raw (SetO n)) ∈ σ) (hn : n ≤ sizeLine) (h : Q (.int n) σ) : CallV C (.builtin "len") [.ref a] σ Q := fun fz vs i m s S => by
  cases i using Iss.elimC with
  | cons _ _ _ _ i1 i2 =>
    (first | obtain ⟨_, rfl⟩ := Is.intE i1 | obtain ⟨_, rfl⟩ := Is.bytesE i1 | obtain rfl := Is.refE i1 | obtain rfl := Is.boolE i1 | obtain rfl := Iss.nilE i1 | obtain rfl := Is.noneE i1 | obtain ⟨_, rfl⟩ := Is.strE i1 | cases i1); (first | obtain ⟨_, rfl⟩ := Is.intE i2 | obtain ⟨_, rfl⟩ := Is.bytesE i2 | obtain rfl := Is.refE i2 | obtain rfl := Is.boolE i2 | obtain rfl := Iss.nilE i2 | obtain rfl := Is.noneE i2 | obtain ⟨_, rfl⟩ := Is.strE i2 | cases i2)
    obtain ⟨o, ho, hex, es, ep, t, hd, hf, e⟩ := (S.mem.trk _ hm).1
    subst e
    rw [sizeLine_eq] at hn
    exact .of <| call_len_set ho hex hd hf (by omega) (here ((S.toks _).toks _) (.int _ _) h)
end
end

-- P4
section
set_option linter.all false
local macro_rules | `(tactic| omega) => `(tactic| lia)

theorem packGo_app (b : List UInt8) : ∀ (n : Nat) (d : List (Int × Int)) (begin i : Nat) (f : List UInt8), packGo b n d begin i f = f ++ packGo b n d begin i []
  | 0, _, _, _, _ => by simp [packGo]
  | n + 1, d, begin, i, f => by
    unfold packGo
    split
    · split
      · exact packGo_app b n _ _ _ _
      · simp only [List.nil_append]
        rw [packGo_app b n _ _ _ (f ++ _), packGo_app b n _ _ _ (seqB _ _ _), List.append_assoc]
    · simp
/-- the copies that the packed form tells of -/
noncomputable def cpsGo (b : List UInt8) : Nat → List (Int × Int) → Nat → Nat → List Cp
  | 0, _, _, _ => []
  | n + 1, known, begin, i =>
    if i + 12 ≤ b.length then
      match getI known (wordAt b i) with
      | none => cpsGo b n (setI known (wordAt b i) i) begin (i + 1)
      | some j =>
        let a := likeA b i j.toNat (min (i - begin) j.toNat)
        let m := likeO b i j.toNat (b.length - 5 - i)
        (i - a, i - a - begin, i - j.toNat, m + a) :: cpsGo b n (setI (setI known (wordAt b i) i) (wordAt b (i + m - 2)) (i + m - 2 : Nat)) (i + m) (i + m)
    else []
/-- … and the ends of its parts -/
noncomputable def endsGo (b : List UInt8) : Nat → List (Int × Int) → Nat → Nat → List Nat
  | 0, _, _, _ => [b.length]
  | n + 1, known, begin, i =>
    if i + 12 ≤ b.length then
      match getI known (wordAt b i) with
      | none => endsGo b n (setI known (wordAt b i) i) begin (i + 1)
      | some j =>
        let a := likeA b i j.toNat (min (i - begin) j.toNat)
        let m := likeO b i j.toNat (b.length - 5 - i)
        (i - a) :: endsGo b n (setI (setI known (wordAt b i) i) (wordAt b (i + m - 2)) (i + m - 2 : Nat)) (i + m) (i + m)
    else [b.length]

theorem u8_nat (n : Nat) (h : n < 256) : (u8 n).toNat = n := by unfold u8; simp; omega
theorem scan_more (t : List UInt8) (r : Nat) (hr : r < 255) : ∀ q : Nat, scan (List.replicate q 255 ++ u8 r :: t) = some (255 * q + r, q + 1)
  | 0 => by
    have : u8 r ≠ 255 := fun e => by have := congrArg UInt8.toNat e; rw [u8_nat r (by omega)] at this; simp at this; omega
    simp [scan, this, u8_nat r (by omega)]
  | q + 1 => by
    rw [List.replicate_succ, List.cons_append, scan, if_pos rfl, scan_more t r hr q]
    simp; omega
theorem lenP_more (p t : List UInt8) (n : Nat) : lenP (p ++ moreO n ++ t) p.length (min n 15) = some (n, p.length + (moreO n).length) := by
  unfold lenP moreO
  by_cases h : n < 15
  · rw [Nat.min_eq_left (by omega)]; simp [h]
  · rw [if_neg (by omega), if_neg h]
    rw [List.append_assoc, List.drop_left, List.append_assoc]
    show Option.map _ (scan (List.replicate ((n - 15) / 255) 255 ++ u8 ((n - 15) % 255) :: t)) = _
    rw [scan_more t _ (Nat.mod_lt _ (by decide))]
    have := Nat.div_add_mod (n - 15) 255
    simp; omega
theorem sl_app (p l t : List UInt8) : sl (p ++ l ++ t) p.length (p.length + l.length) = l := by
  unfold sl; rw [List.append_assoc, List.drop_left]; simp
theorem oc_app (p t : List UInt8) (x : UInt8) : oc (p ++ x :: t) p.length = x.toNat := by
  unfold oc; simp
theorem sl_at {f : List UInt8} {k k' : Nat} (p l t : List UInt8) (hf : f = p ++ l ++ t) (hk : k = p.length) (hk' : k' = k + l.length) : sl f k k' = l := by subst hf hk hk'; exact sl_app p l t
theorem oc_at {f : List UInt8} {k : Nat} (p t : List UInt8) (n : Nat) (hn : n < 256) (hf : f = p ++ u8 n :: t) (hk : k = p.length) : oc f k = n := by subst hf hk; rw [oc_app, u8_nat n hn]
theorem lenP_at {f : List UInt8} {k : Nat} (p t : List UInt8) (n : Nat) (hf : f = p ++ moreO n ++ t) (hk : k = p.length) : lenP f k (min n 15) = some (n, k + (moreO n).length) := by subst hf hk; exact lenP_more p t n
theorem read_last (p l t found : List UInt8) (c : List Cp) (e : List Nat) (size N : Nat) (hs : found.length + l.length = size) :
    readP (p ++ lastB l ++ t) size (N + 1) found c e p.length = (.ok (found ++ l), c, e ++ [size]) := by
  have h0 : oc (p ++ lastB l ++ t) p.length = min l.length 15 * 16 := oc_at p (moreO l.length ++ l ++ t) _ (by omega) (by unfold lastB; simp) rfl
  have h1 : lenP (p ++ lastB l ++ t) (p.length + 1) (min l.length 15) = some (l.length, p.length + 1 + (moreO l.length).length) :=
    lenP_at (p ++ [u8 (min l.length 15 * 16)]) (l ++ t) l.length (by unfold lastB; simp) (by simp)
  have h2 : sl (p ++ lastB l ++ t) (p.length + 1 + (moreO l.length).length) (p.length + 1 + (moreO l.length).length + l.length) = l :=
    sl_at (p ++ [u8 (min l.length 15 * 16)] ++ moreO l.length) l t (by unfold lastB; simp) (by simp; omega) rfl
  have h3 : (p ++ lastB l ++ t).length = p.length + 1 + (moreO l.length).length + l.length + t.length := by unfold lastB; simp; omega
  unfold readP
  rw [if_neg (by omega), h0, show min l.length 15 * 16 / 16 = min l.length 15 by omega, h1]
  simp only
  rw [if_neg (by omega), if_neg (by omega), h2]
  rw [if_pos (by simp; omega)]
  simp [hs]
theorem read_seq (p l t found : List UInt8) (c : List Cp) (e : List Nat) (size N back many : Nat) (hm : 4 ≤ many) (hs : found.length + l.length + many ≤ size) (hb : 0 < back) (hb2 : back ≤ found.length + l.length) (hb3 : back < 65536) :
    readP (p ++ seqB l back many ++ t) size (N + 1) found c e p.length =
      readP (p ++ seqB l back many ++ t) size N (copyP back many (found ++ l)) (c ++ [(found.length + l.length, l.length, back, many)]) (e ++ [found.length + l.length]) (p.length + (seqB l back many).length) := by
  generalize hf : p ++ seqB l back many ++ t = f
  have ef : f = p ++ u8 (min l.length 15 * 16 + min (many - 4) 15) :: (moreO l.length ++ l ++ (u8 (back % 256) :: u8 (back / 256) :: (moreO (many - 4) ++ t))) := by rw [← hf]; unfold seqB; simp
  have h0 : oc f p.length = min l.length 15 * 16 + min (many - 4) 15 := oc_at p _ _ (by omega) ef rfl
  have h1 : lenP f (p.length + 1) (min l.length 15) = some (l.length, p.length + 1 + (moreO l.length).length) :=
    lenP_at (p ++ [u8 (min l.length 15 * 16 + min (many - 4) 15)]) (l ++ (u8 (back % 256) :: u8 (back / 256) :: (moreO (many - 4) ++ t))) l.length (by rw [ef]; simp) (by simp)
  generalize hi1 : p.length + 1 + (moreO l.length).length = i₁ at h1
  have h2 : sl f i₁ (i₁ + l.length) = l :=
    sl_at (p ++ [u8 (min l.length 15 * 16 + min (many - 4) 15)] ++ moreO l.length) l (u8 (back % 256) :: u8 (back / 256) :: (moreO (many - 4) ++ t)) (by rw [ef]; simp) (by rw [← hi1]; simp; omega) rfl
  have h3 : f.length = i₁ + l.length + 2 + (moreO (many - 4)).length + t.length := by rw [ef, ← hi1]; simp; omega
  have h4 : oc f (i₁ + l.length) = back % 256 :=
    oc_at (p ++ [u8 (min l.length 15 * 16 + min (many - 4) 15)] ++ moreO l.length ++ l) (u8 (back / 256) :: (moreO (many - 4) ++ t)) _ (by omega) (by rw [ef]; simp) (by rw [← hi1]; simp; omega)
  have h5 : oc f (i₁ + l.length + 1) = back / 256 :=
    oc_at (p ++ [u8 (min l.length 15 * 16 + min (many - 4) 15)] ++ moreO l.length ++ l ++ [u8 (back % 256)]) (moreO (many - 4) ++ t) _ (by omega) (by rw [ef]; simp) (by rw [← hi1]; simp; omega)
  have h6 : lenP f (i₁ + l.length + 2) (min (many - 4) 15) = some (many - 4, i₁ + l.length + 2 + (moreO (many - 4)).length) :=
    lenP_at (p ++ [u8 (min l.length 15 * 16 + min (many - 4) 15)] ++ moreO l.length ++ l ++ [u8 (back % 256), u8 (back / 256)]) t (many - 4) (by rw [ef]; simp) (by rw [← hi1]; simp; omega)
  have h7 : p.length + (seqB l back many).length = i₁ + l.length + 2 + (moreO (many - 4)).length := by rw [← hi1]; unfold seqB; simp; omega
  rw [h7]
  conv => lhs; unfold readP
  rw [if_neg (by omega), h0, show (min l.length 15 * 16 + min (many - 4) 15) / 16 = min l.length 15 by omega, h1]
  simp only
  rw [if_neg (by omega), if_neg (by omega), h2, List.length_append, if_neg (by omega), if_neg (by omega), show (min l.length 15 * 16 + min (many - 4) 15) % 16 = min (many - 4) 15 by omega, h6]
  simp only
  rw [h4, h5, show back % 256 + 256 * (back / 256) = back by omega, if_neg (by omega), if_neg (by omega), show many - 4 + 4 = many by omega]

theorem copyP_like (b : List UInt8) (back : Nat) (hb : 0 < back) : ∀ (n s : Nat), back ≤ s → s + n ≤ b.length → (∀ k, k < n → oc b (s + k) = oc b (s + k - back)) → copyP back n (b.take s) = b.take (s + n)
  | 0, s, _, _, _ => rfl
  | n + 1, s, h1, h2, h => by
    have e0 : (b.take s).length = s := by simp; omega
    have e1 : b.take s ++ [(b.take s).getD ((b.take s).length - back) 0] = b.take (s + 1) := by
      rw [e0, List.take_succ_eq_append_getElem (by omega)]
      congr 2
      have h0 := h 0 (by omega)
      unfold oc at h0
      rw [Nat.add_zero] at h0
      have h0 := UInt8.toNat_inj.mp h0
      rw [List.getD_eq_getElem?_getD, List.getElem?_take_of_lt (by omega), ← List.getD_eq_getElem?_getD, ← h0]
      simp [List.getD_eq_getElem?_getD, List.getElem?_eq_getElem (show s < b.length by omega)]
    rw [copyP, e1, copyP_like b back hb n (s + 1) (by omega) (by omega) fun k hk => by have := h (k + 1) (by omega); rw [show s + 1 + k = s + (k + 1) by omega]; exact this]
    congr 1; omega
theorem likeO_eq (b : List UInt8) : ∀ (i j k t : Nat), t < likeO b i j k → oc b (i + t) = oc b (j + t)
  | _, _, 0, t, h => by simp [likeO] at h
  | i, j, k + 1, t, h => by
    unfold likeO at h
    split at h
    · rename_i e
      cases t with
      | zero => exact e
      | succ t => have := likeO_eq b (i + 1) (j + 1) k t (by omega); rw [show i + (t + 1) = i + 1 + t by omega, show j + (t + 1) = j + 1 + t by omega]; exact this
    · omega
theorem likeO_stop (b : List UInt8) : ∀ (i j k : Nat), likeO b i j k < k → oc b (i + likeO b i j k) ≠ oc b (j + likeO b i j k)
  | _, _, 0, h => by omega
  | i, j, k + 1, h => by
    unfold likeO at h ⊢
    split
    · rename_i e
      rw [if_pos e] at h
      have := likeO_stop b (i + 1) (j + 1) k (by omega)
      rw [show i + (likeO b (i + 1) (j + 1) k + 1) = i + 1 + likeO b (i + 1) (j + 1) k by omega, show j + (likeO b (i + 1) (j + 1) k + 1) = j + 1 + likeO b (i + 1) (j + 1) k by omega]; exact this
    · rename_i e; exact e
theorem likeA_eq (b : List UInt8) : ∀ (i j k t : Nat), t < likeA b i j k → oc b (i - 1 - t) = oc b (j - 1 - t)
  | _, _, 0, t, h => by simp [likeA] at h
  | i, j, k + 1, t, h => by
    unfold likeA at h
    split at h
    · rename_i e
      cases t with
      | zero => exact e
      | succ t => have := likeA_eq b (i - 1) (j - 1) k t (by omega); rw [show i - 1 - (t + 1) = i - 1 - 1 - t by omega, show j - 1 - (t + 1) = j - 1 - 1 - t by omega]; exact this
    · omega
theorem likeA_stop (b : List UInt8) : ∀ (i j k : Nat), likeA b i j k < k → oc b (i - likeA b i j k - 1) ≠ oc b (j - likeA b i j k - 1)
  | _, _, 0, h => by omega
  | i, j, k + 1, h => by
    unfold likeA at h ⊢
    split
    · rename_i e
      rw [if_pos e] at h
      have := likeA_stop b (i - 1) (j - 1) k (by omega)
      rw [show i - (likeA b (i - 1) (j - 1) k + 1) - 1 = i - 1 - likeA b (i - 1) (j - 1) k - 1 by omega, show j - (likeA b (i - 1) (j - 1) k + 1) - 1 = j - 1 - likeA b (i - 1) (j - 1) k - 1 by omega]; exact this
    · rename_i e; exact e

/-- what a copy must be -/
structure CpOk (b : List UInt8) (c : Cp) : Prop where
  begin : c.1 + 12 ≤ b.length
  fin : c.1 + c.2.2.2 + 5 ≤ b.length
  back0 : 0 < c.2.2.1
  back : c.2.2.1 ≤ c.1
  long : c.1 + c.2.2.2 + 5 < b.length → oc b (c.1 + c.2.2.2) ≠ oc b (c.1 + c.2.2.2 - c.2.2.1)
  ahead : 0 < c.2.1 → c.2.2.1 < c.1 → oc b (c.1 - 1) ≠ oc b (c.1 - 1 - c.2.2.1)
theorem sl_take (b : List UInt8) (i j : Nat) (h : i ≤ j) : b.take i ++ sl b i j = b.take j := by
  unfold sl
  rw [show j = i + (j - i) by omega, List.take_add]
  congr 2; omega

/-- a step of the packing that tells a copy -/
structure Step (b : List UInt8) (begin i j a m : Nat) : Prop where
  ha : a ≤ i - begin
  ha2 : a ≤ j
  m4 : 4 ≤ m
  mle : i + m + 5 ≤ b.length
  ji : j < i
  like : ∀ k, k < m + a → oc b (i - a + k) = oc b (i - a + k - (i - j))
  ok : CpOk b (i - a, i - a - begin, i - j, m + a)
theorem ar1 {i a k : Nat} (h : k < a) (h2 : a ≤ i) : i - 1 - (a - 1 - k) = i - a + k := by
  rw [← Nat.sub_add_sub_cancel h2 (Nat.lt_of_le_of_lt (Nat.zero_le k) h), ← Nat.sub_add_cancel (Nat.le_sub_one_of_lt h), Nat.add_left_comm, Nat.add_sub_cancel, Nat.add_sub_cancel_left]
theorem ar2 {i j a k : Nat} (h : j < i) (h2 : a ≤ j) : i - a + k - (i - j) = j - a + k := by
  rw [← Nat.sub_add_sub_cancel (Nat.le_of_lt h) h2, Nat.add_assoc, Nat.add_sub_cancel_left]
theorem ar3 {i a k : Nat} (h : a ≤ k) (h2 : a ≤ i) : i + (k - a) = i - a + k := by omega
theorem ar4 {i a m : Nat} (h2 : a ≤ i) : i - a + (m + a) = i + m := by omega
theorem ar5 {i j m : Nat} (h : j < i) : i + m - (i - j) = j + m := by omega
theorem ar6 {i j a : Nat} (h : j < i) (h2 : a ≤ j) : i - a - 1 - (i - j) = j - a - 1 := by
  rw [Nat.sub_sub i a 1, Nat.sub_sub, Nat.add_comm (a + 1), ← Nat.sub_sub, Nat.sub_sub_self (Nat.le_of_lt h), Nat.sub_sub]
theorem ar7 {a k : Nat} (h : k < a) : a - 1 - k < a := by omega
theorem ar8 {k m a : Nat} (h : k < m + a) (h1 : ¬ k < a) : k - a < m := by omega
theorem ar9 {l i m : Nat} (h : i + m + 5 < l) : m < l - 5 - i := by omega
theorem ar10 {l i m : Nat} (h : m ≤ l - 5 - i) (h1 : i + 12 ≤ l) : i + m + 5 ≤ l := by omega
theorem ar11 {a i begin j : Nat} (h : 0 < i - a - begin) (h2 : i - j < i - a) (hj : j < i) : a < min (i - begin) j :=
  Nat.lt_min.mpr ⟨Nat.lt_of_sub_pos (by rw [Nat.sub_right_comm]; exact h), Nat.lt_of_not_le fun hc => Nat.not_le_of_lt h2 (Nat.sub_le_sub_left hc i)⟩
theorem ar12 {l i : Nat} (h : i + 12 ≤ l) : 4 ≤ l - 5 - i := by omega
theorem step_of {b : List UInt8} {d : List (Int × Int)} {begin i : Nat} {j : Int} (hi : i + 12 ≤ b.length) (hb : begin ≤ i) (hd : dictOk b d i) (e : getI d (wordAt b i) = some j) :
    Step b begin i j.toNat (likeA b i j.toNat (min (i - begin) j.toNat)) (likeO b i j.toNat (b.length - 5 - i)) := by
  obtain ⟨h0, h1, h2⟩ := hd _ _ e
  clear hd e
  obtain ⟨j, rfl⟩ := Int.eq_ofNat_of_zero_le h0
  rw [Int.toNat_natCast] at h2 ⊢
  have hw : wordAt b i = wordAt b j := (Int.ofNat.inj h2).symm
  have hji : j < i := Int.ofNat_lt.mp h1
  clear h0 h1 h2
  have g1 := likeA_le b i j (min (i - begin) j)
  have ga : likeA b i j (min (i - begin) j) ≤ i - begin := Nat.le_trans g1 (Nat.min_le_left _ _)
  have gj : likeA b i j (min (i - begin) j) ≤ j := Nat.le_trans g1 (Nat.min_le_right _ _)
  clear g1
  have g2 := likeO_le b i j (b.length - 5 - i)
  have g4 := likeO_four hw (ar12 hi)
  have e1 := likeA_eq b i j (min (i - begin) j)
  have e2 := likeO_eq b i j (b.length - 5 - i)
  have s1 := likeA_stop b i j (min (i - begin) j)
  have s2 := likeO_stop b i j (b.length - 5 - i)
  generalize likeA b i j (min (i - begin) j) = a at *
  generalize likeO b i j (b.length - 5 - i) = m at *
  have gi : a ≤ i := Nat.le_trans gj (Nat.le_of_lt hji)
  have gm := ar10 g2 hi
  refine ⟨ga, gj, g4, gm, hji, fun k hk => ?_, ?_⟩
  · by_cases hka : k < a
    · have := e1 (a - 1 - k) (ar7 hka)
      rw [ar1 hka gi, ar1 hka gj] at this
      rw [this, ar2 hji gj]
    · have := e2 (k - a) (ar8 hk hka)
      rw [ar3 (Nat.le_of_not_lt hka) gi, ar3 (Nat.le_of_not_lt hka) gj] at this
      rw [this, ar2 hji gj]
  · refine ⟨Nat.le_trans (Nat.add_le_add_right (Nat.sub_le _ _) _) hi, ?_, Nat.sub_pos_of_lt hji, ?_, fun h => ?_, fun h h' => ?_⟩
    · show i - a + (m + a) + 5 ≤ _
      rw [ar4 gi]; exact gm
    · show i - j ≤ i - a
      exact Nat.sub_le_sub_left gj i
    · show oc b (i - a + (m + a)) ≠ oc b (i - a + (m + a) - (i - j))
      have h : i - a + (m + a) + 5 < b.length := h
      rw [ar4 gi] at h ⊢
      rw [ar5 hji]
      exact s2 (ar9 h)
    · have := s1 (ar11 h h' hji)
      show oc b (i - a - 1) ≠ oc b (i - a - 1 - (i - j))
      rw [ar6 hji gj]; exact this
theorem step_dict {b : List UInt8} {d : List (Int × Int)} {begin i j a m : Nat} (hd : dictOk b d i) (s : Step b begin i j a m) :
    dictOk b (setI (setI d (wordAt b i) i) (wordAt b (i + m - 2)) (i + m - 2 : Nat)) (i + m) := by
  have := s.m4
  exact (hd.set (i' := i + m) (by omega) i (by omega)).set (Nat.le_refl _) (i + m - 2) (by omega)

theorem read_pack (b : List UInt8) (hb : b.length < 65536) : ∀ (n : Nat) (d : List (Int × Int)) (begin i : Nat) (p t : List UInt8) (N : Nat) (c : List Cp) (e : List Nat), b.length - i < n → begin ≤ i → i ≤ b.length → dictOk b d i →
    (packGo b n d begin i []).length < N →
    readP (p ++ packGo b n d begin i [] ++ t) b.length N (b.take begin) c e p.length = (.ok b, c ++ cpsGo b n d begin i, e ++ endsGo b n d begin i)
  | 0, d, begin, i, p, t, N, c, e, h, _, _, _, _ => by omega
  | n + 1, d, begin, i, p, t, N, c, e, hn, hbi, hi, hd, hN => by
    obtain ⟨N, rfl⟩ : ∃ M, N = M + 1 := ⟨N - 1, by omega⟩
    unfold packGo cpsGo endsGo
    unfold packGo at hN
    by_cases h12 : i + 12 ≤ b.length
    · rw [if_pos h12] at hN
      simp only [if_pos h12]
      cases hj : getI d (wordAt b i) with
      | none =>
        rw [hj] at hN
        simp only at hN ⊢
        exact read_pack b hb n _ begin (i + 1) p t (N + 1) c e (by omega) (by omega) (by omega) (hd.set (by omega) i (by omega)) hN
      | some j =>
        rw [hj] at hN
        simp only [List.nil_append] at hN ⊢
        have s := step_of h12 hbi hd hj
        have hd' := step_dict hd s
        generalize likeA b i j.toNat (min (i - begin) j.toNat) = a at *
        generalize likeO b i j.toNat (b.length - 5 - i) = m at *
        have h1 := s.ha
        have h2 := s.ha2
        have h3 := s.m4
        have h4 := s.mle
        have h5 := s.ji
        generalize j.toNat = j at *
        rw [packGo_app, List.length_append] at hN
        rw [packGo_app]
        have hl : (sl b begin (i - a)).length = i - a - begin := sl_len b begin (i - a) (by omega)
        have hf : (b.take begin).length = begin := by simp; omega
        rw [show p ++ (seqB (sl b begin (i - a)) (i - j) (m + a) ++ packGo b n (setI (setI d (wordAt b i) i) (wordAt b (i + m - 2)) (i + m - 2 : Nat)) (i + m) (i + m) []) ++ t =
          p ++ seqB (sl b begin (i - a)) (i - j) (m + a) ++ (packGo b n (setI (setI d (wordAt b i) i) (wordAt b (i + m - 2)) (i + m - 2 : Nat)) (i + m) (i + m) [] ++ t) by simp]
        rw [read_seq p _ _ _ c e b.length N (i - j) (m + a) (by omega) (by omega) (by omega) (by omega) (by omega)]
        rw [hl, hf, sl_take b begin (i - a) (by omega), copyP_like b (i - j) (by omega) (m + a) (i - a) (by omega) (by omega) s.like]
        have hlen : 0 < (seqB (sl b begin (i - a)) (i - j) (m + a)).length := by unfold seqB; simp
        have ih := read_pack b hb n (setI (setI d (wordAt b i) i) (wordAt b (i + m - 2)) (i + m - 2 : Nat)) (i + m) (i + m) (p ++ seqB (sl b begin (i - a)) (i - j) (m + a)) t N (c ++ [(i - a, i - a - begin, i - j, m + a)]) (e ++ [i - a])
          (by omega) (by omega) (by omega) hd' (by omega)
        rw [List.length_append] at ih
        rw [show begin + (i - a - begin) = i - a by omega, show i - a + (m + a) = i + m by omega, ← List.append_assoc (p ++ seqB _ _ _), ih]
        simp
    · rw [if_neg h12] at hN
      simp only [if_neg h12, List.nil_append] at hN ⊢
      have hf : (b.take begin).length + (b.drop begin).length = b.length := by simp; omega
      rw [read_last p (b.drop begin) t (b.take begin) c e b.length N hf]
      simp

theorem cps_ok (b : List UInt8) : ∀ (n : Nat) (d : List (Int × Int)) (begin i : Nat), begin ≤ i → dictOk b d i → ∀ c ∈ cpsGo b n d begin i, CpOk b c
  | 0, _, _, _, _, _, c, h => by simp [cpsGo] at h
  | n + 1, d, begin, i, hbi, hd, c, h => by
    unfold cpsGo at h
    split at h
    · rename_i h12
      split at h
      · exact cps_ok b n _ _ _ (by omega) (hd.set (by omega) i (by omega)) c h
      · rename_i j hj
        have s := step_of h12 hbi hd hj
        have hd' := step_dict hd s
        simp only at h
        rcases List.mem_cons.mp h with rfl | h
        · exact s.ok
        · exact cps_ok b n _ _ _ (by omega) hd' c h
    · cases h

/-- ahead of the first copy no four octets come twice -/
theorem first_ok (b : List UInt8) : ∀ (n : Nat) (d : List (Int × Int)) (i : Nat), b.length - i < n → (∀ k, k < i → getI d (wordAt b k) ≠ none) → (∀ k k', k < k' → k' < i → wordAt b k ≠ wordAt b k') →
    ∀ k k', k < k' → k' < (match cpsGo b n d 0 i with | [] => b.length | c :: _ => c.1) → k' + 12 ≤ b.length → wordAt b k ≠ wordAt b k'
  | 0, d, i, h, _, _ => by omega
  | n + 1, d, i, hn, hk, hp => by
    intro k k' h1 h2 h3
    unfold cpsGo at h2
    by_cases h12 : i + 12 ≤ b.length
    · rw [if_pos h12] at h2
      cases hj : getI d (wordAt b i) with
      | none =>
        rw [hj] at h2
        simp only at h2
        refine first_ok b n _ (i + 1) (by omega) (fun q hq => ?_) (fun q q' hq hq' => ?_) k k' h1 h2 h3
        · rw [getI_setI]
          split
          · simp
          · rename_i ne
            rcases Nat.lt_or_ge q i with hlt | hge
            · exact hk q hlt
            · have : q = i := by omega
              subst this; exact absurd rfl ne
        · rcases Nat.lt_or_ge q' i with hlt | hge
          · exact hp q q' hq hlt
          · have : q' = i := by omega
            subst this
            intro e
            exact hk q hq (by rw [e]; exact hj)
      | some j =>
        rw [hj] at h2
        simp only at h2
        exact hp k k' h1 (by omega)
    · exact hp k k' h1 (by omega)

theorem dictOk_nil (b : List UInt8) : dictOk b [] 0 := fun w j e => by cases e
noncomputable def cpsW (b : List UInt8) : List Cp := cpsGo b (b.length + 1) [] 0 0
theorem read_packW (b t : List UInt8) (hb : b.length < 65536) : readW (packW b ++ t) b.length = (.ok b, cpsW b, endsGo b (b.length + 1) [] 0 0) := by
  have := read_pack b hb (b.length + 1) [] 0 0 [] t ((packW b ++ t).length + 1) [] [] (by omega) (by omega) (by omega) (dictOk_nil b) (by unfold packW; simp; omega)
  simpa [readW, packW, cpsW] using this
theorem cpsW_ok (b : List UInt8) : ∀ c ∈ cpsW b, CpOk b c := cps_ok b _ _ _ _ (Nat.le_refl _) (dictOk_nil b)
theorem cpsW_first (b : List UInt8) : ∀ k k', k < k' → k' < (match cpsW b with | [] => b.length | c :: _ => c.1) → k' + 12 ≤ b.length → wordAt b k ≠ wordAt b k' :=
  first_ok b (b.length + 1) [] 0 (by omega) (fun k h => by omega) (fun k k' _ h => by omega)
theorem cps_len (b : List UInt8) : ∀ (n : Nat) (d : List (Int × Int)) (begin i : Nat), (cpsGo b n d begin i).length ≤ n
  | 0, _, _, _ => by simp [cpsGo]
  | n + 1, d, begin, i => by
    unfold cpsGo
    split
    · split
      · have := cps_len b n (setI d (wordAt b i) i) begin (i + 1); omega
      · simp only [List.length_cons]; have := cps_len b n; exact Nat.succ_le_succ (this _ _ _)
    · simp
theorem pack_len (b : List UInt8) : ∀ (n : Nat) (d : List (Int × Int)) (begin i : Nat), begin ≤ i → i ≤ b.length → dictOk b d i → (packGo b n d begin i []).length ≤ 3 * (b.length - begin) + 2
  | 0, d, begin, i, hb, hi, _ => by
    have := lastB_len (b.drop begin)
    simp [packGo] at *; omega
  | n + 1, d, begin, i, hbi, hi, hd => by
    unfold packGo
    by_cases h12 : i + 12 ≤ b.length
    · rw [if_pos h12]
      cases hj : getI d (wordAt b i) with
      | none => exact pack_len b n _ begin (i + 1) (by omega) (by omega) (hd.set (by omega) i (by omega))
      | some j =>
        simp only [List.nil_append]
        have s := step_of h12 hbi hd hj
        have hd' := step_dict hd s
        generalize likeA b i j.toNat (min (i - begin) j.toNat) = a at *
        generalize likeO b i j.toNat (b.length - 5 - i) = m at *
        have h1 := s.ha
        have h2 := s.ha2
        have h3 := s.m4
        have h4 := s.mle
        have ih := pack_len b n _ (i + m) (i + m) (Nat.le_refl _) (by omega) hd'
        rw [packGo_app, List.length_append]
        have hl : (sl b begin (i - a)).length = i - a - begin := sl_len b begin (i - a) (by omega)
        have := seqB_len (sl b begin (i - a)) (i - j.toNat) (m + a) (by omega)
        omega
    · rw [if_neg h12]
      have := lastB_len (b.drop begin)
      simp at *; omega
theorem packW_len (b : List UInt8) : (packW b).length ≤ 3 * b.length + 2 := by
  have := pack_len b (b.length + 1) [] 0 0 (Nat.le_refl _) (Nat.zero_le _) (dictOk_nil b)
  simpa [packW] using this
end

-- V7
section
theorem E_cellM {C : Act} {ρ : Loc} {σ : Sto} {Q : AV → Sto → Prop} {x : Str} {pos : Pos} (h : ∃ c av, ((c, .cell (some av)) ∈ σ ∧ C.env.cells.lookup x = some c) ∧ Q av σ) (hk : C.env.scope.kind = .function := by kernel_rfl) (hx : C.env.kindOf x = some .cell := by kernel_rfl)
    (hd : (x == ("__debug__" : Str)) = false := by decide) : Ev C (.Name x pos) ρ σ Q :=
  let ⟨_, _, ⟨hm, hc⟩, h⟩ := h; E_cell hm h hk hx hc hd
local macro_rules | `(tactic| walk_at "mem") => `(tactic| (first | exact List.Mem.head _ | (refine List.Mem.tail _ ?_; walk_at "mem")))
local macro_rules | `(tactic| walk_at "ev") => `(tactic| ((with_reducible refine E_cellM (x := "octets") ?_); refine ⟨_, _, ⟨by walk_at "mem", by kernel_rfl⟩, ?_⟩))
theorem cut_take4 (b : List UInt8) (i : Nat) (h : i + 4 ≤ b.length) : cut b (some (i : Int)) (some ((i : Int) + 4)) = (b.drop i).take 4 := by
  rw [show (i : Int) + 4 = ((i + 4 : Nat) : Int) by omega, cut_sl b i (i + 4) (by omega) (by omega)]
  unfold sl; rw [show i + 4 - i = 4 by omega]
theorem word_of_four {b : List UInt8} {i j : Nat} (h : (b.drop i).take 4 = (b.drop j).take 4) : wordAt b i = wordAt b j := by
  have key : ∀ k, k < 4 → oc b (i + k) = oc b (j + k) := fun k hk => by
    have := congrArg (fun l => l[k]?) h
    simp only [List.getElem?_take_of_lt hk, List.getElem?_drop] at this
    unfold oc; simp only [List.getD_eq_getElem?_getD, this]
  have h0 := key 0 (by decide)
  have h1 := key 1 (by decide)
  have h2 := key 2 (by decide)
  have h3 := key 3 (by decide)
  simp only [Nat.add_zero] at h0
  unfold wordAt; rw [h0, h1, h2, h3]
noncomputable def wordsV (b : List UInt8) (n : Nat) : List (List UInt8) := (List.range n).map fun i => (b.drop i).take 4
theorem words_nodup {b : List UInt8} {n : Nat} (h : ∀ k k', k < k' → k' < n → wordAt b k ≠ wordAt b k') : (wordsV b n).Nodup := by
  unfold wordsV
  unfold List.Nodup
  rw [List.pairwise_map]
  refine List.Pairwise.imp_of_mem ?_ List.pairwise_lt_range
  intro k k' hk hk' hlt e
  exact h k k' hlt (List.mem_range.mp hk') (word_of_four e)
theorem words_succ (b : List UInt8) (n : Nat) : wordsV b (n + 1) = wordsV b n ++ [(b.drop n).take 4] := by unfold wordsV; rw [List.range_succ]; simp
theorem words_len (b : List UInt8) (n : Nat) : (wordsV b n).length = n := by simp [wordsV]

theorem Cut.all {R : AV → Sto → Prop} {v : AV} {σ : Sto} (h : R v []) : Cut R v σ := ⟨σ, [], by rw [List.append_nil], h⟩
noncomputable def firstOf (o : List UInt8) (cs : List Cp) : Nat := match cs with | [] => o.length | c :: _ => c.1
theorem minmax (a l : Nat) : (min (a : Int) (max 0 ((l : Int) - 11))).toNat = min a (l - 11) := by
  rw [show max 0 ((l : Int) - 11) = ((l - 11 : Nat) : Int) by omega]
  rcases Nat.le_total a (l - 11) with h | h
  · rw [Nat.min_eq_left h, Int.min_eq_left (Int.ofNat_le.mpr h), Int.toNat_natCast]
  · rw [Nat.min_eq_right h, Int.min_eq_right (Int.ofNat_le.mpr h), Int.toNat_natCast]
theorem copies_fn {w : World} {b : Heap} (hB : Base w b) (o : List UInt8) (cs : List Cp) (ho : o.length ≤ 1000) (hcs : cs.length ≤ 1000) (hc : ∀ c ∈ cs, CpOk o c)
    (hd : ∀ k k', k < k' → k' < firstOf o cs → k' + 12 ≤ o.length → wordAt o k ≠ wordAt o k') :
    Fn thePy w b 1 NoZ (.ref 156) [.bytes o, .lst (cpsV cs)] [] (fun v σ' => σ' = [] ∧ v = .bool true) := by
  refine Fn.drop (R := fun v σ' => v = .bool true) ?_ fun v σ' h => ⟨rfl, h⟩
  refine fn_cells (xs := ["octets", "copies"]) (hB.kx 156 _ rfl) rfl hB.nolimit (codeRec_of hB.kx rfl) (fun L => [(L + 1, .cell (some (.bytes o)))]) [("copies", .lst (cpsV cs))] (len2 fun v u => rfl) rfl ?_ ?_ ?_ ?_ ?_ ?_
  · intro L x hx
    simp only [List.mem_cons, List.not_mem_nil, or_false] at hx
    rcases hx with rfl | rfl
    · exact .inr ⟨rfl, rfl⟩
    · exact .inl rfl
  · intro fz h L vs i hcell p hp
    rw [List.mem_singleton] at hp; subst hp
    cases i with
    | cons _ _ v _ i1 i2 => cases i2 with | cons _ _ u _ i2 i3 =>
      obtain ⟨ob, h1, h2⟩ := hcell "octets" (L + 1) rfl
      exact ⟨ob, _, h1, h2, .some _ _ i1⟩
  · intro L p hp
    rw [List.mem_singleton] at hp; subst hp; exact Nat.lt_succ_self L
  · intro L; exact List.nodup_cons.mpr ⟨fun h => (nomatch h), .nil⟩
  · intro fz vs i
    cases i with
    | cons _ _ v _ i1 i2 => cases i2 with
      | cons _ _ u _ i2 i3 =>
        cases i3
        intro x av e
        rw [List.lookup_cons] at e
        split at e
        · rename_i hx
          cases e
          rw [beq_iff_eq.mp hx]
          exact ⟨u, rfl, i2⟩
        · cases e
  intro A kp B outer os L C hC ok
  subst hC
  have hz : o.length ≤ sizeLine := by rw [sizeLine_eq]; omega
  have hcz : (cpsV cs).length ≤ sizeLine := by rw [sizeLine_eq]; unfold cpsV; simp; omega
  simp only [List.append_nil]
  walk_at "evs"
  refine V_len_bytes hz ?_
  refine X_cons (X_for (fun _ _ h => h.elim) ?_)
  walk_at "evs"
  refine ⟨_, fun t ρ' σ' => ρ' = ([("size", .int o.length), ("copies", .lst (cpsV cs))] : Loc) ∧ σ' = [(L + 1, .cell (some (.bytes o)))], It_lst ok.hh, ⟨_, ?_, rfl, rfl⟩, ?_, ?_⟩
  · walk_at "sub"
  · rintro t ρ' σ' a ha ⟨rfl, rfl⟩
    obtain ⟨c, hcm, rfl⟩ : ∃ c ∈ cs, cpV c = a := by
      unfold cpsV at ha
      exact List.mem_map.mp (List.mem_of_getElem? ha)
    have k := hc c hcm
    obtain ⟨at', ahead, back, many⟩ := c
    obtain ⟨k1, k2, k3, k4, k5, k6⟩ := k
    simp only at k1 k2 k3 k4 k5 k6
    refine ⟨_, Tg_tup (xs := ["at", "ahead", "back", "many"]) ok.hh rfl, fun it P hne => ?_⟩
    simp only [List.zip_cons_cons, List.zip_nil_right, List.reverse_cons, List.reverse_nil, List.nil_append, List.cons_append]
    walk_at "evs"
    refine ⟨fun h1 => ?_, fun h1 => ?_⟩
    · have h1 := of_decide_eq_true h1; clear k5 k6; omega
    walk_at "evs"
    refine ⟨fun h2 => ?_, fun h2 => X_nil ?_⟩
    · have h2 := of_decide_eq_true h2; clear k5 k6; omega
    walk_at "evs"
    refine else_and ?_ fun h3 other => ?_
    · refine X_nil ?_
      walk_at "evs"
      refine ⟨fun h4 => ?_, fun h4 => ⟨fun e => (nomatch e), fun _ => X_nil ?_⟩⟩
      · have h4 := of_decide_eq_true h4
        walk_at "evs"
        refine ⟨fun h5 => ?_, fun h5 => ⟨fun e => (nomatch e), fun _ => X_nil ?_⟩⟩
        · have h5 := of_decide_eq_true h5
          walk_at "evs"
          refine I_bytesN (at' - 1) hz (by clear k5 k6; omega) (by clear k5 k6; omega) ?_
          walk_at "evs"
          refine I_bytesN (at' - 1 - back) hz (by clear k5 k6; omega) (by clear k5 k6; omega) ?_
          walk_at "evs"
          have hne := k6 (by clear k5; omega) (by clear k5; omega)
          refine ⟨fun e => ?_, fun _ => X_nil (X_nil ⟨_, _, ?_, .here, rfl, rfl⟩)⟩
          · have e := of_decide_eq_true e; clear k5 k6; omega
          · walk_at "sub"
        · refine X_nil ⟨_, _, ?_, .here, rfl, rfl⟩
          walk_at "sub"
      · refine X_nil ⟨_, _, ?_, .here, rfl, rfl⟩
        walk_at "sub"
    · have h3 := of_decide_eq_true h3
      walk_at "evs"
      rw [show (at' : Int) + (many : Int) = ((at' + many : Nat) : Int) by clear k5 k6; omega]
      refine I_bytesN (at' + many) hz rfl (by clear k5 k6; omega) ?_
      walk_at "evs"
      rw [show ((at' + many : Nat) : Int) - (back : Int) = ((at' + many - back : Nat) : Int) by clear k5 k6; omega]
      refine I_bytesN (at' + many - back) hz rfl (by clear k5 k6; omega) ?_
      walk_at "evs"
      have hne := k5 (by clear k6; omega)
      refine ⟨fun e => ?_, fun _ => other⟩
      have e := of_decide_eq_true e; clear k5 k6; omega
  · rintro ρ' σ' ⟨rfl, rfl⟩
    have units := ok.room.units
    have hf : firstOf o cs ≤ o.length := by
      cases cs with
      | nil => exact Nat.le_refl _
      | cons c cs => have := (hc c (.head _)).begin; show c.1 ≤ _; omega
    refine X_cons (X_assign (Ev.mono (Q := fun v σ' => v = .int (firstOf o cs) ∧ σ' = [(L + 1, .cell (some (.bytes o)))]) ?_ ?_))
    · walk_at "evs"
      refine E_List ?_
      walk_at "evs"
      refine ⟨Nat.le_of_ble_eq_true rfl, ?_⟩
      refine C_neL (Nat.lt_of_le_of_lt (Nat.le_trans (Nat.le_add_right _ _) (Nat.le_add_right _ _)) units) (by cases cs with | nil => exact .inr ⟨rfl, rfl⟩ | cons c cs => exact .inl (by simp [cpsV])) ?_
      walk_at "evs"
      cases cs with
      | nil =>
        refine ⟨fun e => by simp [cpsV] at e, fun _ => ?_⟩
        walk_at "evs"
        exact ⟨rfl, rfl⟩
      | cons c cs =>
        refine ⟨fun e => ?_, fun e => by simp [cpsV] at e⟩
        walk_at "evs"
        refine I_lst (x := cpV c) hcz (by decide) (by simp [cpsV]) ?_
        walk_at "evs"
        refine I_tup (x := .int c.1) (Nat.le_of_ble_eq_true rfl) (by decide) rfl ?_
        exact ⟨rfl, rfl⟩
    · rintro v σ' ⟨rfl, rfl⟩
      generalize firstOf o cs = first at *
      refine X_cons (X_assignComp (x := "at") [("octets", L + 1)] ok ?_)
      walk_at "evs"
      refine V_max ok.hh ?_
      walk_at "evs"
      refine V_min ok.hh ?_
      walk_at "evs"
      refine V_range ?_
      refine ⟨_, fun k l σr => l = (wordsV o k).map .bytes ∧ σr = [(L + 1, .cell (some (.bytes o)))], rfl, by omega, by omega, ⟨rfl, rfl⟩, ?_, ?_⟩
      · rintro C' ⟨Lc, kp', rfl, bel⟩ k l σr it acc P hk ⟨rfl, rfl⟩
        rw [minmax] at hk
        have hk1 := Nat.lt_of_lt_of_le hk (Nat.min_le_right _ _)
        clear hk hd
        walk_at "evs"
        refine ex_bytes hz ?_
        walk_at "evs"
        rw [cut_take4 o k (by clear hcz units hc hcs ho hf; omega)]
        refine ⟨_, List.Perm.refl _, by rw [List.length_map, words_len, sizeLine_eq]; clear hcz units hc hcs hf; omega, by rw [words_succ]; simp, rfl⟩
      · rintro l σ' ⟨rfl, rfl⟩
        rw [minmax]
        have nd : (wordsV o (min first (o.length - 11))).Nodup := words_nodup fun k k' h1 h2 => hd k k' h1 (Nat.lt_of_lt_of_le h2 (Nat.min_le_left _ _)) (by have h3 := Nat.lt_of_lt_of_le h2 (Nat.min_le_right _ _); clear h2 h1 hcz units hc hcs ho hf hd; omega)
        have hml : min first (o.length - 11) ≤ 1000 := Nat.le_trans (Nat.min_le_left _ _) (Nat.le_trans hf ho)
        have hl := words_len o (min first (o.length - 11))
        generalize min first (o.length - 11) = mm at *
        walk_at "evs"
        refine E_callS (gl_set hB) ?_
        walk_at "evs"
        refine V_set ok.hh nd (by rw [hl]; unfold scanBound; omega) fun a ha => ?_
        walk_at "evs"
        refine V_len_set (.head _) (by rw [hl, sizeLine_eq]; omega) ?_
        walk_at "evs"
        refine V_len_lst (by rw [List.length_map, hl, sizeLine_eq]; omega) ?_
        walk_at "evs"
        exact Cut.all (by simp)
end

-- V8
section
theorem E_and2T {C : Act} {ρ : Loc} {σ : Sto} {Q : AV → Sto → Prop} {x y : Expr} {pos : Pos} (h : Ev C x ρ σ fun v σ₁ => v = .bool true ∧ Ev C y ρ σ₁ Q) : Ev C (.BoolOp .And [x, y] pos) ρ σ Q := fun fz m s S P => by
  refine G_BoolOp_and ((h fz m s S P).step fun fz₁ v u σ₁ s₁ x₁ S₁ i₁ h₁ => ?_)
  obtain ⟨rfl, h₁⟩ := h₁
  cases i₁
  refine .of (wpAny_truthy_bool ?_)
  exact (h₁ fz₁ m s₁ S₁ (P.mono x₁.1)).ext x₁
/-- a call that does not raise -/
theorem V_calm {C : Act} {σ σp σr : Sto} {Q : AV → Sto → Prop} {r r' : Nat} {B : Heap} {outer : List Env} {f : Value} {avs : List AV} {W : Str → Prop} {R : AV → Sto → Prop} (hF : Fn C.prog C.w C.b r (ZT W) f avs σp R) (ok : C.Ok r' B outer) (hr : r ≤ r') (sp : Split σp σr σ)
    (hW : ∀ x, ¬ W x) (hq : ∀ v σ', R v σ' → Q v (σ' ++ σr)) : CallV C f avs σ Q := V_raises hF ok hr sp (fun x h => absurd h (hW x)) hq
theorem unpack_calm {w : World} {b : Heap} (hB : Base w b) {C : Act} {σ : Sto} {Q : AV → Sto → Prop} {r' : Nat} {B : Heap} {outer : List Env} {f o : List UInt8} {size : Nat} (ok : C.Ok r' B outer) (hr : 6 ≤ r') (e1 : C.prog = thePy) (e2 : C.w = w) (e3 : C.b = b)
    (hf : f.length ≤ 100000) (hsz : size ≤ 1000100) (he : (readW f size).1 = .ok o) (hq : Q (.bytes o) σ) : CallV C (.ref 123) [.bytes f, .int size] σ Q := by
  subst e2 e3
  have F := unpack_fn hB f size hf hsz
  rw [← e1] at F
  refine V_calm F ok hr (Split.none σ) (fun x h => ?_) fun v σ' h => ?_
  · obtain ⟨y, h, _⟩ := h
    rw [he] at h; cases h
  · obtain ⟨h1, l, h2, h3⟩ := h
    rw [he] at h2; cases h2; subst h1 h3; exact hq

theorem pack_right_fn {w : World} {b : Heap} (hB : Base w b) (o : List UInt8) (limit : Int) (ho : o.length ≤ 900) :
    Fn thePy w b 7 NoZ (.ref 163) [.bytes o, .int limit] [] (fun v σ' => σ' = [] ∧ v = .bool true) := by
  refine fn_quiet (xs := ["octets", "limit"]) (hB.kx 163 _ rfl) rfl hB.nolimit (codeRec_of hB.kx rfl) (len2 fun v u => rfl) rfl (by decide) (by decide) (by decide) ?_
  intro A kp B outer os L C hC ok
  subst hC
  simp only [List.zip_cons_cons, List.zip_nil_right]
  have hz : o.length ≤ sizeLine := by rw [sizeLine_eq]; omega
  have hpl := packW_len o
  have hpz : (packW o).length ≤ sizeLine := by rw [sizeLine_eq]; omega
  walk_at "evs"
  refine B_pow (by decide) (by decide) (by decide) ?_
  walk_at "evs"
  have h10 : (10 : Int) ^ (6 : Int).toNat = 1000000 := by decide
  refine V_def (lz4_pack_fn hB o (10 ^ (6 : Int).toNat) (by omega)) ok (by decide) ?_
  rw [if_pos (show ((packW o).length : Int) ≤ 10 ^ (6 : Int).toNat by omega)]
  refine X_cons (X_if (Tst.mono (Q := fun b σ' => b = false ∧ σ' = []) ?_ ?_))
  · walk_at "evs"
    refine V_def (lz4_pack_fn hB o limit (by omega)) ok (by decide) ?_
    walk_at "evs"
    refine V_len_bytes hpz ?_
    walk_at "evs"
    refine ⟨fun h => ?_, fun h => ?_⟩
    · rw [if_pos (of_decide_eq_true h)]
      walk_at "evs"
      exact ⟨by simp, rfl⟩
    · rw [if_neg (of_decide_eq_false h)]
      walk_at "evs"
      refine C_neNone ?_
      walk_at "evs"
      exact ⟨rfl, rfl⟩
  rintro bb σ' ⟨rfl, rfl⟩
  refine ⟨fun e => (nomatch e), fun _ => X_nil ?_⟩
  refine X_cons (X_assignTup ["told", "copies", "ends"] ok.hh ?_)
  walk_at "evs"
  refine V_len_bytes hz ?_
  walk_at "evs"
  have rd := read_packW o [] (by omega)
  rw [List.append_nil] at rd
  have rd2 := read_packW o [7, 0] (by omega)
  refine V_def (law_read_fn hB (packW o) o.length (by omega) (by omega)) ok (by decide) ?_
  rw [rd]
  refine ⟨_, rfl, rfl, ?_⟩
  simp only [List.zip_cons_cons, List.zip_nil_right, List.reverse_cons, List.reverse_nil, List.nil_append, List.cons_append]
  rw [show resV (Res.ok o) = .bytes o from rfl]
  walk_at "evs"
  refine ⟨fun h => ?_, fun h => ?_⟩
  · simp at h
  walk_at "evs"
  refine T_plain ?_
  walk_at "evs"
  have hcl : (cpsW o).length ≤ o.length + 1 := cps_len o _ _ _ _
  refine V_def (copies_fn hB o (cpsW o) (by omega) (by omega) (cpsW_ok o) (cpsW_first o)) ok (by decide) ?_
  walk_at "evs"
  refine ⟨fun e => (nomatch e), fun _ => X_nil ?_⟩
  refine X_cons (X_return (E_and2T ?_))
  walk_at "evs"
  refine V_len_bytes hz ?_
  walk_at "evs"
  refine unpack_calm hB ok (by omega) rfl rfl rfl (by omega) (by omega) (by rw [rd]) ?_
  walk_at "evs"
  refine ⟨by simp, ?_⟩
  walk_at "evs"
  refine B_addB (by simp; omega) ?_
  walk_at "evs"
  refine V_len_bytes hz ?_
  walk_at "evs"
  refine unpack_calm hB ok (by omega) rfl rfl rfl (by simp; omega) (by omega) (by rw [rd2]) ?_
  walk_at "evs"
  exact ⟨rfl, by simp⟩
end

-- V9
section
local macro_rules | `(tactic| walk_at "mem") => `(tactic| (first | assumption | exact List.Mem.head _ | (refine List.Mem.tail _ ?_; walk_at "mem")))
local macro_rules | `(tactic| walk_at "ev") => `(tactic| ((with_reducible refine E_cellM (x := "digits") ?_); refine ⟨_, _, ⟨by walk_at "mem", by kernel_rfl⟩, ?_⟩))
theorem rho2 {fz : Heap} {m : Str → Option Value} {x y : Str} {av bv : AV} {v u : Value} (hv : m x = some v) (hu : m y = some u) (i : Is fz av v) (j : Is fz bv u) : RhoOk fz [(x, av), (y, bv)] m := by
  intro z cv e
  rw [List.lookup_cons] at e
  split at e
  · rename_i hx
    cases e
    rw [beq_iff_eq.mp hx]; exact ⟨v, hv, i⟩
  · rw [List.lookup_cons] at e
    split at e
    · rename_i hx
      cases e
      rw [beq_iff_eq.mp hx]; exact ⟨u, hu, j⟩
    · cases e
theorem nth4 {a b c d : Int} {P : Int → Prop} (i : Nat) (hi : i < 4) (ha : P a) (hb : P b) (hc : P c) (hd : P d) : ∃ x, [AV.int a, .int b, .int c, .int d][(i : Int).toNat]? = some (.int x) ∧ P x := by
  rw [Int.toNat_natCast]
  have h : i = 0 ∨ i = 1 ∨ i = 2 ∨ i = 3 := by omega
  rcases h with rfl | rfl | rfl | rfl
  · exact ⟨_, rfl, ha⟩
  · exact ⟨_, rfl, hb⟩
  · exact ⟨_, rfl, hc⟩
  · exact ⟨_, rfl, hd⟩

theorem law_seq_fn {w : World} {b : Heap} (hB : Base w b) (ns : List Int) (h : Addr) (k : Nat) (hn : ns.length ≤ 1000) :
    Fn thePy w b 2 NoZ (.ref 182) [.lst (ofInts ns), .ref h] (handAt h k) (fun v σ' => ∃ k', σ' = handAt h k' ∧ ∃ l : List UInt8, v = .bytes l ∧ l.length ≤ 2100) := by
  refine fn_cells (xs := ["script", "hand"]) (hB.kx 182 _ rfl) rfl hB.nolimit (codeRec_of hB.kx rfl) (fun L => [(L + 1, .cell none)]) [("script", .lst (ofInts ns)), ("hand", .ref h)] (len2 fun v u => rfl) rfl ?_ ?_ ?_ ?_ ?_ ?_
  · intro L x hx
    simp only [List.mem_cons, List.not_mem_nil, or_false] at hx
    rcases hx with rfl | rfl
    · exact .inl rfl
    · exact .inl rfl
  · intro fz hh L vs i hcell p hp
    rw [List.mem_singleton] at hp; subst hp
    cases i with
    | cons _ _ v _ i1 i2 => cases i2 with | cons _ _ u _ i2 i3 =>
      obtain ⟨ob, h1, h2⟩ := hcell "digits" (L + 1) rfl
      exact ⟨ob, _, h1, h2, .none⟩
  · intro L p hp
    rw [List.mem_singleton] at hp; subst hp; exact Nat.lt_succ_self L
  · intro L; exact List.nodup_cons.mpr ⟨fun h => (nomatch h), .nil⟩
  · intro fz vs i
    cases i with
    | cons _ _ v _ i1 i2 => cases i2 with
      | cons _ _ u _ i2 i3 =>
        cases i3
        exact rho2 rfl rfl i1 i2
  intro A kp B outer os L C hC ok
  subst hC
  simp only [List.cons_append, List.nil_append]
  refine X_cons (X_assignCell (c := L + 1) (c0 := none) ?_)
  walk_at "evs"
  refine B_pow (by decide) (by decide) (by decide) ?_
  walk_at "evs"
  refine V_defL (draw_fn hB ns h k (2 ^ (40 : Int).toNat) hn (by decide)) ok (by decide) (.right (.left .nil)) fun v σ' hr => ?_
  obtain ⟨rfl, d, rfl, hd0, hd1⟩ := hr
  obtain ⟨d, rfl⟩ := Int.eq_ofNat_of_zero_le hd0
  refine ⟨_, .there .here, ?_⟩
  show Exs _ _ _ ([(h, AO.hand [.int ((k + 1 : Nat) : Int)]), (L + 1, AO.cell (some (AV.int (d : Int))))] : Sto) _ _
  generalize hσ : ([(h, AO.hand [.int ((k + 1 : Nat) : Int)]), (L + 1, AO.cell (some (AV.int (d : Int))))] : Sto) = σ₀
  have hσ' : σ₀ = (h, .hand [.int ((k + 1 : Nat) : Int)]) :: [(L + 1, AO.cell (some (AV.int (d : Int))))] := by rw [← hσ]
  have hmd : (L + 1, AO.cell (some (AV.int (d : Int)))) ∈ σ₀ := by rw [hσ']; exact .tail _ (.head _)
  refine X_cons (X_assignSwap (xs := ["many", "length", "back"]) ok.hh ?_)
  walk_at "evs"
  refine B_modN d 4 rfl rfl (by omega) ?_
  walk_at "evs"
  refine B_divN d 4 rfl rfl (by omega) (by omega) ?_
  walk_at "evs"
  refine B_modN (d / 4) 6 rfl rfl (by omega) ?_
  walk_at "evs"
  refine B_divN d 24 rfl rfl (by omega) (by omega) ?_
  walk_at "evs"
  refine B_modN (d / 24) 9 rfl rfl (by omega) ?_
  walk_at "evs"
  refine ⟨Nat.le_of_ble_eq_true rfl, _, rfl, rfl, ?_⟩
  simp only [List.zip_cons_cons, List.zip_nil_right, List.nil_append, List.cons_append]
  have hb1 : d % 4 < 4 := Nat.mod_lt _ (by decide)
  have hb2 : d / 4 % 6 < 6 := Nat.mod_lt _ (by decide)
  have hb3 : d / 24 % 9 < 9 := Nat.mod_lt _ (by decide)
  generalize d / 4 % 6 = len0 at *
  generalize d / 24 % 9 = back at *
  generalize hm0 : d % 4 = many0 at *
  refine X_cons (X_assign (Ev.mono (Q := fun v σ' => (∃ m : Int, v = .int m ∧ 0 ≤ m ∧ m ≤ 40) ∧ σ' = σ₀) ?_ ?_))
  · walk_at "evs"
    refine B_divN d 5184 rfl rfl (by omega) (by omega) ?_
    walk_at "evs"
    refine B_modN (d / 5184) 8 rfl rfl (by omega) ?_
    walk_at "evs"
    refine ⟨fun _ => ?_, fun _ => ?_⟩
    · walk_at "evs"
      refine E_List ?_
      walk_at "evs"
      refine B_divN d 216 rfl rfl (by omega) (by omega) ?_
      walk_at "evs"
      refine B_modN (d / 216) 6 rfl rfl (by omega) ?_
      have hb4 : d / 216 % 6 < 6 := Nat.mod_lt _ (by decide)
      generalize d / 216 % 6 = e at *
      walk_at "evs"
      refine ⟨Nat.le_of_ble_eq_true rfl, ?_⟩
      walk_at "evs"
      refine B_divN d 1296 rfl rfl (by omega) (by omega) ?_
      walk_at "evs"
      refine B_modN (d / 1296) 4 rfl rfl (by omega) ?_
      obtain ⟨x, hx, hx2⟩ := nth4 (a := (many0 : Int)) (b := 15 + (e : Int)) (c := 0) (d := 40) (P := fun x => 0 ≤ x ∧ x ≤ 40) (d / 1296 % 4) (Nat.mod_lt _ (by decide)) (by omega) (by omega) (by omega) (by omega)
      refine I_lst (x := .int x) (Nat.le_of_ble_eq_true rfl) (by omega) hx ?_
      exact ⟨⟨x, rfl, hx2⟩, rfl⟩
    · walk_at "evs"
      exact ⟨⟨_, rfl, by omega⟩, rfl⟩
  rintro v σ' ⟨⟨many, rfl, hm1, hm2⟩, eσ⟩
  rw [eσ]
  refine X_cons (X_assign (Ev.mono (Q := fun v σ' => (∃ m : Int, v = .int m ∧ 0 ≤ m ∧ m ≤ 270) ∧ σ' = σ₀) ?_ ?_))
  · walk_at "evs"
    refine ⟨fun _ => ?_, fun _ => ?_⟩
    · walk_at "evs"
      refine E_List ?_
      walk_at "evs"
      refine ⟨Nat.le_of_ble_eq_true rfl, ?_⟩
      walk_at "evs"
      refine B_divN d 41472 rfl rfl (by omega) (by omega) ?_
      walk_at "evs"
      refine B_modN (d / 41472) 4 rfl rfl (by omega) ?_
      obtain ⟨x, hx, hx2⟩ := nth4 (a := 15) (b := 16) (c := 15 + 255) (d := 30) (P := fun x => 0 ≤ x ∧ x ≤ 270) (d / 41472 % 4) (Nat.mod_lt _ (by decide)) (by omega) (by omega) (by omega) (by omega)
      refine I_lst (x := .int x) (Nat.le_of_ble_eq_true rfl) (by omega) hx ?_
      exact ⟨⟨x, rfl, hx2⟩, rfl⟩
    · walk_at "evs"
      exact ⟨⟨_, rfl, by omega⟩, rfl⟩
  rintro v σ' ⟨⟨len, rfl, hl1, hl2⟩, eσ⟩
  rw [eσ]
  refine X_cons (X_assign (Ev.mono (Q := fun v σ' => (∃ l : List UInt8, v = .bytes l ∧ l.length ≤ 1001) ∧ σ' = σ₀) ?_ ?_))
  · walk_at "evs"
    refine E_List ?_
    walk_at "evs"
    refine V_min ok.hh ?_
    walk_at "evs"
    refine B_mul (by mul_fits) ?_
    walk_at "evs"
    refine V_min ok.hh ?_
    walk_at "evs"
    refine ⟨Nat.le_of_ble_eq_true rfl, ?_⟩
    walk_at "evs"
    refine V_bytes_ints (l := [16 * min many 15 + min len 15]) ok.hh (by simp; omega) (Nat.le_of_ble_eq_true rfl) ?_
    walk_at "evs"
    refine ⟨fun hge => ?_, fun _ => ?_⟩
    · have hge := of_decide_eq_true hge
      walk_at "evs"
      refine V_defL (law_more_fn hB [] (many - 15) (by omega) (by omega)) ok (by decide) (Split.none _) fun v σ' hr => ?_
      obtain ⟨rfl, l, rfl, hl⟩ := hr
      refine B_addB (by simp; omega) ?_
      exact ⟨⟨_, rfl, by simp; omega⟩, rfl⟩
    · walk_at "evs"
      refine B_addB (by simp) ?_
      exact ⟨⟨_, rfl, by simp⟩, rfl⟩
  rintro v σ' ⟨⟨found, rfl, hf⟩, eσ⟩
  rw [eσ]
  have hmn : many.toNat ≤ 40 := by omega
  refine X_cons (X_assign (Ev.mono (Q := fun v σ' => (∃ l : List UInt8, v = .bytes l ∧ l.length ≤ 1043) ∧ σ' = σ₀) ?_ ?_))
  · walk_at "evs"
    refine E_ListComp (x := "k") [("digits", L + 1)] ok ?_
    walk_at "evs"
    refine V_range ?_
    refine ⟨_, fun k l σr => (∃ is : List Int, l = ofInts is ∧ is.length = k ∧ ∀ n ∈ is, 0 ≤ n ∧ n < 256) ∧ σr = σ₀, rfl, by omega, by omega, ⟨⟨[], rfl, rfl, fun _ h => (nomatch h)⟩, rfl⟩, ?_, ?_⟩
    · rintro C' ⟨Lc, kp', rfl, bel⟩ t l σr it acc P hk ⟨⟨is, rfl, hl, hr⟩, eσ⟩
      rw [eσ]
      walk_at "evs"
      refine B_divN d 165888 rfl rfl (by omega) (by omega) ?_
      walk_at "evs"
      refine B_modN (d / 165888 + t) 256 (by omega) rfl (by omega) ?_
      have hb4 : (d / 165888 + t) % 256 < 256 := Nat.mod_lt _ (by decide)
      generalize (d / 165888 + t) % 256 = x at *
      refine ⟨_, List.Perm.refl _, by simp [ofInts, sizeLine_eq]; omega, ⟨is ++ [(x : Int)], by simp [ofInts], by simp [hl], fun n hn => ?_⟩, rfl⟩
      rcases List.mem_append.mp hn with hn | hn
      · exact hr n hn
      · rw [List.mem_singleton] at hn; omega
    · rintro l σ' ⟨⟨is, rfl, hl, hr⟩, eσ⟩
      rw [eσ]
      walk_at "evs"
      refine V_bytes_ints ok.hh hr (by rw [sizeLine_eq]; omega) ?_
      refine B_addB (by simp; omega) ?_
      walk_at "evs"
      refine E_List ?_
      walk_at "evs"
      refine B_divN d 7 rfl rfl (by omega) (by omega) ?_
      walk_at "evs"
      refine B_modN (d / 7) 64 rfl rfl (by omega) ?_
      walk_at "evs"
      refine B_divN (d / 7 % 64) 63 rfl rfl (by omega) (by omega) ?_
      have hb5 : d / 7 % 64 < 64 := Nat.mod_lt _ (by decide)
      have hb6 : d / 7 % 64 / 63 < 2 := by omega
      generalize d / 7 % 64 / 63 = y at *
      walk_at "evs"
      refine ⟨Nat.le_of_ble_eq_true rfl, ?_⟩
      walk_at "evs"
      refine V_bytes_ints (l := [(back : Int), (y : Int)]) ok.hh (by simp; omega) (Nat.le_of_ble_eq_true rfl) ?_
      refine B_addB (by simp; omega) ?_
      exact ⟨⟨_, rfl, by simp; omega⟩, rfl⟩
  rintro v σ' ⟨⟨found₂, rfl, hf2⟩, eσ⟩
  rw [eσ]
  have fin : ∀ l : List UInt8, l.length ≤ 2100 → Cut (fun v σ' => ∃ k', σ' = handAt h k' ∧ ∃ l : List UInt8, v = .bytes l ∧ l.length ≤ 2100) (.bytes l) σ₀ := fun l hl =>
    ⟨[(L + 1, AO.cell (some (AV.int (d : Int))))], handAt h (k + 1), by rw [hσ']; exact List.Perm.swap _ _ _, k + 1, rfl, l, rfl, hl⟩
  walk_at "evs"
  refine ⟨fun hge => ?_, fun _ => ?_⟩
  · have hge := of_decide_eq_true hge
    walk_at "evs"
    refine V_defL (law_more_fn hB [] (len - 15) (by omega) (by omega)) ok (by decide) (Split.none _) fun v σ' hr => ?_
    obtain ⟨rfl, l, rfl, hl⟩ := hr
    refine B_addB (by omega) ?_
    exact fin _ (by simp; omega)
  · walk_at "evs"
    refine B_addB (by simp; omega) ?_
    exact fin _ (by simp; omega)
end

-- J1
section
set_option Elab.async false
set_option maxRecDepth 100000
set_option maxHeartbeats 1000000
set_option linter.all false
local macro_rules | `(tactic| omega) => `(tactic| lia)
open PySem PySem.W PySem.Calls PyProof.Rows PySem.Spec
open Builtin

namespace BJ
theorem slot_join : Slot "bytes" "join" "bytes.join" :=
  .of (owner := "bytes") (n := "join") (by rw [typeLookup_type, builtinLookup_eq_fast]; kernel_rfl) (by decide +kernel) (by decide +kernel) (by decide +kernel)
    (by first | exact .inl (by decide +kernel) | exact .inr (by decide +kernel)) (by rw [isSubtype_type]; kernel_rfl)
theorem entry_join : entryFor table "bytes.join" = some Builtin.«bytes.join» := by first | exact entryFor_of_tree (by kernel_rfl) | exact entryFor_of_fast (by kernel_rfl)
theorem type_join : typeOf (.builtin "bytes.join") = pure (.type "method_descriptor") := by show builtinType _ = _; rw [builtinType_eq_fast]; kernel_rfl
theorem args_join (a b : Value) : argsOk "bytes.join" ⟨[a, b], []⟩ := by unfold argsOk; kernel_rfl
theorem quiet_eq {nm : String} {m : Array UInt8} {t : Tok} : Bytes.takeBufferQuiet? nm (.bytes m t) 0 = pure (some (m, none)) := by
  unfold Bytes.takeBufferQuiet?
  rw [BA.take_eq]; rfl

section
variable {M : Model} {A : Around} {E : Value → Shared → Prop} {s : Shared}
theorem letGo_ok : ∀ {taken : List (Value × Option Value)} {keep : List Value} {Q : Unit → Shared → Prop}, (∀ p ∈ taken, p.2 = none) → Q () s → wpAny M A (Bytes.joinLetGo taken keep) Q E s
  | [], _, _, _, h => wpAny_pure h
  | (x, w) :: rest, keep, Q, hw, h => by
    have : w = none := hw (x, w) (.head _)
    subst this
    unfold Bytes.joinLetGo
    exact wpAny_bind (wpAny_letGo (letGo_ok (fun p hp => hw p (.tail _ hp)) h))
end
theorem joined_len : ∀ (parts : List (Array UInt8)) (k : Nat) (out : Array UInt8), ((parts.zipIdx k).foldl (fun out (p, i) => (if i > 0 then out ++ (#[] : Array UInt8) else out) ++ p) out).size = out.size + (parts.map (·.size)).sum
  | [], _, _ => by simp
  | p :: r, k, out => by
    rw [List.zipIdx_cons, List.foldl_cons, joined_len r]
    simp only [List.map_cons, List.sum_cons]
    split <;> simp <;> omega
theorem foldl_size : ∀ (parts : List (Array UInt8)) (n : Nat), parts.foldl (fun n p => n + p.size) n = n + (parts.map (·.size)).sum
  | [], _ => by simp
  | p :: r, n => by rw [List.foldl_cons, foldl_size r]; simp; omega

section
variable {prog : Program} {w : World} {A : Around} {E : Value → Shared → Prop} {s : Shared} {a : Addr}
theorem call_join {items : Array Value} {bs : List (List UInt8)} {t : Tok} {Q : Value → Shared → Prop} (hl : s.heap.IsList a items) (hb : BytesAre items.toList bs) (hz : (bs.map List.length).sum ≤ sizeLine)
    (h : ∀ (r : List UInt8) t k, r.length = (bs.map List.length).sum → Q (.bytes r.toArray t) { s with toks := k }) :
    wpG (model prog w) A (call (.builtin "bytes.join") [.bytes #[] t, .ref a]) Q E s := by
  refine BA.G_call_entry slot_join (typeIs_bytes _ _ _) entry_join (by decide +kernel) (.of ?_) (args_join _ _)
  have hsz : items.size = bs.length := by rw [← Array.length_toList]; exact hb.length
  obtain ⟨ob, ho, hc, n0, hd⟩ := hl
  have hseq : ∀ {M : Model} {A : Around} {E : Value → Shared → Prop} {Q : Option (Array Value) → Shared → Prop}, Q (some items) s → wpAny M A (seqItems? (.ref a)) Q E s := fun hq => by
    unfold seqItems?
    refine wpAny_bind (wpAny_load ho ?_)
    rw [hd]
    exact wpAny_pure hq
  show wpAny _ _ (Bytes.joinM .bytes ⟨[.bytes #[] t, .ref a], []⟩) _ _ s
  unfold Bytes.joinM
  dsimp only
  refine wpAny_bind (wpAny_of_eq (a := (Value.bytes #[] t, Value.ref a)) rfl ?_)
  dsimp only
  refine wpAny_bind (m := Bytes.joinItems (.ref a)) ?_
  unfold Bytes.joinItems
  refine wpAny_bind (wpAny_typeOf ⟨ob, ho, hc⟩ ?_)
  show wpAny _ _ (pure (Value.ref a)) _ _ _
  refine wpAny_pure ?_
  refine wpAny_bind (hseq ?_)
  have hget : ∀ i, i < bs.length → ∃ (m : List UInt8) (t : Tok), items.getD i .none = .bytes m.toArray t ∧ bs[i]? = some m := fun i hi => by
    have hi' : i < items.toList.length := by rw [Array.length_toList, hsz]; exact hi
    obtain ⟨t, e⟩ := hb.at i items.toList[i] (List.getElem?_eq_getElem hi')
    refine ⟨bs[i], t, ?_, List.getElem?_eq_getElem hi⟩
    rw [show bs.getD i [] = bs[i] by simp [List.getD, hi]] at e
    rw [← e]; simp [Array.getD, hsz, hi]
  have hb1 : ∀ i, i < bs.length → items.getD i .none = items.toList.getD i .none := fun i hi => by simp [Array.getD, List.getD, hsz, hi]
  clear hb
  by_cases h1 : items.size = 1
  · rcases items with ⟨l⟩
    have hln : l.length = bs.length := by simpa using hsz
    rcases l with _ | ⟨x, _ | ⟨y, r⟩⟩
    · cases h1
    · show wpAny _ _ (typeOf x >>= _) _ _ _
      obtain ⟨m, tk, e1, e2⟩ := hget 0 (by rw [← hln]; exact Nat.zero_lt_one)
      have e1 : x = .bytes m.toArray tk := e1
      subst e1
      refine wpAny_bind (wpAny_typeOf (typeIs_bytes _ _ _) ?_)
      show wpAny _ _ (rule _ >>= _) _ _ _
      refine wpAny_bind (wpAny_rule ?_)
      refine wpAny_pure ⟨_, rfl, ?_⟩
      have hbs : bs = [m] := by
        match bs, hln, e2 with
        | [c], _, e2 => simp at e2; rw [e2]
      exact h m tk s.toks (by rw [hbs]; simp)
    · cases h1
  show wpAny _ _ (Bytes.joinM.match_1 (fun _ => Sem _) items _ _) _ _ _
  delta Bytes.joinM.match_1
  rw [dif_neg h1]
  refine wpAny_bind ?_
  rw [Std.Legacy.Range.forIn_eq_forIn_range']
  refine wpAny_forIn_list _ (fun rest r s' => s' = s ∧ ∃ k, rest = List.range' k (bs.length - k) ∧ k ≤ bs.length ∧ r.1.toList.map (·.size) = (bs.map List.length).take k ∧ (∀ p ∈ r.2, p.2 = none ∧ p.1.onHeap = false)) _ ?_ ?_ _ _ ?_
  · rintro i rest ⟨parts, taken⟩ s' ⟨rfl, k, hr, hk, hp, ht⟩
    obtain ⟨q, hq⟩ : ∃ q, bs.length - k = q + 1 := by
      cases hq : bs.length - k with
      | zero => rw [hq] at hr; cases hr
      | succ q => exact ⟨q, rfl⟩
    rw [hq, List.range'_succ] at hr
    obtain ⟨rfl, rfl⟩ := List.cons.inj hr
    obtain ⟨m, tk, e1, e2⟩ := hget i (by omega)
    refine wpAny_bind (hseq ?_)
    have hany : (Bytes.Kind.bytes == Bytes.Kind.bytearray || taken.any fun x => x.fst.onHeap) = false := by
      rw [show (Bytes.Kind.bytes == Bytes.Kind.bytearray) = false from by decide, Bool.false_or, List.any_eq_false]
      intro p hp; rw [(ht p hp).2]; decide
    dsimp only
    rw [hany, e1]
    simp only [Bool.false_eq_true, if_false]
    refine wpAny_bind (wpAny_holding ?_)
    rw [quiet_eq]
    refine wpAny_pure ?_
    dsimp only
    refine wpAny_bind (hseq ?_)
    dsimp only
    rw [bne_self_eq_false]
    simp only [Bool.false_eq_true, if_false]
    refine wpAny_pure ⟨rfl, i + 1, by rw [show bs.length - (i + 1) = q by omega], by omega, ?_, fun p hp => ?_⟩
    · have hlt : i < (bs.map List.length).length := by rw [List.length_map]; omega
      rw [List.take_succ_eq_append_getElem hlt, ← hp]
      have e3 : bs[i]'(by omega) = m := by rw [List.getElem?_eq_getElem (by omega)] at e2; exact Option.some.inj e2
      simp [e3]
    · rcases List.mem_append.mp hp with hp | hp
      · exact ht p hp
      · rw [List.mem_singleton] at hp; subst hp; exact ⟨rfl, rfl⟩
  · rintro ⟨parts, taken⟩ s' ⟨rfl, k, hr, hk, hp, ht⟩
    have hk' : bs.length - k = 0 := by
      cases hq : bs.length - k with
      | zero => rfl
      | succ q => rw [hq, List.range'_succ] at hr; cases hr
    obtain rfl : k = bs.length := by omega
    rw [List.take_of_length_le (by rw [List.length_map]; omega)] at hp
    dsimp only at hp
    have hsum : (parts.toList.map (·.size)).sum = (bs.map List.length).sum := by rw [hp]
    refine wpAny_bind (m := Bytes.payload _) (wpAny_of_eq (a := (#[] : Array UInt8)) rfl ?_)
    have htl : Bytes.tooLong (parts.foldl (fun n p => n + p.size) ((#[] : Array UInt8).size * (parts.size - 1))) = false := by
      rw [← Array.foldl_toList, foldl_size, hsum]
      unfold Bytes.tooLong
      simp only [Array.size_empty, Nat.zero_mul, Nat.zero_add, decide_eq_false_iff_not]; omega
    dsimp only
    rw [htl]
    simp only [Bool.false_eq_true, if_false]
    refine wpAny_bind (m := Bytes.Kind.new _ _) ?_
    show wpAny _ _ (mkBytes _) _ _ _
    have hjs : (Bytes.joined #[] parts.toList).size = (bs.map List.length).sum := by
      have hj := joined_len parts.toList 0 #[]
      rw [hsum] at hj
      exact hj.trans (by simp)
    refine wpAny_mkBytes ?_ (by omega)
    refine wpAny_bind (wpAny_holding (wpAny_point ?_))
    refine wpAny_bind (letGo_ok (fun p hp => (ht p hp).1) ?_)
    refine wpAny_pure ⟨_, rfl, ?_⟩
    have := h (Bytes.joined #[] parts.toList).toList s'.toks (s'.toks + 1) (by rw [Array.length_toList, hjs])
    simpa using this
  · refine ⟨rfl, 0, ?_, Nat.zero_le _, rfl, fun _ h => nomatch h⟩
    rw [Nat.sub_zero, ← hsz]
    simp [Std.Legacy.Range.size]
end
end BJ

section
variable {C : Act} {σ : Sto} {Q : AV → Sto → Prop}
theorem K_join {b : List UInt8} : Kind C "join" (.bytes b) σ "bytes.join" := fun fz u m s i S => by
  (first | obtain ⟨_, rfl⟩ := Is.intE i | obtain ⟨_, rfl⟩ := Is.bytesE i | obtain rfl := Is.refE i | obtain rfl := Is.boolE i | obtain rfl := Iss.nilE i | obtain rfl := Is.noneE i | obtain ⟨_, rfl⟩ := Is.strE i | cases i)
  exact ⟨"bytes", FB.plainAttrs_bytes, BJ.slot_join, BJ.type_join, typeIs_bytes _ _ _, fun b e => by cases e⟩
theorem V_join {l : List (List UInt8)} (hz : (l.map List.length).sum ≤ sizeLine) (h : ∀ r : List UInt8, r.length = (l.map List.length).sum → Q (.bytes r) σ) : CallV C (.builtin "bytes.join") [.bytes [], .lst (l.map .bytes)] σ Q := fun fz vs i m s S => by
  cases i using Iss.elimC with
  | cons _ _ _ _ i1 i2 => cases i2 using Iss.elimC with
    | cons _ _ v _ i2 i3 =>
      (first | obtain ⟨_, rfl⟩ := Is.intE i3 | obtain ⟨_, rfl⟩ := Is.bytesE i3 | obtain rfl := Is.refE i3 | obtain rfl := Is.boolE i3 | obtain rfl := Iss.nilE i3 | obtain rfl := Is.noneE i3 | obtain ⟨_, rfl⟩ := Is.strE i3 | cases i3); (first | obtain ⟨_, rfl⟩ := Is.intE i1 | obtain ⟨_, rfl⟩ := Is.bytesE i1 | obtain rfl := Is.refE i1 | obtain rfl := Is.boolE i1 | obtain rfl := Iss.nilE i1 | obtain rfl := Is.noneE i1 | obtain ⟨_, rfl⟩ := Is.strE i1 | cases i1)
      cases i2 using Is.elimL with
      | lst a _ ws hl hw =>
        exact BJ.call_join (stays_list S.mem.fzh hl) (by simpa using BytesAre.of hw) hz fun r t k hr => here (S.toks k) (.bytes r t) (h r hr)
end
end

-- V10
section
local macro_rules | `(tactic| walk_at "mem") => `(tactic| (first | assumption | exact List.Mem.head _ | (refine List.Mem.tail _ ?_; walk_at "mem")))
local macro_rules | `(tactic| walk_at "ev") => `(tactic| ((with_reducible refine E_cellM (x := "script") ?_); refine ⟨_, .lst _, ⟨by walk_at "mem", by kernel_rfl⟩, ?_⟩))
local macro_rules | `(tactic| walk_at "ev") => `(tactic| ((with_reducible refine E_cellM (x := "hand") ?_); refine ⟨_, .ref _, ⟨by walk_at "mem", by kernel_rfl⟩, ?_⟩))
theorem perm3 {α : Type} (x a b : α) (l : List α) : (x :: a :: b :: l).Perm (a :: b :: x :: l) := (List.Perm.swap a x (b :: l)).trans ((List.Perm.swap b x l).cons a)
theorem sum_le {n : Nat} : ∀ (l : List (List UInt8)), (∀ x ∈ l, x.length ≤ n) → (l.map List.length).sum ≤ n * l.length
  | [], _ => by simp
  | x :: l, h => by
    have h1 := h x (.head _)
    have h2 := sum_le l fun y hy => h y (.tail _ hy)
    simp only [List.map_cons, List.sum_cons, List.length_cons, Nat.mul_succ]; omega

theorem law_any_fn {w : World} {b : Heap} (hB : Base w b) (ns : List Int) (h : Addr) (k : Nat) (hn : ns.length ≤ 1000) :
    Fn thePy w b 3 NoZ (.ref 187) [.lst (ofInts ns), .ref h] (handAt h k) (fun v σ' => ∃ k', σ' = handAt h k' ∧ ∃ l : List UInt8, v = .bytes l ∧ l.length ≤ 9000) := by
  refine fn_cells (xs := ["script", "hand"]) (hB.kx 187 _ rfl) rfl hB.nolimit (codeRec_of hB.kx rfl) (fun L => [(L + 1, .cell (some (.lst (ofInts ns)))), (L + 2, .cell (some (.ref h)))]) [] (len2 fun v u => rfl) rfl ?_ ?_ ?_ ?_ ?_ ?_
  · intro L x hx
    simp only [List.mem_cons, List.not_mem_nil, or_false] at hx
    rcases hx with rfl | rfl
    · exact .inr ⟨rfl, rfl⟩
    · exact .inr ⟨rfl, rfl⟩
  · intro fz hh L vs i hcell p hp
    cases i with
    | cons _ _ v _ i1 i2 => cases i2 with | cons _ _ u _ i2 i3 =>
      simp only [List.mem_cons, List.not_mem_nil, or_false] at hp
      rcases hp with rfl | rfl
      · obtain ⟨ob, h1, h2⟩ := hcell "script" (L + 1) rfl
        exact ⟨ob, _, h1, h2, .some _ _ i1⟩
      · obtain ⟨ob, h1, h2⟩ := hcell "hand" (L + 2) rfl
        exact ⟨ob, _, h1, h2, .some _ _ i2⟩
  · intro L p hp
    simp only [List.mem_cons, List.not_mem_nil, or_false] at hp
    rcases hp with rfl | rfl
    · exact Nat.lt_succ_self L
    · exact Nat.lt_succ_of_lt (Nat.lt_succ_self L)
  · intro L
    refine List.nodup_cons.mpr ⟨fun hm => ?_, List.nodup_cons.mpr ⟨fun h => (nomatch h), .nil⟩⟩
    have : L + 1 = L + 2 := by simpa using hm
    exact absurd this (Nat.ne_of_lt (Nat.lt_succ_self (L + 1)))
  · intro fz vs i x av e; cases e
  intro A kp B outer os L C hC ok
  subst hC
  simp only [List.cons_append, List.nil_append]
  walk_at "evs"
  refine E_method "bytes.join" ?_
  walk_at "evs"
  refine ⟨K_join, ?_⟩
  walk_at "evs"
  refine E_ListComp (x := "turn") [("script", L + 1), ("hand", L + 2)] ok ?_
  walk_at "evs"
  refine V_defL (draw_fn hB ns h k 5 hn (by decide)) ok (by decide) (.right (.right (.left .nil))) fun v σ' hr => ?_
  obtain ⟨rfl, r, rfl, hr0, hr1⟩ := hr
  walk_at "evs"
  refine V_range ?_
  generalize hcs : ([(L + 1, AO.cell (some (.lst (ofInts ns)))), (L + 2, .cell (some (.ref h)))] : Sto) = cells
  have m1 : (L + 1, AO.cell (some (.lst (ofInts ns)))) ∈ cells := by rw [← hcs]; exact .head _
  have m2 : (L + 2, AO.cell (some (.ref h))) ∈ cells := by rw [← hcs]; exact .tail _ (.head _)
  refine ⟨_, fun t l σr => ∃ (k' : Nat) (ls : List (List UInt8)), l = ls.map .bytes ∧ ls.length = t ∧ (∀ x ∈ ls, x.length ≤ 2100) ∧ σr = (h, .hand [.int (k' : Int)]) :: cells, rfl, by omega, by omega, ⟨k + 1, [], rfl, rfl, fun _ h => (nomatch h), rfl⟩, ?_, ?_⟩
  · rintro C' ⟨Lc, kp', rfl, bel⟩ t l σr it acc P hk ⟨k', ls, rfl, hl, hx, rfl⟩
    walk_at "evs"
    refine CallV_fnB (r := 2) (law_seq_fn hB ns h k' hn) (ok.room.less (by omega)) bel (.right (.right (.left (Split.none _)))) (fun v σ' hr => ?_) fun _ _ _ _ _ _ h => h.elim
    obtain ⟨k'', rfl, r, rfl, hr⟩ := hr
    refine ⟨_, perm3 _ _ _ _, by rw [List.length_map, sizeLine_eq]; omega, k'', ls ++ [r], by simp, by simp [hl], fun x hx' => ?_, rfl⟩
    rcases List.mem_append.mp hx' with hx' | hx'
    · exact hx x hx'
    · rw [List.mem_singleton] at hx'; subst hx'; exact hr
  · rintro l σ' ⟨k', ls, rfl, hl, hx, rfl⟩
    walk_at "evs"
    have hsum := sum_le ls hx
    have hl4 : ls.length ≤ 4 := by omega
    have hsum : (ls.map List.length).sum ≤ 8400 := Nat.le_trans hsum (Nat.mul_le_mul_left 2100 hl4)
    refine V_join (by rw [sizeLine_eq]; omega) fun found hf => ?_
    walk_at "evs"
    refine E_List ?_
    walk_at "evs"
    refine V_defL (draw_fn hB ns h k' 4 hn (by decide)) ok (by decide) (.left (Split.none _)) fun v σ' hr => ?_
    obtain ⟨rfl, r, rfl, hr0, hr1⟩ := hr
    walk_at "evs"
    refine B_mul (by mul_fits) ?_
    walk_at "evs"
    refine ⟨Nat.le_of_ble_eq_true rfl, ?_⟩
    walk_at "evs"
    refine V_bytes_ints (l := [r * 16]) ok.hh (by simp; omega) (Nat.le_of_ble_eq_true rfl) ?_
    refine B_addB (by simp; omega) ?_
    walk_at "evs"
    refine B_addB (by simp; omega) ?_
    generalize hF : found ++ List.map (fun n => n.toNat.toUInt8) [r * 16] ++ [120, 121, 122] = F
    have hFl : 4 ≤ F.length ∧ F.length ≤ 8404 := by rw [← hF]; simp; omega
    have hFz : F.length ≤ sizeLine := by rw [sizeLine_eq]; omega
    show Exs _ _ _ ((h, AO.hand [.int ((k' + 1 : Nat) : Int)]) :: cells) _ _
    refine X_cons (X_for (fun _ _ h => h.elim) ?_)
    walk_at "evs"
    refine V_defL (draw_fn hB ns h (k' + 1) 3 hn (by decide)) ok (by decide) (.left (Split.none _)) fun v σ' hr => ?_
    obtain ⟨rfl, r2, rfl, hr0, hr1⟩ := hr
    walk_at "evs"
    refine V_range ?_
    refine ⟨_, fun t ρ' σ' => ∃ (k : Nat) (l : List UInt8), ρ' = ([("found", .bytes l)] : Loc) ∧ σ' = (h, AO.hand [.int (k : Int)]) :: cells ∧ l.length = F.length, It_rng ok.hh (by omega) (by omega), ⟨_, ?_, k' + 1 + 1, F, rfl, rfl, rfl⟩, ?_, ?_⟩
    · walk_at "sub"
    · rintro t ρ' σ' a ha ⟨k, l, rfl, rfl, hll⟩
      refine ⟨_, Tg_name, fun it P hne => ?_⟩
      have hlz : l.length ≤ sizeLine := by rw [sizeLine_eq]; omega
      walk_at "evs"
      refine V_len_bytes hlz ?_
      walk_at "evs"
      refine V_defL (draw_fn hB ns h k (l.length : Nat) hn (by omega)) ok (by decide) (.right (.left (Split.none _))) fun v σ' hr => ?_
      obtain ⟨rfl, at', rfl, ha0, ha1⟩ := hr
      obtain ⟨at', rfl⟩ := Int.eq_ofNat_of_zero_le ha0
      walk_at "evs"
      refine ex_bytes hlz ?_
      walk_at "evs"
      refine E_List ?_
      walk_at "evs"
      refine V_defL (draw_fn hB ns h (k + 1) 256 hn (by decide)) ok (by decide) (.left (Split.none _)) fun v σ' hr => ?_
      obtain ⟨rfl, x, rfl, hx0, hx1⟩ := hr
      walk_at "evs"
      refine ⟨Nat.le_of_ble_eq_true rfl, ?_⟩
      walk_at "evs"
      refine V_bytes_ints (l := [x]) ok.hh (by simp; omega) (Nat.le_of_ble_eq_true rfl) ?_
      rw [C_cutTake]
      refine B_addB (by simp; omega) ?_
      walk_at "evs"
      refine ex_bytes hlz ?_
      walk_at "evs"
      rw [show (at' : Int) + 1 = ((at' + 1 : Nat) : Int) by omega, cut_from]
      refine B_addB (by simp; omega) ?_
      refine X_nil ⟨_, _, ?_, .there .here, k + 1 + 1, List.take at' l ++ List.map (fun n => n.toNat.toUInt8) [x] ++ List.drop (at' + 1) l, rfl, rfl, ?_⟩
      · walk_at "sub"
      · simp; omega
    · rintro ρ' σ' ⟨k, l, rfl, rfl, hll⟩
      have hlz : l.length ≤ sizeLine := by rw [sizeLine_eq]; omega
      walk_at "evs"
      refine ex_bytes hlz ?_
      walk_at "evs"
      refine V_len_bytes hlz ?_
      walk_at "evs"
      refine V_defL (draw_fn hB ns h k 6 hn (by decide)) ok (by decide) (.left (Split.none _)) fun v σ' hr => ?_
      obtain ⟨rfl, x, rfl, hx0, hx1⟩ := hr
      walk_at "evs"
      have hc := cut_le l none (some ((l.length : Int) - x))
      exact ⟨cells, handAt h (k + 1), List.perm_append_comm, k + 1, rfl, _, rfl, by omega⟩
end

-- V11
section
set_option Elab.async false
set_option maxRecDepth 100000
set_option maxHeartbeats 1000000
set_option linter.all false
local macro_rules | `(tactic| omega) => `(tactic| lia)
open PySem PySem.W PySem.Calls PyProof.Rows PySem.Spec

/-- a call from the top, where no frame stands below -/
noncomputable def FnT (prog : Program) (w : World) (b : Heap) (r : Nat) (f : Value) (avs : List AV) (σ : Sto) (R : AV → Sto → Prop) : Prop :=
  ∀ (A : Around) (kp fz B : Heap) (os : OsState) (s : Shared) (vs : List Value), b.StaysIn B → Room r A → Bel A B [] kp → Mem b kp fz σ os s → Iss fz avs vs →
    codeG (model prog w) A (.call f ⟨vs, []⟩) (fun r s' => match r with
      | .ok (.ret v) => ∃ fz' av σ', Ext kp fz fz' ∧ Mem b kp fz' σ' os s' ∧ Is fz' av v ∧ R av σ'
      | .ok _ => False
      | .error _ => False) s

theorem fn_top {prog : Program} {w : World} {b : Heap} {r : Nat} {a : Addr} {o : Obj} {name qual : Str} {params : Arguments} {body : List Stmt} {scope : Scope} {dV kV doc pm cdv ct : Value} {an : Option Addr} {avs : List AV} {σ : Sto} {R : AV → Sto → Prop} {xs : List Str}
    (ho : b.get? a = some o) (hd : o.data = .func (fnX name qual params body scope [] dV kV doc pm an cdv ct)) (hlim : b.NoLimit) (hcd : b.CodeRec cdv qual)
    (hbind : ∀ vs : List Value, vs.length = xs.length → bindArgs (fnX name qual params body scope [] dV kV doc pm an cdv ct) ⟨vs, []⟩ = pure (xs.zip vs)) (hlen : avs.length = xs.length)
    (hloc : ∀ x ∈ xs, scope.names.lookup x = some .local) (hnd : xs.Nodup) (hcell : ∀ x ∈ scope.names, x.2 ≠ .cell)
    (h : ∀ (A : Around) (kp B : Heap) (os : OsState) (L : Addr) (C : Act), C = ⟨prog, w, A.deeper (envX qual scope L a cdv []), envX qual scope L a cdv [], b, kp, os, fun _ _ => False⟩ → C.Ok r B [] → b.StaysIn B → Exs C body (xs.zip avs) σ (fun _ σ' => R .none σ') R)
    (hco : scope.isCoroutine = false := by kernel_rfl) (hgen : scope.isGenerator = false := by kernel_rfl) (hk : scope.kind = .function := by kernel_rfl) : FnT prog w b (r + 1) (.ref a) avs σ R := by
  intro A kp fz B os s vs hbB room bel M i
  have kb : b.StaysIn s.heap := fun a o e => M.fzh a o (M.bfz a o e)
  have hvl : vs.length = xs.length := i.length ▸ hlen
  have hL1 : kp.get? s.heap.objs.size = none := M.kph.fresh
  refine codeG_call_def (fd := fnX name qual params body scope [] dV kV doc pm an cdv ct) (body := body) (binds := xs.zip vs) (by have := room.depth; omega) (kb _ _ ho) hd (hlim.keeps kb) ?_ rfl (BindsTo.of_eq (hbind vs hvl)) hcell (fun x hx => hloc _ (List.of_mem_zip hx).1) (fun h₁ hns hk₁ => ?_) hco hgen hk
  · obtain ⟨c₂, o₂, vs₂, t₂, e₂, g₂, r₂⟩ := hcd
    exact ⟨c₂, o₂, vs₂, t₂, e₂, kb _ _ g₂, r₂⟩
  have ok : Act.Ok ⟨prog, w, A.deeper (envX qual scope s.heap.objs.size a cdv []), envX qual scope s.heap.objs.size a cdv [], b, kp, os, fun _ _ => False⟩ r B [] :=
    ⟨room.deeper _, by show (A.frames.map _) = _; rw [bel.fr]; rfl, bel.kf, hL1, bel.Bk, hk, rfl, rfl, rfl⟩
  have S : St ⟨prog, w, A.deeper (envX qual scope s.heap.objs.size a cdv []), envX qual scope s.heap.objs.size a cdv [], b, kp, os, fun _ _ => False⟩ fz (fun x => (xs.zip vs).reverse.lookup x) σ { s with heap := h₁, toks := s.toks + (xs.zip vs).length } :=
    ⟨M.grow (s' := { s with heap := h₁, toks := s.toks + (xs.zip vs).length }) hk₁ rfl rfl, hns, M.fzh.fresh, hL1, fun p hp => by
      obtain ⟨ob, hob⟩ := (M.trk p hp).1.there
      exact Nat.ne_of_lt (Heap.lt_size hob)⟩
  have P : RhoOk fz (xs.zip avs) (fun x => (xs.zip vs).reverse.lookup x) := by
    intro x av e
    have key : ∀ (xs : List Str) (avs : List AV) (vs : List Value), xs.Nodup → Iss fz avs vs → (xs.zip avs).lookup x = some av → ∃ v, (xs.zip vs).lookup x = some v ∧ Is fz av v := by
      intro xs
      induction xs with
      | nil => intro avs vs _ _ e; cases e
      | cons y ys ih =>
        intro avs vs nd i e
        cases i with
        | nil => cases e
        | cons a l v vs i1 i2 =>
          simp only [List.zip_cons_cons, List.lookup_cons] at e ⊢
          split at e
          · rename_i hy; cases e; exact ⟨v, by simp [hy], i1⟩
          · rename_i hy
            obtain ⟨u, hu, iu⟩ := ih l vs (List.nodup_cons.mp nd).2 i2 e
            exact ⟨u, by simp [hy, hu], iu⟩
    obtain ⟨v, hv, iv⟩ := key xs avs vs hnd i e
    refine ⟨v, ?_, iv⟩
    have hrev : ∀ (l : List (Str × Value)), (l.map (·.1)).Nodup → l.reverse.lookup x = l.lookup x := by
      intro l
      induction l with
      | nil => intro _; rfl
      | cons p l ih =>
        intro nd
        simp only [List.map_cons, List.nodup_cons] at nd
        rw [List.reverse_cons, List.lookup_append, ih nd.2, List.lookup_cons]
        obtain ⟨y, v⟩ := p
        by_cases hx : x = y
        · subst hx
          have : l.lookup x = none := by
            cases q : l.lookup x with
            | none => rfl
            | some u =>
              exfalso; apply nd.1
              clear ih nd hv e S
              induction l with
              | nil => cases q
              | cons p l ih =>
                obtain ⟨z, w'⟩ := p
                rw [List.lookup_cons] at q
                split at q
                · rename_i hz; simp [beq_iff_eq.mp hz]
                · exact .tail _ (ih q)
          simp [this]
        · have hb : (x == y) = false := beq_eq_false_iff_ne.mpr hx
          simp [List.lookup_cons, hb]
    show (xs.zip vs).reverse.lookup x = some v
    rw [hrev _ (by rw [List.map_fst_zip (by omega)]; exact hnd)]
    exact hv
  refine wpG_mono (h A kp B os s.heap.objs.size _ rfl ok hbB fz _ _ S P) (fun f s' hf => ?_) fun e s' he => he.elim
  obtain ⟨fz', m', σ', x, S', hf⟩ := hf
  cases f with
  | next => obtain ⟨ρ', P', hR⟩ := hf; exact ⟨fz', .none, σ', x, S'.mem, .none, hR⟩
  | ret v => obtain ⟨av, i', hR⟩ := hf; exact ⟨fz', av, σ', x, S'.mem, i', hR⟩
  | brk => exact hf.elim
  | cont => exact hf.elim


theorem Iss.ofIntsAre {fz : Heap} : ∀ {l : List Int} {vs : List Value}, IntsAre vs l → Iss fz (ofInts l) vs
  | _, _, .nil => .nil
  | _, _, .cons n t h => .cons _ _ _ _ (.int n t) (Iss.ofIntsAre h)

section
variable {C : Act} {ρ : Loc} {σ : Sto} {Q : AV → Sto → Prop}
theorem E_cut_ints {value upper p pos} (h : Ev C value ρ σ fun o σ₁ => ∃ ns, o = .lst (ofInts ns) ∧ ns.length ≤ sizeLine ∧ Ev C upper ρ σ₁ fun v σ₂ => ∃ y : Int, v = .int y ∧ 0 ≤ y ∧ Q (.lst (ofInts (ns.take y.toNat))) σ₂) :
    Ev C (.Subscript value (.Slice none (some upper) none p) pos) ρ σ Q := fun fz m s S P => by
  refine G_Subscript ((h fz m s S P).step fun fz₁ o u σ₁ s₁ x₁ S₁ i₁ h₁ => ?_)
  obtain ⟨ns, rfl, hz, h₁⟩ := h₁
  cases i₁ using Is.elimL with
  | lst a _ vs hl hv =>
  refine G_Slice (part_run (e := none) (Q := fun lo σ₂ => lo = none ∧ σ₂ = σ₁) (P_none ⟨rfl, rfl⟩) S₁ (P.mono x₁.1) fun fz₂ l lo σ₂ s₂ x₂ S₂ il h₂ => ?_)
  obtain ⟨rfl, rfl⟩ := h₂
  refine part_run (e := some upper) (Q := fun hi σ₂ => ∃ y : Int, hi = some y ∧ 0 ≤ y ∧ Q (.lst (ofInts (ns.take y.toNat))) σ₂) (P_some ((h₁).mono fun v σ₂ q => ?_)) S₂ (P.mono (x₁.trans x₂).1) fun fz₃ r hi σ₃ s₃ x₃ S₃ ir h₃ => ?_
  · obtain ⟨y, rfl, h0, q⟩ := q; exact ⟨y, rfl, y, rfl, h0, q⟩
  obtain ⟨y, rfl, h0, h₃⟩ := h₃
  have S₄ : St C fz₃ m σ₃ { s₃ with heap := s₃.heap.push { cls := .type "slice", data := .fields #[l, r, .none] } } := S₃.grow (push_stays _ _)
  have hl₄ : (s₃.heap.push { cls := .type "slice", data := .fields #[l, r, .none] }).IsList a vs.toArray := stays_list (fun b o e => S₄.mem.fzh b o ((x₂.trans x₃).1 b o e)) hl
  refine EvAt.ext ((x₁.trans x₂).trans x₃) (subTail (T := "list") hl₄.typeIs list_getitem_lookup (.of ?_) ⟨_, rfl⟩)
  have hn : vs.toArray.size ≤ sizeLine := by rw [List.size_toArray, ← hv.length]; simpa [ofInts] using hz
  refine wpAny_getItem_list_slice (s := { s₃ with heap := s₃.heap.push { cls := .type "slice", data := .fields #[l, r, .none] } }) hl₄ (Heap.IsSliceOf.new ..) il ir .none (by simp) ?_ hn
  obtain ⟨S₅, x₅, g₅⟩ := S₄.new_frozen (o := { cls := .type "list", data := .seq (slicePick vs.toArray none (some y) none) }) rfl s₃.toks
  refine ⟨_, .lst (ofInts (ns.take y.toNat)), σ₃, x₅, S₅, .lst _ _ (slicePick vs.toArray none (some y) none).toList ⟨_, g₅, rfl, 0, by simp⟩ (Iss.ofIntsAre (slice_ints_uptoW (Iss.ints hv) h0)), h₃⟩

/-- what _law_heard tells -/
theorem V_heard {w : World} {b : Heap} (hB : Base w b) {C : Act} {σ : Sto} {Q : AV → Sto → Prop} {r' : Nat} {B : Heap} (ok : C.Ok r' B []) (hr : 8 ≤ r') (e1 : C.prog = thePy) (e2 : C.w = w) (e3 : C.b = b) (hbB : b.StaysIn B)
    (f : List UInt8) (size : Nat) (hf : f.length ≤ 100000) (hsz : size ≤ 1000100) (hq : Q (resV (readW f size).1) σ) : CallV C (.ref 170) [.bytes f, .int size] σ Q := fun fz vs i m s S => by
  subst e2 e3
  cases i using Iss.elimC with
  | cons _ _ _ _ i1 i2 => cases i2 using Iss.elimC with
    | cons _ _ _ _ i2 i3 =>
      (first | obtain ⟨_, rfl⟩ := Is.intE i3 | obtain ⟨_, rfl⟩ := Is.bytesE i3 | obtain rfl := Is.refE i3 | obtain rfl := Is.boolE i3 | obtain rfl := Iss.nilE i3 | obtain rfl := Is.noneE i3 | obtain ⟨_, rfl⟩ := Is.strE i3 | cases i3)
      cases i1 using Is.elimB with
      | bytes _ t1 =>
      cases i2 using Is.elimI with
      | int _ t2 =>
      have kp := S.mem.kph
      obtain ⟨oL, es, ep, hoL, hdL, hrL⟩ := S.ns
      have kf : s.heap.FunFrames B [C.env] := by
        refine ⟨by rw [ok.kind]; decide, ⟨C.env.locals, oL, ok.frame, ?_, hoL, fun vs q => by rw [hdL] at q; cases q⟩, ok.kf.of_keeps fun b o e _ => ⟨o, kp b o e, rfl⟩⟩
        cases q : B.get? C.env.locals with
        | none => rfl
        | some o => have := ok.BB _ _ q; rw [ok.Bk] at this; cases this
      have H := heard_fn (os := C.os) (s := s) (t1 := t1) (t2 := t2) hB f size hf hsz (A := C.A) (ok.room.less hr) ok.fr kf (fun a o e => kp a o (ok.BB a o e)) (fun a o e => S.mem.fzh a o (S.mem.bfz a o e)) hbB S.mem.gens S.mem.os
      rw [← e1] at H
      refine wpG_call (codeG_mono H fun res s' hr => ?_)
      obtain ⟨v, rfl, iv, k1, k2, hg, hos⟩ := hr
      have hin : ∀ a, a ≠ C.env.locals → a ∉ [C.env].filterMap (·.frame) := fun a ha hm => by
        rw [List.filterMap_cons, ok.frame] at hm
        simp at hm; exact ha hm
      have keep : ∀ a o, a ≠ C.env.locals → s.heap.get? a = some o → s'.heap.get? a = some o := fun a o ha e => k1 a o e (hin a ha)
      obtain ⟨sl, hL'⟩ := k2 _ _ hoL
      refine ⟨fz, _, σ, Ext.refl _ _, ⟨⟨S.mem.bfz, fun a o e => keep a o (fun q => by rw [q, S.Lfz] at e; cases e) (S.mem.fzh a o e), fun a o e => keep a o (fun q => by rw [q, S.Lkp] at e; cases e) (S.mem.kph a o e), fun p hp => ⟨(S.mem.trk p hp).1.at fun ob e => keep _ _ (S.Lσ p hp) e, (S.mem.trk p hp).2⟩, S.mem.nodup, hg, hos⟩,
        ⟨_, es, ep, hL', hdL, hrL⟩, S.Lfz, S.Lkp, S.Lσ⟩, ?_, hq⟩
      cases hres : (readW f size).1 with
      | ok l => rw [hres] at iv; (first | obtain ⟨_, rfl⟩ := Is.intE iv | obtain ⟨_, rfl⟩ := Is.bytesE iv | obtain rfl := Is.refE iv | obtain rfl := Is.boolE iv | obtain rfl := Iss.nilE iv | obtain rfl := Is.noneE iv | obtain ⟨_, rfl⟩ := Is.strE iv | cases iv); exact .bytes _ _
      | bad y => rw [hres] at iv; (first | obtain ⟨_, rfl⟩ := Is.intE iv | obtain ⟨_, rfl⟩ := Is.bytesE iv | obtain rfl := Is.refE iv | obtain rfl := Is.boolE iv | obtain rfl := Iss.nilE iv | obtain rfl := Is.noneE iv | obtain ⟨_, rfl⟩ := Is.strE iv | cases iv); exact .str _ _
end
end

-- P5
section
set_option linter.all false
local macro_rules | `(tactic| omega) => `(tactic| lia)
theorem readP_ends (f : List UInt8) (size : Nat) : ∀ (n : Nat) (found : List UInt8) (c : List Cp) (e : List Nat) (i : Nat), (∀ x ∈ e, x ≤ size) → (∀ x ∈ (readP f size n found c e i).2.2, x ≤ size) ∧ (readP f size n found c e i).2.2.length ≤ e.length + n
  | 0, _, _, _, _, he => ⟨he, Nat.le_refl _⟩
  | n + 1, found, c, e, i, he => by
    unfold readP
    split
    · exact ⟨he, Nat.le_add_right _ _⟩
    split
    · exact ⟨he, Nat.le_add_right _ _⟩
    rename_i many i₁ _
    split
    · exact ⟨he, Nat.le_add_right _ _⟩
    rename_i h1
    split
    · exact ⟨he, Nat.le_add_right _ _⟩
    rename_i h2
    have hl : (sl f i₁ (i₁ + many)).length = many := by rw [sl_len f i₁ (i₁ + many) (by omega)]; omega
    have he' : ∀ x ∈ e ++ [(found ++ sl f i₁ (i₁ + many)).length], x ≤ size := fun x hx => by
      rcases List.mem_append.mp hx with hx | hx
      · exact he x hx
      · rw [List.mem_singleton] at hx; subst hx; rw [List.length_append, hl]; omega
    have hlen : (e ++ [(found ++ sl f i₁ (i₁ + many)).length]).length ≤ e.length + (n + 1) := by simp
    dsimp only
    split
    · exact ⟨he', hlen⟩
    split
    · exact ⟨he', hlen⟩
    split
    · exact ⟨he', hlen⟩
    split
    · exact ⟨he', hlen⟩
    split
    · exact ⟨he', hlen⟩
    exact ⟨(readP_ends f size n _ _ _ _ he').1, Nat.le_trans (readP_ends f size n _ _ _ _ he').2 (by rw [List.length_append, List.length_singleton]; omega)⟩
theorem readW_ends (f : List UInt8) (size : Nat) : (∀ x ∈ (readW f size).2.2, x ≤ size) ∧ (readW f size).2.2.length ≤ f.length + 1 := by
  have := readP_ends f size (f.length + 1) [] [] [] 0 (fun _ h => nomatch h)
  exact ⟨this.1, by simpa [readW] using this.2⟩
theorem packW_nil : packW [] = [0] := by decide
end

-- V12
section
theorem law_top {w : World} {b : Heap} (hB : Base w b) (ns : List Int) (hn : ns.length ≤ 1000) :
    FnT thePy w b 9 (.ref 194) [.lst (ofInts ns)] [] (fun v σ' => v = .bool true) := by
  refine fn_top (xs := ["script"]) (hB.kx 194 _ rfl) rfl hB.nolimit (codeRec_of hB.kx rfl) (len1 fun v => rfl) rfl (by decide) (by decide) (by decide) ?_
  intro A kp B os L C hC ok hbB
  subst hC
  simp only [List.zip_cons_cons, List.zip_nil_right]
  refine X_cons (X_assign (E_cut_ints ?_))
  walk_at "evs"
  refine ⟨ns, rfl, by rw [sizeLine_eq]; omega, ?_⟩
  walk_at "evs"
  refine ⟨by decide, ?_⟩
  have hn' : (ns.take (63 : Int).toNat).length ≤ 1000 := by rw [List.length_take]; omega
  generalize ns.take (63 : Int).toNat = ms at *
  refine X_cons (X_assign (E_ListH ?_))
  walk_at "evs"
  refine ⟨Nat.le_of_ble_eq_true rfl, fun h hne => ?_⟩
  show Exs _ _ _ (handAt h 0) _ _
  walk_at "evs"
  refine V_defL (law_octets_fn hB ms h 0 hn') ok (by decide) (.left .nil) fun v σ' hr => ?_
  obtain ⟨k, rfl, o, rfl, ho⟩ := hr
  have hz : o.length ≤ sizeLine := by rw [sizeLine_eq]; omega
  walk_at "evs"
  refine T_plain ?_
  walk_at "evs"
  refine V_len_bytes hz ?_
  walk_at "evs"
  refine V_defL (draw_fn hB ms h k ((o.length : Int) + 4) hn' (by omega)) ok (by decide) (.left .nil) fun v σ' hr => ?_
  obtain ⟨rfl, limit, rfl, hl0, hl1⟩ := hr
  walk_at "evs"
  refine V_def (pack_right_fn hB o limit (by omega)) ok (by decide) ?_
  walk_at "evs"
  refine ⟨fun e => (nomatch e), fun _ => ?_⟩
  walk_at "evs"
  refine V_def (lz4_pack_fn hB [] 0 (by simp)) ok (by decide) ?_
  rw [packW_nil, if_neg (by decide)]
  walk_at "evs"
  refine ⟨fun e => (nomatch e), fun _ => X_nil ?_⟩
  show Exs _ _ _ (handAt h (k + 1)) _ _
  generalize k + 1 = k
  refine X_cons (X_for (fun _ _ h => h.elim) ?_)
  walk_at "evs"
  refine V_range ?_
  refine ⟨_, fun t ρ' σ' => ∃ (k : Nat), ρ' = ([("script", .lst (ofInts ms)), ("hand", .ref h)] : Loc) ∧ σ' = handAt h k, It_rng ok.hh (by omega) (by omega), ⟨_, ?_, k, rfl, rfl⟩, ?_, ?_⟩
  · walk_at "sub"
  · rintro t ρ' σ' a ha ⟨k, rfl, rfl⟩
    refine ⟨_, Tg_name, fun it P hne => ?_⟩
    walk_at "evs"
    refine V_defL (law_any_fn hB ms h k hn') ok (by decide) (.right (.left .nil)) fun v σ' hr => ?_
    obtain ⟨k, rfl, f, rfl, hf⟩ := hr
    have hz : f.length ≤ sizeLine := by rw [sizeLine_eq]; omega
    have hen := readW_ends f 1000000
    walk_at "evs"
    refine B_pow (by decide) (by decide) (by decide) ?_
    rw [show (10 : Int) ^ (6 : Int).toNat = ((1000000 : Nat) : Int) by decide]
    walk_at "evs"
    refine V_def (law_read_fn hB f 1000000 (by omega) (by omega)) ok (by decide) ?_
    walk_at "evs"
    refine I_tup (x := .lst (endsV (readW f 1000000).2.2)) (Nat.le_of_ble_eq_true rfl) (by decide) rfl ?_
    generalize (readW f 1000000).2.2 = ends at *
    refine E_List ?_
    walk_at "evs"
    have hel : (endsV ends).length = ends.length := by simp [endsV]
    refine ⟨Nat.le_of_ble_eq_true rfl, B_addL (by rw [hel, sizeLine_eq]; simp; omega) ?_⟩
    rw [show endsV ends ++ [AV.int 9] = endsV (ends ++ [9]) by simp [endsV]]
    have hen2 : ∀ x ∈ ends ++ [9], x ≤ 1000000 := fun x hx => by
      rcases List.mem_append.mp hx with hx | hx
      · exact hen.1 x hx
      · rw [List.mem_singleton] at hx; omega
    have hl9 : (ends ++ [9]).length = ends.length + 1 := by simp
    generalize ends ++ [9] = ends9 at *
    have hez : (endsV ends9).length ≤ sizeLine := by simp [endsV, sizeLine_eq]; omega
    have hel9 : (endsV ends9).length = ends9.length := by simp [endsV]
    walk_at "evs"
    refine V_len_lst hez ?_
    walk_at "evs"
    rw [hel9]
    refine V_defL (draw_fn hB ms h k (ends9.length : Nat) hn' (by omega)) ok (by decide) (.left (Split.none _)) fun v σ' hr => ?_
    obtain ⟨rfl, i, rfl, hi0, hi1⟩ := hr
    obtain ⟨i, rfl⟩ := Int.eq_ofNat_of_zero_le hi0
    have hi : i < ends9.length := by omega
    have hsz : ends9[i] ≤ 1000000 := hen2 _ (List.getElem_mem hi)
    refine I_lst (x := .int (ends9[i] : Nat)) hez (by omega) (by rw [Int.toNat_natCast]; simp [endsV, hi]) ?_
    generalize ends9[i] = size at *
    show Exs _ _ _ ((h, .hand [.int ((k + 1 : Nat) : Int)]) :: [(it, AO.raw P)]) _ _
    refine X_cons (X_for (fun _ _ h => h.elim) ?_)
    walk_at "evs"
    refine V_defL (draw_fn hB ms h (k + 1) 3 hn' (by decide)) ok (by decide) (.left (Split.none _)) fun v σ' hr => ?_
    obtain ⟨rfl, r, rfl, hr0, hr1⟩ := hr
    walk_at "evs"
    refine V_max ok.hh ?_
    walk_at "evs"
    refine ⟨Nat.le_of_ble_eq_true rfl, ?_⟩
    have hitems : ∀ (t : Nat) (a : AV), [AV.int (size : Nat), AV.int ((size : Int) + 1 + r), AV.int (max 0 ((size : Int) - 1))][t]? = some a → ∃ n : Nat, a = .int n ∧ n ≤ 1000100 := fun t a ha => by
      have hm := List.mem_of_getElem? ha
      simp only [List.mem_cons, List.not_mem_nil, or_false] at hm
      rcases hm with rfl | rfl | rfl
      · exact ⟨size, rfl, by omega⟩
      · exact ⟨((size : Int) + 1 + r).toNat, by rw [Int.toNat_of_nonneg (by omega)], by omega⟩
      · exact ⟨(max 0 ((size : Int) - 1)).toNat, by rw [Int.toNat_of_nonneg (by omega)], by omega⟩
    generalize [AV.int (size : Nat), AV.int ((size : Int) + 1 + r), AV.int (max 0 ((size : Int) - 1))] = items at *
    refine ⟨items, fun t ρ' σ' => ρ' = ([("form", .bytes f), ("script", .lst (ofInts ms)), ("hand", .ref h)] : Loc) ∧ σ' = (h, AO.hand [AV.int ((k + 1 + 1 : Nat) : Int)]) :: [(it, AO.raw P)], It_tup ok.hh, ⟨_, ?_, rfl, rfl⟩, ?_, ?_⟩
    · walk_at "sub"
    · rintro t ρ' σ' a ha ⟨rfl, rfl⟩
      obtain ⟨n, rfl, hn2⟩ := hitems t a ha
      refine ⟨_, Tg_name, fun it2 P2 hne2 => ?_⟩
      refine X_cons (X_if (Tst.mono (Q := fun b σ' => b = false ∧ σ' = (it2, AO.raw P2) :: (h, AO.hand [AV.int ((k + 1 + 1 : Nat) : Int)]) :: [(it, AO.raw P)]) ?_ ?_))
      · walk_at "evs"
        refine V_heard hB ok (by omega) rfl rfl rfl hbB f n (by omega) hn2 ?_
        walk_at "evs"
        refine V_def (law_read_fn hB f n (by omega) hn2) ok (by decide) ?_
        walk_at "evs"
        refine I_tup (x := resV (readW f n).1) (Nat.le_of_ble_eq_true rfl) (by decide) rfl ?_
        cases (readW f n).1 with
        | ok l =>
          rw [show resV (Res.ok l) = .bytes l from rfl]
          walk_at "evs"
          exact ⟨by simp, rfl⟩
        | bad y =>
          rw [show resV (Res.bad y) = .str (Str.ofString y) from rfl]
          refine C_neS ?_
          walk_at "evs"
          exact ⟨by simp, rfl⟩
      rintro bb σ' ⟨rfl, rfl⟩
      refine ⟨fun e => (nomatch e), fun _ => X_nil (X_nil ⟨_, _, ?_, .here, rfl, rfl⟩)⟩
      walk_at "sub"
    · rintro ρ' σ' ⟨rfl, rfl⟩
      refine X_nil ⟨_, _, ?_, .there .here, k + 1 + 1, rfl, rfl⟩
      walk_at "sub"
  · rintro ρ' σ' ⟨k, rfl, rfl⟩
    walk_at "evs"
    rfl
end

-- V13
section
set_option Elab.async false
set_option maxRecDepth 100000
set_option maxHeartbeats 8000000
set_option linter.all false
local macro_rules | `(tactic| omega) => `(tactic| lia)
open PySem PySem.W PyProof.Rows MineTop
theorem ints_of_reads {R : WRecords} {cl : Str → Option Addr} {h : Heap} (xs : List WData) : ∀ {vs : List Value} {as : List Addr}, WShape.hasItems R xs .int = true → ReadsAllW R cl h vs xs as → ∃ ns : List Int, IntsAre vs ns ∧ ns.length = xs.length := by
  induction xs with
  | nil => intro vs as _ r; obtain ⟨rfl, _⟩ := readsAllW_nil_inv r; exact ⟨[], .nil, rfl⟩
  | cons d xs ih =>
    intro vs as hs r
    obtain ⟨v, us, as1, as2, rfl, _, r1, r2⟩ := readsAllW_cons_inv r
    obtain ⟨h1, h2⟩ := Bool.and_eq_true_iff.mp hs
    obtain ⟨i, rfl⟩ := hasW_int h1
    obtain ⟨t, rfl, _⟩ := readsW_int_inv r1
    obtain ⟨ns, k1, k2⟩ := ih h2 r2
    exact ⟨i :: ns, .cons _ _ k1, congrArg (· + 1) k2⟩
theorem X : PySem.Challenge.rw_np0178_01.Holds := holds_law said fun said' => by
  refine MineHead.PySem.W.holds_open (q := view) (loose := []) (Xt := fun s => xlAt view [] s && recOk (RowW.records PySem.Challenge.rw_np0178_01.row.toRowW) s) (XP := XL view []) (Yf := Hook.obs hook) (Ya := Hook.val hook) (YP := Hook.says hook) (N := 2570) left (Hook.of hook) (Hook.keeps hook)
    (fun s e => xl_of s (Bool.and_eq_true_iff.mp e).1) XL.keeps (by rfl) (by rfl) (by rfl) (fun s e => recFacts_of (Bool.and_eq_true_iff.mp e).2) (by rfl) (by first | assumption | decide +kernel) (by decide +kernel) ⟨rfl, rfl, rfl, rfl, rfl, by decide +kernel⟩ ⟨[.list []], by decide +kernel, by decide +kernel⟩ ?_
  intro w s₀ s₁ mg mb G Y fa o pm cd doc dV kV ho hd' hcd hD hmg hg args vals as hpre hlay hrd hwl hlo
  have KX := kIn_of Y
  refine Ground.open G ?_
  intro T B D TE TW
  have TR := topRead_of T
  clear hcd hD ho hd' hlay hwl
  have hB : Base w s₁.heap := ⟨KX, TR.nolimit, ⟨mg, TR.g, fun x v e => mg_of KX TR.g e⟩, ⟨mg, mb, TR.g, TR.b, fun x v e e2 hne => ⟨mg_none_of KX TR.g e, by rw [TR.builtins x hne]; exact e2⟩⟩⟩
  have hfa : fa = 194 := by
    have h1 := mg_of KX TR.g (n := "law") (v := .ref 194) rfl
    have h2 := hmg.symm.trans h1
    exact Value.ref.inj (Option.some.inj h2)
  subst hfa
  obtain ⟨hs, hpr⟩ := pre_splitW hpre
  obtain ⟨d, r, rfl, hd1, hr⟩ := hasAllW_cons hs
  obtain rfl := hasAllW_nil hr
  obtain ⟨xs, rfl, hxs⟩ := hasW_list hd1
  have hlen : xs.length ≤ 63 := by
    have hv : (WTm.and (.not (.lt (.lit (.int ((63 : Nat) : Int))) (.len (.arg 0)))) (.lit (.bool true))).value PySem.Challenge.rw_np0178_01.row.records { args := [.list xs] } = some (.bool ((!decide (((63 : Nat) : Int) < (xs.length : Int))) && true)) :=
      w_and (w_not (w_lt w_lit (w_len_list (w_arg rfl)))) w_lit
    have h2 : (WTm.and (.not (.lt (.lit (.int ((63 : Nat) : Int))) (.len (.arg 0)))) (.lit (.bool true))).holds PySem.Challenge.rw_np0178_01.row.records { args := [.list xs] } = true := hpr
    unfold WTm.holds at h2
    rw [hv] at h2
    by_cases h3 : ((63 : Nat) : Int) < (xs.length : Int)
    · rw [decide_eq_true h3] at h2; cases h2
    · omega
  obtain ⟨v, vs, as1, as2, rfl, _, r1, r2⟩ := readsAllW_cons_inv hrd
  obtain ⟨rfl, _⟩ := readsAllW_nil_inv r2
  obtain ⟨a, vs, as', rfl, hl, hra, _⟩ := readsW_list_inv r1
  obtain ⟨ns, hi, hnl⟩ := ints_of_reads _ hxs hra
  have hl : s₁.heap.IsList a vs.toList.toArray := by simpa using hl
  have room : Room 9 callerA := ⟨rfl, by decide, by decide, rfl⟩
  have bel : Bel callerA s₁.heap [] s₁.heap := ⟨rfl, trivial, fun _ _ e => e⟩
  have mem : Mem s₁.heap s₁.heap s₁.heap [] s₁.os s₁ := ⟨fun _ _ e => e, fun _ _ e => e, fun _ _ e => e, fun p hp => (nomatch hp), .nil, hg, rfl⟩
  have H := law_top hB ns (by omega) callerA s₁.heap s₁.heap s₁.heap s₁.os s₁ [.ref a] (fun _ _ e => e) room bel mem (.cons _ _ _ _ (.lst a _ vs.toList hl (Iss.ofIntsAre hi)) .nil)
  refine wpG_call (codeG_mono H fun res s' hr => ?_)
  cases res with
  | error e => exact hr.elim
  | ok fl =>
    cases fl with
    | ret v =>
      obtain ⟨fz', av, σ', x, M', i', rfl⟩ := hr
      cases i'
      refine GoodW.toG ⟨.inl ⟨.bool true, .bool true, [], rfl, fun cls => ?_, .bool true, ?_, fun _ => ⟨.nil, fun a h => (nomatch h)⟩⟩, M'.kph, M'.os, M'.gens⟩
      · rfl
      · have hp : (WTm.eq .res (.lit (.bool true))).value PySem.Challenge.rw_np0178_01.row.records { args := [.list xs], res := some (.bool true), after := [.list xs] } = some (.bool (true == true)) := w_eq_bool (w_res rfl) w_lit
        show (WShape.has PySem.Challenge.rw_np0178_01.row.records (.bool true) .bool && (WTm.eq .res (.lit (.bool true))).holds PySem.Challenge.rw_np0178_01.row.records { args := [.list xs], res := some (.bool true), after := [.list xs] }) = true
        rw [Bool.and_eq_true]
        refine ⟨by simp [WShape.has, WShape.arms], ?_⟩
        unfold WTm.holds; rw [hp]; rfl
    | _ => exact hr.elim
end

end Mine

theorem PySem.Challenge.cw_np0178_01_holds : PySem.Challenge.rw_np0178_01.Holds := by
  exact Mine.X
