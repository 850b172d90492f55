import PyProof.Rows.All
import Wide.All
import OpenK.AllK
import Wide.FinOn
import Lean
import PySem.Challenge.RW_no0400_01

set_option Elab.async false
set_option maxRecDepth 100000
set_option maxHeartbeats 4000000
set_option linter.unusedVariables false

namespace Mine
open PySem PySem.W PySem.Calls PyProof.Rows PySem.Spec

/-- what is known of the stack; with cl: no code on it holds a buffer -/
structure Around extends PySem.Around where
  cl : Bool
namespace Around
@[reducible] noncomputable def in1 (A : Around) : Around := { A with toAround := A.toAround.in1 }
noncomputable def mark (A : Around) (h : Option Value) : Around := { A with toAround := A.toAround.mark h }
noncomputable def deeper (A : Around) (env : Env) : Around := { A with toAround := A.toAround.deeper env }
noncomputable def under (A : Around) (c : Code) : Around := { A with toAround := A.toAround.under c }
end Around

noncomputable def noHold : Code → Bool
  | .builtin id _ => !Builtin.Bytes.decodersThatHold.contains id
  | _ => true
noncomputable def CleanB (l : List (Code × Pos)) : Prop := ∀ x ∈ l, noHold x.1 = true

noncomputable def wpAny {α : Type} (M : Model) (A : Around) (t : Sem α) (Q : α → Shared → Prop) (E : Value → Shared → Prop) (s : Shared) : Prop :=
  ∀ Γ p, Γ.In A.toAround → (A.cl = true → noHold Γ.code = true ∧ CleanB Γ.below) → Sem.wp M Γ t (fun a _ s' => Q a s') (fun e _ s' => E e s') p s
noncomputable def codeAny (M : Model) (A : Around) (c : Code) (R : Result → Shared → Prop) (s : Shared) : Prop :=
  ∀ Γ p, Γ.code = c → Γ.Below A.toAround → (A.cl = true → CleanB Γ.below) → wpCode M Γ R p s

section
variable {α β : Type} {M : Model} {A : Around} {E : Value → Shared → Prop} {s : Shared}

theorem of {t : Sem α} {Q : α → Shared → Prop} (h : PySem.wpAny M A.toAround t Q E s) : wpAny M A t Q E s := fun Γ p hΓ _ => h Γ p hΓ
theorem of_code {c : Code} {R : Result → Shared → Prop} (h : PySem.codeAny M A.toAround c R s) : codeAny M A c R s := fun Γ p hc hΓ _ => h Γ p hc hΓ
theorem to {t : Sem α} {Q : α → Shared → Prop} {B : PySem.Around} (h : wpAny M ⟨B, false⟩ t Q E s) : PySem.wpAny M B t Q E s := fun Γ p hΓ => h Γ p hΓ (fun e => nomatch e)
theorem wpAny_pure {a : α} {Q : α → Shared → Prop} (h : Q a s) : wpAny M A (pure a) Q E s := fun _ _ _ _ => h
theorem wpAny_mono {t : Sem α} {Q Q' : α → Shared → Prop} {E' : Value → Shared → Prop} (h : wpAny M A t Q E s)
    (hQ : ∀ a s, Q a s → Q' a s) (hE : ∀ e s, E e s → E' e s) : wpAny M A t Q' E' s :=
  fun Γ p hΓ hc => Sem.wp_mono M Γ t (fun a _ s => hQ a s) (fun e _ s => hE e s) p s (h Γ p hΓ hc)
theorem wpAny_bind {m : Sem α} {f : α → Sem β} {Q : β → Shared → Prop} (h : wpAny M A m (fun a s' => wpAny M A (f a) Q E s') E s) : wpAny M A (m >>= f) Q E s := fun Γ p hΓ hc => by
  rw [Sem.wp_bind']
  exact Sem.wp_mono M Γ m (fun a p' s' h' => h' Γ p' hΓ hc) (fun _ _ _ h' => h') p s (h Γ p hΓ hc)
theorem wpAny_tryCatch {m : Sem α} {k : Value → Sem α} {Q : α → Shared → Prop} (h : wpAny M A m Q (fun e s' => wpAny M A (k e) Q E s') s) : wpAny M A (tryCatch m k) Q E s := fun Γ p hΓ hc => by
  rw [Sem.wp_tryCatch']
  exact Sem.wp_mono M Γ m (fun _ _ _ h' => h') (fun e p' s' h' => h' Γ p' hΓ hc) p s (h Γ p hΓ hc)
theorem wpAny_onRaise {m : Sem α} {k : Value → Sem Unit} {Q : α → Shared → Prop} (h : wpAny M A m Q (fun e s' => wpAny M A (k e) (fun _ s'' => E e s'') E s') s) : wpAny M A (m.onRaise k) Q E s := fun Γ p hΓ hc => by
  rw [Sem.wp_onRaise]
  exact Sem.wp_mono M Γ m (fun _ _ _ h' => h') (fun e p' s' h' => h' Γ p' hΓ hc) p s (h Γ p hΓ hc)
theorem wpAny_attempt {m : Sem α} {Q : Except Value α → Shared → Prop} (h : wpAny M A m (fun a => Q (.ok a)) (fun e => Q (.error e)) s) : wpAny M A m.attempt Q E s := fun Γ p hΓ hc => by
  rw [Sem.wp_attempt]; exact h Γ p hΓ hc
theorem wpAny_holding {vs : List Value} {m : Sem α} {Q : α → Shared → Prop} (h : wpAny M A m Q E s) : wpAny M A (holding vs m) Q E s := fun Γ p hΓ hc => by
  rw [Sem.wp_holding]; exact h Γ p hΓ hc
theorem wpAny_keep {vs : List Value} {m : Sem α} {Q : α → Shared → Prop} (h : wpAny M A m Q E s) : wpAny M A (m.keep vs) Q E s := fun Γ p hΓ hc => by
  rw [Sem.wp_keep]; exact h Γ p hΓ hc
theorem wpAny_ite {c : Prop} [Decidable c] {a b : Sem α} {Q : α → Shared → Prop} (h : if c then wpAny M A a Q E s else wpAny M A b Q E s) : wpAny M A (if c then a else b) Q E s := by
  split
  · rename_i hc; rw [if_pos hc] at h; exact h
  · rename_i hc; rw [if_neg hc] at h; exact h
theorem wpAny_standAt {pos : Pos} {Q : Unit → Shared → Prop} (h : Q () s) : wpAny M A (standAt pos) Q E s := fun _ _ _ _ => h
theorem wpAny_point {Q : Unit → Shared → Prop} (h : Q () s) : wpAny M A point Q E s := fun _ _ _ _ => h
theorem wpAny_rule {tag : String} {Q : Unit → Shared → Prop} (h : Q () s) : wpAny M A (rule tag) Q E s := fun _ _ _ _ => h
theorem wpAny_of_eq {t : Sem α} {a : α} {Q : α → Shared → Prop} (h : t = pure a) (hQ : Q a s) : wpAny M A t Q E s := h ▸ wpAny_pure hQ
theorem of_eq {t t' : Sem α} {Q : α → Shared → Prop} (e : t = t') (h : wpAny M A t' Q E s) : wpAny M A t Q E s := e ▸ h
theorem wpAny_release {vs ks : List Value} {Q : Unit → Shared → Prop} (h : Q () s) : wpAny M A (release vs ks) Q E s := of (fun Γ p hΓ => by rw [Sem.wp_release]; exact h)
theorem wpAny_bindName {env : Env} {x : Str} {v : Value} {Q : Unit → Shared → Prop} (h : wpAny M A (storeName env x v) Q E s) : wpAny M A (bindName env x v) Q E s := fun Γ p hΓ hc => by
  rw [Sem.wp_bindName]; exact h Γ p hΓ hc
theorem wpAny_operating {vs : List Value} {m : Sem Value} {Q : Value → Shared → Prop} (h : wpAny M A m Q E s) : wpAny M A (operate vs m) Q E s :=
  wpAny_bind (wpAny_mono (wpAny_holding h) (fun r s' hr => wpAny_bind (wpAny_release (wpAny_pure hr))) fun _ _ e => e)

theorem clean_enter {Γ : PySem.Ctx} {c : Code} {h : Option Value} {p : Pos} (hc : A.cl = true → noHold Γ.code = true ∧ CleanB Γ.below) : A.cl = true → CleanB (Γ.enter c h p).below := fun e x hx => by
  rcases List.mem_cons.mp (show x ∈ (Γ.code, p) :: Γ.below from hx) with rfl | hx
  · exact (hc e).1
  · exact (hc e).2 x hx
theorem wpAny_run {c : Code} {h : Option Value} {Q : Flow → Shared → Prop}
    (hc : codeAny M (A.mark h) c (fun r s' => match r with | .ok f => Q f s' | .error e => E e s') s) (hnb : h ≠ some byPass := by intro x; cases x) : wpAny M A (run c h) Q E s :=
  fun Γ p hΓ hcl => by rw [Sem.wp_run]; exact hc _ p rfl (hΓ.enter c h p hnb) (clean_enter hcl)
theorem wpAny_runValue {c : Code} {Q : Value → Shared → Prop}
    (hc : codeAny M A c (fun r s' => match r with | .ok (.ret v) => Q v s' | .ok _ => False | .error e => E e s') s) : wpAny M A (runValue c) Q E s :=
  fun Γ p hΓ hcl => by rw [Sem.wp_runValue]; exact hc _ p rfl (hΓ.enter c none p (by intro x; cases x)) (clean_enter hcl)
theorem wpAny_call {f : Value} {pos : List Value} {kw : List (Str × Value)} {Q : Value → Shared → Prop}
    (hc : codeAny M A (.call f ⟨pos, kw⟩) (fun r s' => match r with | .ok (.ret v) => Q v s' | .ok _ => False | .error e => E e s') s) : wpAny M A (call f pos kw) Q E s := wpAny_runValue hc
theorem codeAny_mono {c : Code} {R R' : Result → Shared → Prop} (h : codeAny M A c R s) (hR : ∀ r s, R r s → R' r s) : codeAny M A c R' s :=
  fun Γ p hc hΓ hcl => wpCode_mono hR (h Γ p hc hΓ hcl)
theorem codeAny_of_tree {c : Code} {R : Result → Shared → Prop}
    (h : wpAny M (A.under c) (M.den c) (fun fin s' => match fin with | .done f => R (.ok f) s' | .again c' => c'.quiet = true ∧ codeAny M A c' R s') (fun e s' => R (.error e) s') s)
    (hn : A.cl = true → noHold c = true) : codeAny M A c R s := fun Γ p hc hΓ hcl => by
  rw [wpCode_iff_wp, hc]
  refine Sem.wp_mono M Γ _ (fun fin p' s' h' => ?_) (fun _ _ _ h' => h') p s (h Γ p (hc ▸ hΓ.in) fun e => ⟨by rw [hc]; exact hn e, hcl e⟩)
  cases fin with
  | done f => exact h'
  | again c' => exact ⟨h'.1, h'.2 (Γ.goto c') p' rfl (hΓ.goto c') hcl⟩
theorem codeAny_loop {c : Code} {R : Result → Shared → Prop} (hq : c.quiet = true) (hn : noHold c = true) (I : Nat → Shared → Prop)
    (turn : ∀ n s, I n s → wpAny M (A.under c) (M.den c)
      (fun fin s' => match fin with | .done f => R (.ok f) s' | .again c' => (c' = c ∧ ∃ m, m < n ∧ I m s') ∨ (c'.quiet = true ∧ codeAny M A c' R s')) (fun e s' => R (.error e) s') s)
    (n : Nat) (h : I n s) : codeAny M A c R s := by
  induction n using Nat.strongRecOn generalizing s with
  | ind n ih =>
    refine codeAny_of_tree (wpAny_mono (turn n s h) (fun fin s' hf => ?_) fun _ _ h' => h') fun _ => hn
    cases fin with
    | done f => exact hf
    | again c' =>
      rcases hf with ⟨rfl, m, hm, hI⟩ | hf
      · exact ⟨hq, ih m hm hI⟩
      · exact hf
end

section
variable {M : Model} {A : Around} {E : Value → Shared → Prop} {s : Shared} {env : Env}
theorem wpAny_execs_cons {st rest} {Q : Flow → Shared → Prop} (h : wpAny M A (exec st env) (fun f s' => match f with | .next => wpAny M A (execs rest env) Q E s' | f => Q f s') E s) :
    wpAny M A (execs (st :: rest) env) Q E s := by
  rw [execs_cons]
  refine wpAny_bind (wpAny_mono h (fun f s' h' => ?_) fun _ _ e => e)
  cases f <;> first | exact h' | exact wpAny_pure h'
theorem wpAny_Assign_Name {x pos' value pos} {Q : Flow → Shared → Prop} (h : wpAny M A (eval value env) (fun v s₁ => wpAny M A (storeName env x v) (fun _ => Q .next) E s₁) E s)
    (hs : swapsWith value (some (.Name x pos')) pos.line env = pure false) : wpAny M A (exec (.Assign [.Name x pos'] value pos) env) Q E s := by
  rw [exec_Assign_Name env x pos' value pos hs]
  exact wpAny_bind (wpAny_standAt (wpAny_bind (wpAny_mono h (fun v s₁ h₁ => wpAny_bind (wpAny_standAt (wpAny_bind (wpAny_bindName (wpAny_mono h₁ (fun _ _ q => wpAny_pure q) fun _ _ e => e))))) fun _ _ e => e)))
theorem wpAny_AugAssign_Name {x pos' op value pos} {Q : Flow → Shared → Prop}
    (h : wpAny M A (loadName env x) (fun old s₁ => wpAny M A (eval value env) (fun v s₂ => wpAny M A (inplaceOp op old v) (fun r s₃ => wpAny M A (storeName env x r) (fun _ => Q .next) E s₃) E s₂) E s₁) E s) :
    wpAny M A (exec (.AugAssign (.Name x pos') op value pos) env) Q E s := by
  rw [exec_AugAssign_Name]
  exact wpAny_bind (wpAny_standAt (wpAny_bind (wpAny_mono h (fun old s₁ h₁ => wpAny_bind (wpAny_holding (wpAny_mono h₁ (fun v s₂ h₂ => wpAny_bind (wpAny_standAt (wpAny_bind (wpAny_operating (wpAny_mono h₂ (fun r s₃ h₃ =>
    wpAny_bind (wpAny_standAt (wpAny_bind (wpAny_bindName (wpAny_mono h₃ (fun _ _ q => wpAny_pure q) fun _ _ e => e))))) fun _ _ e => e))))) fun _ _ e => e))) fun _ _ e => e)))
theorem wpAny_If {test body orelse pos} {Q : Flow → Shared → Prop} (h : wpAny M A (isTrue test env (eval test env)) (fun b s' => if b then wpAny M A (execs body env) Q E s' else wpAny M A (execs orelse env) Q E s') E s) :
    wpAny M A (exec (.If test body orelse pos) env) Q E s := by
  rw [exec_If]
  refine wpAny_bind (wpAny_standAt (wpAny_bind (wpAny_mono h (fun b s' h' => ?_) fun _ _ e => e)))
  cases b <;> exact h'
theorem wpAny_Return_some {e pos} {Q : Flow → Shared → Prop} (h : wpAny M A (eval e env) (fun v => Q (.ret v)) E s) : wpAny M A (exec (.Return (some e) pos) env) Q E s := by
  rw [exec_Return_some]
  exact wpAny_bind (wpAny_standAt (wpAny_bind (wpAny_mono h (fun _ _ q => wpAny_pure q) fun _ _ e => e)))
theorem wpAny_runOwn {c : Code} {Q : Flow → Shared → Prop}
    (hc : codeAny M A c (fun r s' => match r with | .ok f => Q f s' | .error e => False) s) :
    wpAny M A (runOwn c env none) Q E s := by
  unfold runOwn
  refine wpAny_onRaise (wpAny_run (codeAny_mono (A := A) hc fun r s' h => ?_))
  cases r with
  | ok f => exact h
  | error e => exact h.elim
theorem wpAny_While {test body orelse pos} {Q : Flow → Shared → Prop}
    (h : codeAny M A (.whileLoop test body orelse env) (fun r s' => match r with | .ok f => Q f s' | .error e => False) s) : wpAny M A (exec (.While test body orelse pos) env) Q E s := by
  rw [exec_While]
  refine wpAny_bind (wpAny_standAt (wpAny_runOwn h))
theorem wpAny_For {target iter body orelse pos} {Q : Flow → Shared → Prop}
    (h : wpAny M A (eval iter env) (fun x s₁ => wpAny M A (pyIter x) (fun it s₂ => codeAny M A (.forLoop target it body orelse env) (fun r s' => match r with | .ok f => Q f s' | .error e => False) s₂) E s₁) E s)
    (hs : ∀ x, foldedSetIterable iter env x = pure x) : wpAny M A (exec (.For target iter body orelse pos) env) Q E s := by
  rw [exec_For]
  refine wpAny_bind (wpAny_standAt (wpAny_bind (wpAny_mono h (fun x s₁ h₁ => wpAny_bind (wpAny_of_eq (hs x) (wpAny_bind (wpAny_standAt (wpAny_bind (wpAny_holding (wpAny_mono h₁ (fun it s₂ h₂ =>
    wpAny_runOwn h₂) fun _ _ e => e))))))) fun _ _ e => e)))
theorem wpAny_Assign_Subscript {o i pos' value pos} {Q : Flow → Shared → Prop}
    (h : wpAny M A (eval value env) (fun v s₁ => wpAny M A (eval o env) (fun ov s₂ => wpAny M A (eval i env) (fun iv s₃ => wpAny M A (setItem ov iv v) (fun _ => Q .next) E s₃) E s₂) E s₁) E s)
    (hs : swapsWith value (some (.Subscript o i pos')) pos.line env = pure false) : wpAny M A (exec (.Assign [.Subscript o i pos'] value pos) env) Q E s := by
  rw [exec_Assign_Subscript o i pos' value pos hs]
  refine wpAny_bind (wpAny_standAt (wpAny_bind (wpAny_mono h (fun v s₁ h₁ => wpAny_bind ?_) fun _ _ e => e)))
  rw [PySem.assign_Subscript]
  exact wpAny_bind (wpAny_mono (wpAny_holding h₁) (fun ov s₂ h₂ => wpAny_bind (wpAny_mono (wpAny_holding h₂) (fun iv s₃ h₃ => wpAny_bind (wpAny_standAt (wpAny_bind (wpAny_mono (wpAny_holding h₃)
    (fun _ _ q => wpAny_release (wpAny_pure q)) fun _ _ e => e)))) fun _ _ e => e)) fun _ _ e => e)
theorem wpAny_Assign_Attribute {o attr pos' value pos} {Q : Flow → Shared → Prop}
    (h : wpAny M A (eval value env) (fun v s₁ => wpAny M A (eval o env) (fun ov s₂ => wpAny M A (setAttr ov attr v) (fun _ => Q .next) E s₂) E s₁) E s)
    (hs : swapsWith value (some (.Attribute o attr pos')) pos.line env = pure false) : wpAny M A (exec (.Assign [.Attribute o attr pos'] value pos) env) Q E s := by
  rw [plainObj_exec_Assign_Attribute o attr pos' value pos hs]
  refine wpAny_bind (wpAny_standAt (wpAny_bind (wpAny_mono h (fun v s₁ h₁ => wpAny_bind ?_) fun _ _ e => e)))
  rw [PySem.assign_Attribute]
  exact wpAny_bind (wpAny_mono (wpAny_holding h₁) (fun ov s₂ h₂ => wpAny_bind (wpAny_standAt (wpAny_bind (wpAny_mono (wpAny_holding h₂) (fun _ _ q => wpAny_release (wpAny_pure q)) fun _ _ e => e)))) fun _ _ e => e)
theorem wpAny_assign_Name {x pos v} {Q : Unit → Shared → Prop} (h : wpAny M A (storeName env x v) Q E s) : wpAny M A (assign (.Name x pos) env v) Q E s := by
  rw [PySem.assign_Name]; exact wpAny_bind (wpAny_standAt (wpAny_bindName h))
theorem wpAny_Compare1 {l op r pos} {Q : Value → Shared → Prop}
    (h : wpAny M A (eval l env) (fun a s₁ => wpAny M A (eval r env) (fun b s₂ => wpAny M A (compareOp op a b) Q E s₂) E s₁) E s)
    (hm : behindInMarks op r = false) : wpAny M A (eval (.Compare l [op] [r] pos) env) Q E s := by
  rw [eval_Compare1, markedBehindIn_of_false hm]
  exact wpAny_bind (wpAny_mono h (fun a s₁ h₁ => wpAny_bind (wpAny_mono (wpAny_holding h₁) (fun b s₂ h₂ => wpAny_bind (wpAny_standAt (wpAny_operating h₂))) fun _ _ e => e)) fun _ _ e => e)
theorem wpAny_isTrue_Compare1 {l op r pos whole} {Q : Bool → Shared → Prop}
    (h : wpAny M A (eval l env) (fun a s₁ => wpAny M A (eval r env) (fun b s₂ => wpAny M A (compareOp op a b) (fun c s₃ => wpAny M A (truthy c) Q E s₃) E s₂) E s₁) E s)
    (hm : behindInMarks op r = false) : wpAny M A (isTrue (.Compare l [op] [r] pos) env whole) Q E s := by
  rw [isTrue_Compare1, markedBehindIn_of_false hm]
  exact wpAny_bind (wpAny_mono h (fun a s₁ h₁ => wpAny_bind (wpAny_mono (wpAny_holding h₁) (fun b s₂ h₂ => wpAny_bind (wpAny_standAt (wpAny_bind (wpAny_operating (wpAny_mono h₂ (fun c s₃ h₃ => wpAny_holding h₃) fun _ _ e => e))))) fun _ _ e => e)) fun _ _ e => e)
theorem isTrue_plain {e : Expr} {whole : Sem Value} {Q : Bool → Shared → Prop} (h : wpAny M A whole (fun v s₁ => wpAny M A (truthy v) Q E s₁) E s)
    (he : isTrue e env whole = (do let v ← whole; standAt e.pos; holding [v] (truthy v))) : wpAny M A (isTrue e env whole) Q E s := by
  rw [he]
  exact wpAny_bind (wpAny_mono h (fun v s₁ h₁ => wpAny_bind (wpAny_standAt (wpAny_holding h₁))) fun _ _ x => x)
theorem isTrue_not {x pos whole} {Q : Bool → Shared → Prop} (h : wpAny M A (isTrue x env (eval x env)) (fun c s' => Q (!c) s') E s) : wpAny M A (isTrue (.UnaryOp .Not x pos) env whole) Q E s := by
  show wpAny M A (do return !(← isTrue x env (eval x env))) Q E s
  exact wpAny_bind (wpAny_mono h (fun c s' h' => wpAny_pure h') fun _ _ x => x)
theorem isTrue_and {x rest pos whole} {Q : Bool → Shared → Prop}
    (h : wpAny M A (isTrue x env (eval x env)) (fun c s' => if c then wpAny M A (isTrue (.BoolOp .And rest pos) env whole) Q E s' else Q false s') E s) : wpAny M A (isTrue (.BoolOp .And (x :: rest) pos) env whole) Q E s := by
  show wpAny M A (do
    match BoolOp.And, ← isTrue x env (eval x env) with
    | .And, false => pure false
    | .Or, true => pure true
    | _, _ => allTrue .And rest env) Q E s
  refine wpAny_bind (wpAny_mono h (fun c s' h' => ?_) fun _ _ x => x)
  cases c with
  | false => exact wpAny_pure h'
  | true => exact h'
theorem isTrue_or {x rest pos whole} {Q : Bool → Shared → Prop}
    (h : wpAny M A (isTrue x env (eval x env)) (fun c s' => if c then Q true s' else wpAny M A (isTrue (.BoolOp .Or rest pos) env whole) Q E s') E s) : wpAny M A (isTrue (.BoolOp .Or (x :: rest) pos) env whole) Q E s := by
  show wpAny M A (do
    match BoolOp.Or, ← isTrue x env (eval x env) with
    | .And, false => pure false
    | .Or, true => pure true
    | _, _ => allTrue .Or rest env) Q E s
  refine wpAny_bind (wpAny_mono h (fun c s' h' => ?_) fun _ _ x => x)
  cases c with
  | false => exact h'
  | true => exact wpAny_pure h'
theorem isTrue_and_nil {pos whole} {Q : Bool → Shared → Prop} (h : Q true s) : wpAny M A (isTrue (.BoolOp .And [] pos) env whole) Q E s := wpAny_pure (a := true) h
theorem isTrue_or_nil {pos whole} {Q : Bool → Shared → Prop} (h : Q false s) : wpAny M A (isTrue (.BoolOp .Or [] pos) env whole) Q E s := wpAny_pure (a := false) h
theorem wpAny_IfExp {test body orelse : Expr} {pos : Pos} {Q : Value → Shared → Prop}
    (h : wpAny M A (isTrue test env (eval test env)) (fun b s₁ => if b then wpAny M A (eval body env) Q E s₁ else wpAny M A (eval orelse env) Q E s₁) E s) : wpAny M A (eval (.IfExp test body orelse pos) env) Q E s := by
  rw [arm_eval_IfExp]
  refine wpAny_bind (wpAny_mono h (fun b s₁ h₁ => ?_) fun _ _ x => x)
  cases b <;> exact h₁
theorem wpAny_Slice {lower upper : Option Expr} {p : Pos} {Q : Value → Shared → Prop}
    (h : wpAny M A (evalPart lower env) (fun l s₁ => wpAny M A (evalPart upper env) (fun u s₂ => Q (.ref s₂.heap.objs.size) { s₂ with heap := s₂.heap.push { cls := .type "slice", data := .fields #[l, u, .none] } }) E s₁) E s) :
    wpAny M A (eval (.Slice lower upper none p) env) Q E s := by
  rw [arm_eval_Slice]
  exact wpAny_bind (wpAny_mono h (fun l s₁ h₁ => wpAny_bind (wpAny_mono (wpAny_holding h₁) (fun u s₂ h₂ => wpAny_bind (wpAny_holding (wpAny_pure (of (PySem.wpAny_newObj_type h₂))))) fun _ _ e => e)) fun _ _ e => e)
theorem Subscript_ {value slice pos} {Q : Value → Shared → Prop}
    (h : wpAny M A (eval value env) (fun o s₁ => wpAny M A (eval slice env) (fun i s₂ => wpAny M A (subscriptTail value slice o i) Q E s₂) E s₁) E s) : wpAny M A (eval (.Subscript value slice pos) env) Q E s := by
  rw [eval_Subscript]
  exact wpAny_bind (wpAny_mono h (fun o s₁ h₁ => wpAny_bind (wpAny_mono (wpAny_holding h₁) (fun i s₂ h₂ => wpAny_bind (wpAny_standAt h₂)) fun _ _ x => x)) fun _ _ x => x)
theorem List_ {elts : List Expr} {pos : Pos} {Q : Value → Shared → Prop} (h : wpAny M A (spliced (backTo pos (starEach elts env))) (fun vs s₁ => wpAny M A (newList vs) Q E s₁) E s) : wpAny M A (eval (.List elts pos) env) Q E s := by
  show wpAny M A (do standAt pos; newList (← spliced (backTo pos (starEach elts env)))) Q E s
  exact wpAny_bind (wpAny_standAt (wpAny_bind h))
theorem wpAny_letTemporaryGo {prog : Program} {w : World} {b : Expr} {o r : Value} {Q : Unit → Shared → Prop} (h : Q () s) : wpAny (model prog w) A (letTemporaryGo b o r) Q E s := of (PySem.wpAny_letTemporaryGo h)
theorem wpAny_letOwned {prog : Program} {w : World} {x : Str} {p : Pos} {it v : Value} {Q : Unit → Shared → Prop} (h : Q () s) : wpAny (model prog w) A (letOwnedTupleGo (.Name x p) it v) Q E s := wpAny_of_eq rfl h
end

section
variable {prog : Program} {w : World} {A : Around} {E : Value → Shared → Prop} {R : Result → Shared → Prop} {s : Shared}
theorem codeAny_whileLoop {test body orelse env} (I : Nat → Shared → Prop)
    (turn : ∀ n s, I n s → wpAny (model prog w) A (isTrue test env (eval test env)) (fun b s₂ =>
          if b then wpAny (model prog w) A (execs body env) (fun f s₃ => match f with
              | .next | .cont => ∃ m, m < n ∧ I m s₃
              | .brk => R (.ok .next) s₃
              | .ret v => R (.ok (.ret v)) s₃) (fun _ _ => False) s₂
          else wpAny (model prog w) A (execs orelse env) (fun f s₃ => R (.ok f) s₃) (fun _ _ => False) s₂) (fun _ _ => False) s)
    (n : Nat) (h : I n s) : codeAny (model prog w) A (.whileLoop test body orelse env) R s := by
  refine codeAny_loop rfl rfl I (fun n s hI => ?_) n h
  show wpAny _ A ((whileTurn test body orelse env).onRaise (fun x => do noteFrame x env; theTreesLotGoes x)) _ _ s
  refine wpAny_onRaise ?_
  unfold whileTurn
  refine wpAny_mono (E := fun _ _ => False) ?_ (fun _ _ q => q) fun _ _ e => e.elim
  refine wpAny_bind (wpAny_mono (turn n s hI) (fun b s₂ h₂ => ?_) fun _ _ e => e)
  cases b with
  | false => exact wpAny_bind (wpAny_mono h₂ (fun f s₃ h₃ => wpAny_pure h₃) fun _ _ e => e)
  | true =>
    refine wpAny_bind (wpAny_mono (show wpAny _ _ _ _ _ _ from h₂) (fun f s₃ h₃ => ?_) fun _ _ e => e)
    cases f with
    | next => exact wpAny_pure (.inl ⟨rfl, h₃⟩)
    | cont => exact wpAny_pure (.inl ⟨rfl, h₃⟩)
    | brk => exact wpAny_pure h₃
    | ret v => exact wpAny_pure h₃
theorem codeAny_block {stmts : List Stmt} {env : Env} (h : wpAny (model prog w) A (execs stmts env) (fun f s' => R (.ok f) s') (fun _ _ => False) s) : codeAny (model prog w) A (.block stmts env) R s := by
  refine codeAny_of_tree ?_ fun _ => rfl
  show wpAny _ A (do return Fin.done (← (execs stmts env).onRaise (fun x => do noteFrame x env; theTreesLotGoes x))) _ _ s
  exact wpAny_bind (wpAny_onRaise (wpAny_mono h (fun f s' q => wpAny_pure q) fun _ _ e => e.elim))
theorem codeAny_forLoop_any {target it body orelse env} (I : Nat → Shared → Prop)
    (turn : ∀ n s, I n s → wpAny (model prog w) A (pyNext it) (fun r s₁ => match r with
        | none => wpAny (model prog w) A (execs orelse env) (fun f s₃ => R (.ok f) s₃) (fun _ _ => False) s₁
        | some v => wpAny (model prog w) A (letOwnedTupleGo target it v) (fun _ s₁' => wpAny (model prog w) A (assign target env v) (fun _ s₂ => wpAny (model prog w) A (execs body env) (fun f s₃ => match f with
              | .next | .cont => ∃ m, m < n ∧ I m s₃
              | .brk => R (.ok .next) s₃
              | .ret v => R (.ok (.ret v)) s₃) (fun _ _ => False) s₂) (fun _ _ => False) s₁') (fun _ _ => False) s₁) (fun _ _ => False) s)
    (n : Nat) (h : I n s) : codeAny (model prog w) A (.forLoop target it body orelse env) R s := by
  refine codeAny_loop rfl rfl I (fun n s hI => ?_) n h
  show wpAny _ A ((forTurn target it body orelse env).onRaise (fun x => do noteFrame x env; theTreesLotGoes x)) _ _ s
  refine wpAny_onRaise (wpAny_mono (E := fun _ _ => False) ?_ (fun _ _ q => q) fun _ _ e => e.elim)
  unfold forTurn
  refine wpAny_bind (wpAny_standAt (wpAny_bind (wpAny_onRaise (wpAny_mono (turn n s hI) (fun r s₁ h₁ => ?_) fun _ _ e => e.elim))))
  cases r with
  | none => exact wpAny_pure (.inr ⟨rfl, codeAny_block h₁⟩)
  | some v =>
    refine wpAny_bind (wpAny_mono (show wpAny _ _ _ _ _ _ from h₁) (fun _ s₁' h₁' => ?_) fun _ _ e => e)
    refine wpAny_bind (wpAny_mono h₁' (fun _ s₂ h₂ => wpAny_bind (wpAny_mono h₂ (fun f s₃ h₃ => ?_) fun _ _ e => e)) fun _ _ e => e)
    cases f with
    | next => exact wpAny_pure (.inl ⟨rfl, h₃⟩)
    | cont => exact wpAny_pure (.inl ⟨rfl, h₃⟩)
    | brk => exact wpAny_pure h₃
    | ret v => exact wpAny_pure h₃
theorem codeAny_func {body env}
    (h : wpAny (model prog w) (A.deeper env) (execs body env) (fun f s' => R (.ok (.ret (match f with | .ret v => v | _ => .none))) s')
      (fun e s' => wpAny (model prog w) (A.deeper env) (leaving env e) (fun _ s'' => R (.error e) s'') (fun e' s'' => R (.error e') s'') s') s) : codeAny (model prog w) A (.func body env) R s := by
  refine codeAny_of_tree ?_ fun _ => rfl
  show wpAny _ (A.deeper env) (do point; match ← (execs body env).onRaise (leaving env) with | .ret v => ret v | _ => ret .none) _ _ s
  refine wpAny_bind (wpAny_point (wpAny_bind (wpAny_onRaise (wpAny_mono h (fun f s' h' => ?_) fun _ _ h' => h'))))
  cases f <;> exact wpAny_pure h'

/-- the tree of a call of a def: it enters the frame -/
theorem call_tree {B : PySem.Around} {a : Addr} {o : Obj} {fd : FuncData} {body : List Stmt} {vals : List Value} {binds : List (Str × Value)}
    (hroom : B.depth < recursionLimit) (ho : s.heap.get? a = some o) (hdata : o.data = .func fd) (hlim : s.heap.NoLimit) (hcd : s.heap.CodeRec fd.code fd.qualname)
    (hbody : fd.body = .stmts body) (hbind : bindArgs fd ⟨vals, []⟩ = pure binds) (hclo : fd.closure = [])
    (hkind : ∀ x ∈ binds, fd.scope.names.lookup x.1 = some .local ∨ (fd.scope.names.lookup x.1 = some .cell ∧ ((cellsFrom (s.heap.objs.size + 1) fd.scope.names []).lookup x.1).isSome = true))
    (hco : fd.scope.isCoroutine = false) (hgen : fd.scope.isGenerator = false) (hk : fd.scope.kind = .function) :
    PySem.wpAny (model prog w) B.in1 (callAny (.ref a) ⟨vals, []⟩) (fun fin s₁ => fin = .again (.func body (callEnvC fd s.heap.objs.size a)) ∧
      InCallC s (callEnvC fd s.heap.objs.size a).locals (bindL (callEnvC fd s.heap.objs.size a).kindOf binds fun _ => none) (callEnvC fd s.heap.objs.size a).cells (bindC (callEnvC fd s.heap.objs.size a).kindOf binds fun _ => none) s₁) E s := by
  obtain ⟨c, oc, vs, tq, hc, hoc, hdc, hq⟩ := hcd
  unfold callAny
  refine PySem.wpAny_bind (PySem.wpAny_load ho ?_)
  rw [hdata]
  dsimp only
  unfold callFunction
  rw [hc]
  refine PySem.wpAny_bind (m := field (.ref c) 1) (PySem.wpAny_field hoc hdc hq (PySem.wpAny_bind (PySem.wpAny_pure ?_)))
  rw [hbind, hclo]
  refine PySem.wpAny_bind (PySem.wpAny_pure (PySem.wpAny_bind (wpAny_newFunctionEnv_cells hk hkind fun env he s' x => ?_)))
  subst he
  refine PySem.wpAny_bind (wpAny_enterFrame (hlim.keeps x.toInCall.keep) hroom ?_)
  rw [hbody, hgen, hco]
  refine PySem.wpAny_pure ⟨?_, ?_⟩
  · unfold callEnvC; rw [hc]
  · unfold callEnvC; rw [hc]; exact x
theorem codeAny_call_cells {a : Addr} {o : Obj} {fd : FuncData} {body : List Stmt} {vals : List Value} {binds : List (Str × Value)}
    (hroom : A.depth < recursionLimit) (ho : s.heap.get? a = some o) (hdata : o.data = .func fd) (hlim : s.heap.NoLimit) (hcd : s.heap.CodeRec fd.code fd.qualname)
    (hbody : fd.body = .stmts body) (hbind : bindArgs fd ⟨vals, []⟩ = pure binds) (hclo : fd.closure = [])
    (hkind : ∀ x ∈ binds, fd.scope.names.lookup x.1 = some .local ∨ (fd.scope.names.lookup x.1 = some .cell ∧ ((cellsFrom (s.heap.objs.size + 1) fd.scope.names []).lookup x.1).isSome = true))
    (h : ∀ s₁, InCallC s (callEnvC fd s.heap.objs.size a).locals (bindL (callEnvC fd s.heap.objs.size a).kindOf binds fun _ => none) (callEnvC fd s.heap.objs.size a).cells
        (bindC (callEnvC fd s.heap.objs.size a).kindOf binds fun _ => none) s₁ →
      wpAny (model prog w) (A.deeper (callEnvC fd s.heap.objs.size a)) (execs body (callEnvC fd s.heap.objs.size a)) (fun f s' => R (.ok (.ret (match f with | .ret v => v | _ => .none))) s')
        (fun e s' => wpAny (model prog w) (A.deeper (callEnvC fd s.heap.objs.size a)) (leaving (callEnvC fd s.heap.objs.size a) e) (fun _ s'' => R (.error e) s'') (fun e' s'' => R (.error e') s'') s') s₁)
    (hco : fd.scope.isCoroutine = false) (hgen : fd.scope.isGenerator = false) (hk : fd.scope.kind = .function) : codeAny (model prog w) A (.call (.ref a) ⟨vals, []⟩) R s := by
  refine codeAny_of_tree ?_ fun _ => rfl
  refine wpAny_mono (E := fun _ _ => False) (of (call_tree (B := A.toAround) hroom ho hdata hlim hcd hbody hbind hclo hkind hco hgen hk)) (fun fin s₁ hf => ?_) fun _ _ e => e.elim
  obtain ⟨rfl, x⟩ := hf
  exact ⟨rfl, codeAny_func (h s₁ x)⟩

theorem evalArgs_plain {f : Value} {x : Sem Value} {rest : List (Bool × Sem Value)} {Q : Args → Shared → Prop}
    (h : wpAny (model prog w) A (spliced ((false, x) :: rest)) (fun vs s' => Q ⟨vs, []⟩ s') E s) : wpAny (model prog w) A (evalArgs f true ((false, x) :: rest) []) Q E s := by
  unfold evalArgs
  show wpAny _ A (spliced ((false, x) :: rest) >>= _) Q E s
  exact wpAny_bind (wpAny_mono h (fun vs s' h' => wpAny_holding (wpAny_bind (wpAny_pure (wpAny_bind (wpAny_pure (wpAny_pure h')))))) fun _ _ e => e)
theorem callWith_of {P : Heap → Prop} {f : Value} {first : List Value} {pos : Pos} {args : List (Bool × Sem Value)} {keywords : List (Option Str × Sem Value)} {Q : Value → Shared → Prop}
    (hplain : (args.any (·.1) || keywords.any (·.1.isNone)) = false)
    (hk : ∀ h, P h → ∃ k, (k = Keeper.frame ∨ k = Keeper.machine ∨ k = Keeper.boundFrame) ∧ Looks (model prog w) h (keeperOf f) k)
    (h : wpAny (model prog w) A (evalArgs f true args keywords) (fun a s₁ => P s₁.heap ∧ wpAny (model prog w) A (call f (first ++ a.pos) a.kw) Q E s₁) E s) : wpAny (model prog w) A (callWith pos f first args keywords) Q E s := by
  unfold callWith
  refine wpAny_bind (wpAny_mono (wpAny_holding h) (fun a s₁ h₁ => wpAny_bind (wpAny_standAt ?_)) fun _ _ e => e)
  obtain ⟨k, hk', L⟩ := hk _ h₁.1
  have tail : ∀ {t : Sem Value}, wpAny (model prog w) A t Q E s₁ → wpAny (model prog w) A (t >>= fun r => holding [r] point >>= fun _ => pure r) Q E s₁ :=
    fun ht => wpAny_bind (wpAny_mono ht (fun r s₂ hr => wpAny_bind (wpAny_holding (wpAny_point (wpAny_pure hr)))) fun _ _ e => e)
  have marked : ∀ mk, wpAny (model prog w) A (callMarked mk f (first ++ a.pos) a.kw) Q E s₁ := fun mk => by unfold callMarked; exact wpAny_keep h₁.2
  simp only [hplain]
  refine wpAny_bind (of (L.here ?_))
  rcases hk' with rfl | rfl | rfl <;> dsimp only <;> first | exact tail h₁.2 | (split <;> first | exact tail h₁.2 | exact tail (marked _))
end

section
variable {prog : Program} {w : World} {A : Around} {E : Value → Shared → Prop} {s : Shared} {env : Env}
theorem wpAny_Expr_any {e pos} {Q : Flow → Shared → Prop} (h : wpAny (model prog w) A (eval e env) (fun _ => Q .next) E s)
    (hi : interactive env = false) (hs : swapsWith e none pos.line env = pure false) : wpAny (model prog w) A (exec (.Expr e pos) env) Q E s := by
  rw [exec_Expr env e pos hi hs]
  exact wpAny_bind (wpAny_standAt (wpAny_bind (wpAny_mono h (fun v s' h' => of (wpAny_dropValue h')) fun _ _ e => e)))
end

section
variable {prog : Program} {w : World} {A : Around} {E : Value → Shared → Prop} {s : Shared}
theorem tail_any {value slice : Expr} {o i : Value} {ops : List Value} {T id : String} {Q : Value → Shared → Prop} (hT : s.TypeIs o T)
    (hl : typeLookup (.type T) "__getitem__" = pure (some (.builtin id))) (hg : wpAny (model prog w) A (getItem o i) Q E s)
    (hs : subscripted slice false o i = operate ops (getItem o i)) : wpAny (model prog w) A (subscriptTail value slice o i) Q E s := by
  unfold subscriptTail
  refine wpAny_bind (wpAny_mono (E := fun _ _ => False) (Q := fun b s' => b = false ∧ s' = s) (of ?_) (fun b s' hb => ?_) fun _ _ e => e.elim)
  · rw [getitemInPython_of_ne hT.not_modules]
    refine PySem.wpAny_bind (wpAny_specialOf hT hl ?_)
    first
      | exact PySem.wpAny_pure ⟨rfl, rfl⟩
      | exact PySem.wpAny_bind (PySem.wpAny_pure (PySem.wpAny_pure ⟨rfl, rfl⟩))
  · obtain ⟨rfl, rfl⟩ := hb
    rw [hs]
    exact wpAny_bind (wpAny_operating (wpAny_mono hg (fun r s₃ h₃ => wpAny_bind (wpAny_letTemporaryGo (wpAny_pure h₃))) fun _ _ e => e))
end

section
variable {M : Model} {A : Around} {E : Value → Shared → Prop} {s : Shared} {env : Env}
theorem Tuple_ {elts : List Expr} {k : Nat} {pos : Pos} {Q : Value → Shared → Prop} (h : wpAny M A (spliced (backTo pos (starEach elts env))) (fun vs s₁ => wpAny M A (newTuple vs) Q E s₁) E s) : wpAny M A (eval (.Tuple elts k pos) env) Q E s := by
  show wpAny M A (do standAt pos; newTuple (← spliced (backTo pos (starEach elts env)))) Q E s
  exact wpAny_bind (wpAny_standAt (wpAny_bind h))
end

section
variable {prog : Program} {w : World} {A : Around} {E : Value → Shared → Prop} {R : Result → Shared → Prop} {s : Shared}
theorem codeAny_builtin {id : String} {args : Args} {b : Builtin} (hb : entryFor table id = some b)
    (h : wpAny (model prog w) (A.under (.builtin id args)) (b args) (fun fin s' => match fin with | .done f => R (.ok f) s' | .again c' => c'.quiet = true ∧ codeAny (model prog w) A c' R s') (fun e s' => R (.error e) s') s)
    (hn : (!Builtin.Bytes.decodersThatHold.contains id) = true) : codeAny (model prog w) A (.builtin id args) R s := by
  refine codeAny_of_tree ?_ fun _ => hn
  show wpAny _ _ (match entryFor table id with | some b => b args | none => unsupported ((withoutEnding? id "#data").getD id)) _ _ s
  rw [hb]; exact h
theorem codeAny_call_builtin_code {id : String} {args : Args} (hq : (Code.builtin id args).quiet = true)
    (h : wpAny (model prog w) A.in1 (checkBuiltinCall id args) (fun _ s₁ => codeAny (model prog w) A (.builtin id args) R s₁) (fun e s' => R (.error e) s') s) : codeAny (model prog w) A (.call (.builtin id) args) R s := by
  refine codeAny_of_tree ?_ fun _ => rfl
  show wpAny _ A.in1 (do checkBuiltinCall id args; again (.builtin id args)) _ _ s
  exact wpAny_bind (wpAny_mono h (fun _ s₁ h₁ => wpAny_pure (And.intro hq h₁)) fun _ _ h' => h')
theorem codeAny_call_ref {a : Addr} {args : Args} (h : wpAny (model prog w) A.in1 (callAny (.ref a) args) (fun fin s' => match fin with | .done f => R (.ok f) s' | .again c' => c'.quiet = true ∧ codeAny (model prog w) A c' R s') (fun e s' => R (.error e) s') s) :
    codeAny (model prog w) A (.call (.ref a) args) R s := codeAny_of_tree h fun _ => rfl
theorem codeAny_call_type {T : String} {args : List Value} (h : codeAny (model prog w) A (.builtin "type.__call__" ⟨.type T :: args, []⟩) R s) (hq : (Code.builtin "type.__call__" ⟨.type T :: args, []⟩).quiet = true) :
    codeAny (model prog w) A (.call (.type T) ⟨args, []⟩) R s := by
  refine codeAny_of_tree ?_ fun _ => rfl
  show wpAny _ A.in1 (callAny (.type T) ⟨args, []⟩) _ _ s
  exact wpAny_pure (a := Fin.again (.builtin "type.__call__" ⟨.type T :: args, []⟩)) ⟨hq, h⟩
end
end Mine

namespace Mine
open PySem PySem.W PySem.Calls PyProof.Rows PySem.Spec

/-- a value, as far as the walk knows it: lists and tuples that nobody changes any more are known whole -/
inductive AV where
  | none
  | bool (b : Bool)
  | int (i : Int)
  | str (x : Str)
  | bytes (b : List UInt8)
  | list (xs : List AV)
  | tup (xs : List AV)
  | rng (a b c : Int)
  | obj (C d : Addr)
  | val (v : Value)

/-- a thing that may still be changed -/
inductive AO where
  | list (xs : List AV)
  | plain (xs : List AV)
  | bytearray (b : List UInt8)
  | dict (fs : List (Str × AV))

mutual
noncomputable def rep (Z : Addr → Prop) (h : Heap) : AV → Value → Prop
  | .none, v => v = .none
  | .bool b, v => v = .bool b
  | .int i, v => ∃ t, v = .int i t
  | .str x, v => ∃ t, v = .str x t
  | .bytes b, v => ∃ t, v = .bytes b.toArray t
  | .list xs, v => ∃ a its, v = .ref a ∧ Z a ∧ h.IsList a its ∧ reps Z h xs its.toList
  | .tup xs, v => ∃ a its, v = .ref a ∧ Z a ∧ IsTup h a its ∧ reps Z h xs its.toList
  | .rng x y z, v => ∃ a t u k, v = .ref a ∧ Z a ∧ IsRange h a x y z t u k
  | .obj C d, v => ∃ a sl, v = .ref a ∧ Z a ∧ h.get? a = some ⟨.ref C, some d, .plain, sl⟩
  | .val x, v => v = x
noncomputable def reps (Z : Addr → Prop) (h : Heap) : List AV → List Value → Prop
  | [], vs => vs = []
  | x :: xs, vs => ∃ v r, vs = v :: r ∧ rep Z h x v ∧ reps Z h xs r
end

mutual
theorem rep_mono {Z Z' : Addr → Prop} {h h' : Heap} (hz : ∀ a, Z a → Z' a) (hk : ∀ a o, Z a → h.get? a = some o → h'.get? a = some o) :
    ∀ (x : AV) {v : Value}, rep Z h x v → rep Z' h' x v
  | .none, _, r => r
  | .bool _, _, r => r
  | .int _, _, r => r
  | .str _, _, r => r
  | .bytes _, _, r => r
  | .list xs, _, ⟨a, its, e, z, ⟨o, ho, q⟩, r⟩ => ⟨a, its, e, hz a z, ⟨o, hk a o z ho, q⟩, reps_mono hz hk xs r⟩
  | .tup xs, _, ⟨a, its, e, z, ⟨o, ho, q⟩, r⟩ => ⟨a, its, e, hz a z, ⟨o, hk a o z ho, q⟩, reps_mono hz hk xs r⟩
  | .rng _ _ _, _, ⟨a, t, u, k, e, z, q⟩ => ⟨a, t, u, k, e, hz a z, hk a _ z q⟩
  | .obj _ _, _, ⟨a, sl, e, z, q⟩ => ⟨a, sl, e, hz a z, hk a _ z q⟩
  | .val _, _, r => r
theorem reps_mono {Z Z' : Addr → Prop} {h h' : Heap} (hz : ∀ a, Z a → Z' a) (hk : ∀ a o, Z a → h.get? a = some o → h'.get? a = some o) :
    ∀ (xs : List AV) {vs : List Value}, reps Z h xs vs → reps Z' h' xs vs
  | [], _, r => r
  | x :: xs, _, ⟨v, r, e, p, q⟩ => ⟨v, r, e, rep_mono hz hk x p, reps_mono hz hk xs q⟩
end

theorem reps_length {Z : Addr → Prop} {h : Heap} : ∀ {xs : List AV} {vs : List Value}, reps Z h xs vs → vs.length = xs.length
  | [], _, r => by cases r; rfl
  | _ :: _, _, ⟨_, _, e, _, q⟩ => by cases e; simp [reps_length q]
theorem reps_get {Z : Addr → Prop} {h : Heap} : ∀ {xs : List AV} {vs : List Value} {i : Nat} {x : AV}, reps Z h xs vs → xs[i]? = some x → ∃ v, vs[i]? = some v ∧ rep Z h x v
  | [], _, _, _, _, q => by simp at q
  | y :: ys, _, 0, x, ⟨v, r, e, p, _⟩, q => by cases e; simp at q; subst q; exact ⟨v, rfl, p⟩
  | y :: ys, _, i + 1, x, ⟨v, r, e, _, p⟩, q => by cases e; simp at q; simpa using reps_get p q
theorem reps_append {Z : Addr → Prop} {h : Heap} : ∀ {xs ys : List AV} {vs us : List Value}, reps Z h xs vs → reps Z h ys us → reps Z h (xs ++ ys) (vs ++ us)
  | [], _, _, _, r, q => by cases r; exact q
  | _ :: _, _, _, _, ⟨v, r, e, p, k⟩, q => by cases e; exact ⟨v, _, rfl, p, reps_append k q⟩
theorem reps_of_get {Z : Addr → Prop} {h : Heap} : ∀ {xs : List AV} {vs : List Value}, vs.length = xs.length → (∀ (i : Nat) (x : AV) (v : Value), xs[i]? = some x → vs[i]? = some v → rep Z h x v) → reps Z h xs vs
  | [], vs, e, _ => List.length_eq_zero_iff.mp e
  | x :: xs, v :: vs, e, k => ⟨v, vs, rfl, k 0 x v rfl rfl, reps_of_get (by simpa using e) fun i y u p q => k (i + 1) y u (by simpa using p) (by simpa using q)⟩
theorem reps_cons {Z : Addr → Prop} {h : Heap} {x : AV} {xs : List AV} {v : Value} {vs : List Value} (p : rep Z h x v) (q : reps Z h xs vs) : reps Z h (x :: xs) (v :: vs) := ⟨v, vs, rfl, p, q⟩
theorem reps_nil {Z : Addr → Prop} {h : Heap} : reps Z h [] [] := rfl
theorem reps_set {Z : Addr → Prop} {h : Heap} : ∀ {xs : List AV} {vs : List Value} (i : Nat) {x : AV} {v : Value}, reps Z h xs vs → rep Z h x v → reps Z h (xs.set i x) (vs.set i v)
  | [], _, _, _, _, r, _ => by cases r; rfl
  | _ :: _, _, 0, _, _, ⟨_, r, e, _, k⟩, q => by cases e; exact ⟨_, r, rfl, q, k⟩
  | _ :: _, _, i + 1, _, _, ⟨v, r, e, p, k⟩, q => by cases e; exact ⟨v, _, rfl, p, reps_set i k q⟩

noncomputable def repF (Z : Addr → Prop) (h : Heap) : List (Str × AV) → List DictEntry → Prop
  | [], es => es = []
  | f :: fs, es => ∃ e r t, es = e :: r ∧ e.key = .str f.1 t ∧ rep Z h f.2 e.val ∧ repF Z h fs r
theorem repF_mono {Z Z' : Addr → Prop} {h h' : Heap} (hz : ∀ a, Z a → Z' a) (hk : ∀ a o, Z a → h.get? a = some o → h'.get? a = some o) :
    ∀ {fs : List (Str × AV)} {es : List DictEntry}, repF Z h fs es → repF Z' h' fs es
  | [], _, r => r
  | f :: _, _, ⟨e, r, t, q, k, p, l⟩ => ⟨e, r, t, q, k, rep_mono hz hk f.2 p, repF_mono hz hk l⟩

noncomputable def repO (Z : Addr → Prop) (h : Heap) (a : Addr) : AO → Prop
  | .list xs => ∃ its, h.IsList a its ∧ reps Z h xs its.toList
  | .plain xs => ∃ its, h.PlainList a its ∧ reps Z h xs its.toList
  | .bytearray b => h.get? a = some { cls := .type "bytearray", data := .bytearray b.toArray }
  | .dict fs => ∃ es n, h.get? a = some (dictOf es n) ∧ repF Z h fs es
theorem repO_mono {Z Z' : Addr → Prop} {h h' : Heap} (hz : ∀ a, Z a → Z' a) (hk : ∀ a o, Z a → h.get? a = some o → h'.get? a = some o) {a : Addr} (ha : ∀ o, h.get? a = some o → h'.get? a = some o) :
    ∀ {o : AO}, repO Z h a o → repO Z' h' a o
  | .list _, ⟨its, ⟨o, e, q⟩, r⟩ => ⟨its, ⟨o, ha _ e, q⟩, reps_mono hz hk _ r⟩
  | .plain _, ⟨its, ⟨n, e⟩, r⟩ => ⟨its, ⟨n, ha _ e⟩, reps_mono hz hk _ r⟩
  | .bytearray _, e => ha _ e
  | .dict _, ⟨es, n, e, r⟩ => ⟨es, n, ha _ e, repF_mono hz hk r⟩
theorem repO_live {Z : Addr → Prop} {h : Heap} {a : Addr} : ∀ {o : AO}, repO Z h a o → ∃ o', h.get? a = some o'
  | .list _, ⟨_, ⟨_, e, _⟩, _⟩ => ⟨_, e⟩
  | .plain _, ⟨_, ⟨_, e⟩, _⟩ => ⟨_, e⟩
  | .bytearray _, e => ⟨_, (e : h.get? a = some _)⟩
  | .dict _, ⟨_, _, e, _⟩ => ⟨_, e⟩

noncomputable abbrev Hp := List (Addr × AO)
noncomputable def keys (hp : Hp) : List Addr := hp.map (·.1)

/-- what stands fast through the whole call -/
structure Wd (K : Frag) where
  prog : Program
  w : World
  h₀ : Heap
  mg : Str → Option Value
  mb : Str → Option Value
  inK : K.In h₀
  g : h₀.Ns mainGlobals mg
  b : h₀.Ns builtinsNs mb
  nolimit : h₀.NoLimit
  blt : ∀ x : Str, x ≠ "__name__" → mb x = bootBuiltins x

noncomputable abbrev Wd.M {K : Frag} (D : Wd K) : Model := model D.prog D.w

variable {K : Frag} {D : Wd K}

structure HR (D : Wd K) (Z : Addr → Prop) (U : List Addr) (hp : Hp) (h : Heap) : Prop where
  base : ∀ b o, D.h₀.get? b = some o → h.get? b = some o
  objs : ∀ p ∈ hp, repO Z h p.1 p.2
  nodup : (keys hp).Nodup
  off : ∀ p ∈ hp, ¬ Z p.1 ∧ p.1 ∉ U ∧ D.h₀.get? p.1 = none
  zu : ∀ a, Z a → a ∉ U
  zlt : ∀ a, Z a → ∃ o, h.get? a = some o
  ult : ∀ a ∈ U, (∃ o, h.get? a = some o) ∧ D.h₀.get? a = none

structure Tr (W U : List Addr) (Z : Addr → Prop) (h : Heap) (Z' : Addr → Prop) (h' : Heap) : Prop where
  keep : ∀ b o, b ∉ W → b ∉ U → h.get? b = some o → h'.get? b = some o
  ups : ∀ b ∈ U, b ∉ W → ∀ o, h.get? b = some o → ∃ sl, h'.get? b = some { o with slots := sl }
  zsub : ∀ a, Z a → Z' a
  znew : ∀ a, Z' a → Z a ∨ (a ∈ W ∨ h.get? a = none)
  live : ∀ b o, h.get? b = some o → ∃ o', h'.get? b = some o'

theorem Tr.refl {W U : List Addr} {Z : Addr → Prop} {h : Heap} : Tr W U Z h Z h := ⟨fun _ _ _ _ e => e, fun _ _ _ o e => ⟨o.slots, e⟩, fun _ z => z, fun _ z => .inl z, fun _ o e => ⟨o, e⟩⟩
theorem Tr.dead {W U : List Addr} {Z Z' : Addr → Prop} {h h' : Heap} (x : Tr W U Z h Z' h') {b : Addr} (e : h'.get? b = none) : h.get? b = none := by
  cases q : h.get? b with
  | none => rfl
  | some o => obtain ⟨o', q'⟩ := x.live b o q; rw [e] at q'; cases q'
theorem Tr.trans {W W' U : List Addr} {Z Z' Z'' : Addr → Prop} {h h' h'' : Heap} (x : Tr W U Z h Z' h') (y : Tr W' U Z' h' Z'' h'') (hw : ∀ b ∈ W', b ∈ W ∨ h.get? b = none) : Tr W U Z h Z'' h'' := by
  have out : ∀ b o, b ∉ W → h.get? b = some o → b ∉ W' := fun b o hb e hm => (hw b hm).elim hb fun q => by rw [q] at e; cases e
  refine ⟨fun b o hb hu e => y.keep b o (out b o hb e) hu (x.keep b o hb hu e), fun b hu hb o e => ?_, fun a z => y.zsub a (x.zsub a z), fun a z => ?_, fun b o e => ?_⟩
  · obtain ⟨sl, e1⟩ := x.ups b hu hb o e
    obtain ⟨sl', e2⟩ := y.ups b hu (out b o hb e) _ e1
    exact ⟨sl', e2⟩
  · rcases y.znew a z with q | q | q
    · exact x.znew a q
    · exact .inr (hw a q)
    · exact .inr (.inr (x.dead q))
  · obtain ⟨o', e'⟩ := x.live b o e
    exact y.live b o' e'
theorem Tr.wider {W W' U : List Addr} {Z Z' : Addr → Prop} {h h' : Heap} (x : Tr W U Z h Z' h') (hw : ∀ b ∈ W, b ∈ W' ∨ h.get? b = none) : Tr W' U Z h Z' h' := Tr.trans (W := W') Tr.refl x hw
theorem Tr.ext {W U : List Addr} {Z : Addr → Prop} {h h' : Heap} (k : ∀ b o, h.get? b = some o → h'.get? b = some o) : Tr W U Z h Z h' :=
  ⟨fun b o _ _ e => k b o e, fun b _ _ o e => ⟨o.slots, k b o e⟩, fun _ z => z, fun _ z => .inl z, fun b o e => ⟨o, k b o e⟩⟩

theorem HR.zoff {Z : Addr → Prop} {U : List Addr} {hp : Hp} {h : Heap} (H : HR D Z U hp h) {a : Addr} (z : Z a) : a ∉ keys hp := fun hm => by
  obtain ⟨p, hp', rfl⟩ := List.mem_map.mp hm
  exact (H.off p hp').1 z

/-- what is frozen stays as it was -/
theorem Tr.zkeep {W U : List Addr} {Z Z' : Addr → Prop} {h h' : Heap} (T : Tr W U Z h Z' h') (hw : ∀ a, Z a → a ∉ W) (hu : ∀ a, Z a → a ∉ U) : ∀ a o, Z a → h.get? a = some o → h'.get? a = some o :=
  fun a o z e => T.keep a o (hw a z) (hu a z) e

structure Good (D : Wd K) (hn cl : Bool) (n : Nat) (A : Around) (U : List Addr) (h : Heap) : Prop where
  hand : hn = true → A.handled = none
  cln : cl = true → A.cl = true
  gds : A.guards = some []
  dep : A.depth + n < recursionLimit
  uni : A.units + 16 * n + 16 < cLine
  fr : ∃ envs, A.frames = some envs ∧ h.FunFrames D.h₀ envs ∧ ∀ e ∈ envs, ∀ L, e.frame = some L → L ∈ U

theorem Good.mono {hn cl : Bool} {n k : Nat} {A : Around} {U : List Addr} {h : Heap} (G : Good D hn cl n A U h) (hk : k ≤ n) : Good D hn cl k A U h :=
  ⟨G.hand, G.cln, G.gds, by have := G.dep; omega, by have := G.uni; omega, G.fr⟩
theorem funFrames_ups {base h h' : Heap} {U : List Addr} (k : ∀ b ∈ U, ∀ o, h.get? b = some o → (∀ vs, o.data ≠ .fields vs) → ∃ o', h'.get? b = some o' ∧ ∀ vs, o'.data ≠ .fields vs) :
    ∀ {l : List Env}, h.FunFrames base l → (∀ e ∈ l, ∀ L, e.frame = some L → L ∈ U) → h'.FunFrames base l
  | [], _, _ => trivial
  | env :: _, ⟨hk, ⟨L, o, hf, hn, ho, hd⟩, hr⟩, hin => by
    obtain ⟨o', ho', hd'⟩ := k L (hin env (.head _) L hf) o ho hd
    exact ⟨hk, ⟨L, o', hf, hn, ho', hd'⟩, funFrames_ups k hr fun e he => hin e (.tail _ he)⟩
theorem Good.tr {hn cl : Bool} {n : Nat} {A : Around} {W U : List Addr} {Z Z' : Addr → Prop} {h h' : Heap} (G : Good D hn cl n A U h) (T : Tr W U Z h Z' h')
    (hw : ∀ b ∈ U, b ∈ W → ∃ o', h'.get? b = some o' ∧ ∀ vs, o'.data ≠ .fields vs) : Good D hn cl n A U h' := by
  obtain ⟨envs, e1, e2, e3⟩ := G.fr
  refine ⟨G.hand, G.cln, G.gds, G.dep, G.uni, envs, e1, funFrames_ups (fun b hb o ho hd => ?_) e2 e3, e3⟩
  by_cases hbw : b ∈ W
  · exact hw b hb hbw
  · obtain ⟨sl, q⟩ := T.ups b hb hbw o ho
    exact ⟨_, q, hd⟩
end Mine

namespace Mine
open PySem PySem.W PySem.Calls PyProof.Rows PySem.Spec

/-- a frame, as its text makes it -/
structure FC where
  scope : Scope
  qual : Str
  func : Option Addr
  code : Value
  vars : List Str
  frees : List Str
  lvl : Nat
  hn : Bool
  cl : Bool

noncomputable def FC.isCell (c : FC) (x : Str) : Bool := c.scope.names.lookup x == some .cell

structure FC.Ok (c : FC) : Prop where
  kind : c.scope.kind = .function
  vars : ∀ x ∈ c.vars, c.scope.names.lookup x = some .local ∨ c.scope.names.lookup x = some .cell
  nodup : c.vars.Nodup
  dbg : ∀ x ∈ c.vars, (x == ("__debug__" : Str)) = false

/-- a frame, as it stands on the heap -/
structure Gh where
  L : Addr
  F : Addr
  cl : List (Str × Addr)
  own : List Addr
  U : List Addr

noncomputable def FC.env (c : FC) (g : Gh) : Env :=
  { scope := c.scope, locals := g.L, globals := mainGlobals, cells := g.cl, qual := c.qual, func := c.func, code := c.code, frame := some g.F, builtins := builtinsNs }

noncomputable abbrev Loc := List (Str × Option AV)
structure St where
  loc : Loc
  hp : Hp

noncomputable def wset (g : Gh) (hp : Hp) : List Addr := g.L :: (g.own ++ keys hp)

noncomputable def Held (c : FC) (g : Gh) (h : Heap) (m : Str → Option Value) (x : Str) (u : Value) : Prop :=
  if c.isCell x then ∃ a, g.cl.lookup x = some a ∧ h.IsCell a (some u) else m x = some u

noncomputable def Locs (c : FC) (g : Gh) (Z : Addr → Prop) (h : Heap) (m : Str → Option Value) : Loc → Prop
  | [] => True
  | p :: r => (∀ v, p.2 = some v → ∃ u, Held c g h m p.1 u ∧ rep Z h v u) ∧ Locs c g Z h m r

variable {K : Frag} {D : Wd K} {c : FC} {g : Gh} {A : Around} {Z Z' Z'' : Addr → Prop} {st st' st'' : St} {s s' s'' : Shared}

structure Rel (D : Wd K) (c : FC) (g : Gh) (A : Around) (Z : Addr → Prop) (st : St) (s : Shared) : Prop where
  hr : HR D Z g.U st.hp s.heap
  ns : ∃ m, s.heap.Ns g.L m ∧ Locs c g Z s.heap m st.loc
  names : st.loc.map (·.1) = c.vars
  Lz : ¬ Z g.L
  Lk : g.L ∉ keys st.hp
  L0 : D.h₀.get? g.L = none
  cell : ∀ x a, g.cl.lookup x = some a → (∃ ov, s.heap.IsCell a ov) ∧ ¬ Z a ∧ a ∉ keys st.hp ∧ a ∉ g.U ∧ D.h₀.get? a = none
  dist : g.cl.Pairwise fun x y => x.2 ≠ y.2
  own : ∀ a ∈ g.own, ∃ x, g.cl.lookup x = some a
  cvar : ∀ x ∈ c.vars, c.isCell x = true → ∃ a, g.cl.lookup x = some a ∧ (x ∉ c.frees → a ∈ g.own)
  fu : g.F ∈ g.U
  good : Good D c.hn c.cl c.lvl A g.U s.heap
  ok : c.Ok

structure Stp (D : Wd K) (c : FC) (g : Gh) (A : Around) (Z : Addr → Prop) (st : St) (s : Shared) (Z' : Addr → Prop) (st' : St) (s' : Shared) : Prop where
  rel : Rel D c g A Z' st' s'
  tr : Tr (wset g st.hp) g.U Z s.heap Z' s'.heap
  knew : ∀ k ∈ keys st'.hp, k ∈ keys st.hp ∨ s.heap.get? k = none
  sh : ∃ h' tk, s' = { s with heap := h', toks := tk }

theorem Rel.zw (R : Rel D c g A Z st s) {a : Addr} (z : Z a) : a ∉ wset g st.hp := fun hm => by
  rcases List.mem_cons.mp hm with rfl | hm
  · exact R.Lz z
  rcases List.mem_append.mp hm with hm | hm
  · obtain ⟨x, hx⟩ := R.own _ hm
    exact (R.cell x _ hx).2.1 z
  · exact R.hr.zoff z hm

theorem Stp.refl (R : Rel D c g A Z st s) : Stp D c g A Z st s Z st s := ⟨R, Tr.refl, fun _ h => .inl h, s.heap, s.toks, rfl⟩
theorem wset_new {hp hp' : Hp} {h : Heap} (hw : ∀ k ∈ keys hp', k ∈ keys hp ∨ h.get? k = none) : ∀ b ∈ wset g hp', b ∈ wset g hp ∨ h.get? b = none := fun b hb => by
  rcases List.mem_cons.mp hb with rfl | hb
  · exact .inl (.head _)
  rcases List.mem_append.mp hb with hb | hb
  · exact .inl (.tail _ (List.mem_append_left _ hb))
  · exact (hw b hb).imp (fun q => .tail _ (List.mem_append_right _ q)) id
theorem Stp.trans (x : Stp D c g A Z st s Z' st' s') (y : Stp D c g A Z' st' s' Z'' st'' s'') : Stp D c g A Z st s Z'' st'' s'' := by
  refine ⟨y.rel, x.tr.trans y.tr (wset_new x.knew), fun k hk => ?_, ?_⟩
  · rcases y.knew k hk with q | q
    · exact x.knew k q
    · exact .inr (x.tr.dead q)
  · obtain ⟨h', tk, rfl⟩ := x.sh
    obtain ⟨h'', tk', rfl⟩ := y.sh
    exact ⟨h'', tk', rfl⟩
theorem Stp.zk (R : Rel D c g A Z st s) (x : Stp D c g A Z st s Z' st' s') : ∀ a o, Z a → s.heap.get? a = some o → s'.heap.get? a = some o :=
  x.tr.zkeep (fun _ z => R.zw z) (fun a z => R.hr.zu a z)
theorem Stp.rep (R : Rel D c g A Z st s) (x : Stp D c g A Z st s Z' st' s') {v : AV} {u : Value} (r : rep Z s.heap v u) : Mine.rep Z' s'.heap v u :=
  rep_mono x.tr.zsub (x.zk R) v r
theorem Stp.reps (R : Rel D c g A Z st s) (x : Stp D c g A Z st s Z' st' s') {v : List AV} {u : List Value} (r : reps Z s.heap v u) : Mine.reps Z' s'.heap v u :=
  reps_mono x.tr.zsub (x.zk R) v r

/-- a tree, run in a frame -/
noncomputable def TT (D : Wd K) (c : FC) (g : Gh) (A : Around) (Z : Addr → Prop) (st : St) (s : Shared) {α : Type} (t : Sem α) (P : α → (Addr → Prop) → St → Shared → Prop) : Prop :=
  ∀ Q E, (∀ a Z' st' s', Stp D c g A Z st s Z' st' s' → P a Z' st' s' → Q a s') → wpAny D.M A t Q E s

section
variable {α β : Type} {P : α → (Addr → Prop) → St → Shared → Prop} {P' : β → (Addr → Prop) → St → Shared → Prop} {t : Sem α} {f : α → Sem β}
theorem TT.pure {a : α} (R : Rel D c g A Z st s) (h : P a Z st s) : TT D c g A Z st s (pure a) P := fun _ _ k => wpAny_pure (k _ _ _ _ (.refl R) h)
theorem TT.ret {a : α} (R : Rel D c g A Z st s) (h : P a Z st s) : TT D c g A Z st s (Sem.pure a) P := fun _ _ k => wpAny_pure (k _ _ _ _ (.refl R) h)
theorem TT.bind (x : TT D c g A Z st s t P) (y : ∀ a Z' st' s', Stp D c g A Z st s Z' st' s' → P a Z' st' s' → TT D c g A Z' st' s' (f a) P') : TT D c g A Z st s (t >>= f) P' :=
  fun Q E k => wpAny_bind (x _ E fun a Z' st' s' x1 x2 => y a Z' st' s' x1 x2 Q E fun b Z'' st'' s'' y1 y2 => k b Z'' st'' s'' (x1.trans y1) y2)
theorem TT.mono {P₂ : α → (Addr → Prop) → St → Shared → Prop} (x : TT D c g A Z st s t P) (y : ∀ a Z' st' s', Stp D c g A Z st s Z' st' s' → P a Z' st' s' → P₂ a Z' st' s') : TT D c g A Z st s t P₂ :=
  fun Q E k => x Q E fun a Z' st' s' x1 x2 => k a Z' st' s' x1 (y a Z' st' s' x1 x2)
theorem TT.standAt {pos : Pos} {f : Unit → Sem β} (y : TT D c g A Z st s (f ()) P') : TT D c g A Z st s (standAt pos >>= f) P' := fun Q E k => wpAny_bind (wpAny_standAt (y Q E k))
theorem TT.holding {vs : List Value} (x : TT D c g A Z st s t P) : TT D c g A Z st s (holding vs t) P := fun Q E k => wpAny_holding (x Q E k)
theorem TT.of_eq {t' : Sem α} (e : t' = t) (x : TT D c g A Z st s t P) : TT D c g A Z st s t' P := e ▸ x
theorem TT.keep {vs : List Value} (x : TT D c g A Z st s t P) : TT D c g A Z st s (t.keep vs) P := fun Q E k => wpAny_keep (x Q E k)
theorem TT.point (R : Rel D c g A Z st s) {P : Unit → (Addr → Prop) → St → Shared → Prop} (h : P () Z st s) : TT D c g A Z st s point P := fun _ _ k => wpAny_point (k _ _ _ _ (.refl R) h)
theorem TT.bind_eq {a : α} {t : Sem α} {f : α → Sem β} (e : t = Sem.pure a) (y : TT D c g A Z st s (f a) P') : TT D c g A Z st s (t >>= f) P' := by subst e; exact y

end
/-- the frame of a thing that the heap alone has turned by more: all stays, tokens go on -/
theorem HR.ext {U : List Addr} {hp : Hp} {h h' : Heap} (H : HR D Z U hp h) (k : ∀ b o, h.get? b = some o → h'.get? b = some o) : HR D Z U hp h' :=
  ⟨fun b o e => k b o (H.base b o e), fun p hp => repO_mono (fun _ z => z) (fun a o _ e => k a o e) (fun o e => k _ o e) (H.objs p hp), H.nodup, H.off, H.zu, fun a z => let ⟨o, e⟩ := H.zlt a z; ⟨o, k a o e⟩,
    fun a ha => ⟨let ⟨o, e⟩ := (H.ult a ha).1; ⟨o, k a o e⟩, (H.ult a ha).2⟩⟩
theorem dead_live {h : Heap} {a : Addr} {P : Prop} (e : h.get? a = none) (q : ∃ o, h.get? a = some o) : P := by obtain ⟨o, q⟩ := q; rw [e] at q; cases q
theorem HR.froze {U : List Addr} {hp : Hp} {h h' : Heap} (H : HR D Z U hp h) (k : ∀ b o, h.get? b = some o → h'.get? b = some o)
    (zs : ∀ a, Z a → Z' a) (zn : ∀ a, Z' a → Z a ∨ h.get? a = none ∧ ∃ o, h'.get? a = some o) : HR D Z' U hp h' :=
  ⟨fun b o e => k b o (H.base b o e), fun p hp => repO_mono zs (fun a o _ e => k a o e) (fun o e => k _ o e) (H.objs p hp), H.nodup,
    fun p hp => ⟨fun z => (zn _ z).elim (H.off p hp).1 fun q => dead_live q.1 (repO_live (H.objs p hp)), (H.off p hp).2⟩,
    fun a z hu => (zn a z).elim (fun q => H.zu a q hu) fun q => dead_live q.1 (H.ult a hu).1,
    fun a z => (zn a z).elim (fun q => let ⟨o, e⟩ := H.zlt a q; ⟨o, k a o e⟩) (·.2),
    fun a ha => ⟨let ⟨o, e⟩ := (H.ult a ha).1; ⟨o, k a o e⟩, (H.ult a ha).2⟩⟩

theorem Held.mono {h h' : Heap} {m : Str → Option Value} {x : Str} {u : Value} (k : ∀ a, g.cl.lookup x = some a → ∀ o, h.get? a = some o → h'.get? a = some o) (e : Held c g h m x u) : Held c g h' m x u := by
  unfold Held at *
  split
  · rename_i q
    rw [if_pos q] at e
    obtain ⟨a, e1, o, e2, e3⟩ := e
    exact ⟨a, e1, o, k a e1 o e2, e3⟩
  · rename_i q
    rw [if_neg q] at e
    exact e
theorem Locs.mono {h h' : Heap} {m : Str → Option Value} (k : ∀ x a, g.cl.lookup x = some a → ∀ o, h.get? a = some o → h'.get? a = some o) (hz : ∀ a, Z a → Z' a) (hk : ∀ a o, Z a → h.get? a = some o → h'.get? a = some o) :
    ∀ {l : Loc}, Locs c g Z h m l → Locs c g Z' h' m l
  | [], _ => trivial
  | _ :: _, ⟨e, r⟩ => ⟨fun v q => let ⟨u, e1, e2⟩ := e v q; ⟨u, e1.mono (k _), rep_mono hz hk v e2⟩, Locs.mono k hz hk r⟩

/-- a step that leaves the frame's own names as they are: what it does to the heap is told by the tracked things alone -/
theorem Stp.of_heap (R : Rel D c g A Z st s) {hp' : Hp} (T : Tr (keys st.hp) g.U Z s.heap Z' s'.heap) (H : HR D Z' g.U hp' s'.heap) (kn : ∀ k ∈ keys hp', k ∈ keys st.hp ∨ s.heap.get? k = none)
    (sh : ∃ h' tk, s' = { s with heap := h', toks := tk }) : Stp D c g A Z st s Z' ⟨st.loc, hp'⟩ s' := by
  obtain ⟨m, hn, hl⟩ := R.ns
  have hcl : ∀ x a, g.cl.lookup x = some a → ∀ o, s.heap.get? a = some o → s'.heap.get? a = some o := fun x a e o q => by
    have := R.cell _ _ e
    exact T.keep a o this.2.2.1 this.2.2.2.1 q
  have hzk : ∀ a o, Z a → s.heap.get? a = some o → s'.heap.get? a = some o := T.zkeep (fun a z => R.hr.zoff z) fun a z => R.hr.zu a z
  obtain ⟨oL, es, ep, ho, hd, hk, hm⟩ := id hn
  have hLlt : ∃ o, s.heap.get? g.L = some o := ⟨oL, ho⟩
  have fresh : ∀ a, (∃ o, s.heap.get? a = some o) → a ∉ keys st.hp → a ∉ keys hp' := fun a ha hn hm => (kn a hm).elim hn fun q => dead_live q ha
  have hns : s'.heap.Ns g.L m := by
    by_cases hu : g.L ∈ g.U
    · obtain ⟨sl, q⟩ := T.ups _ hu R.Lk _ ho
      exact ⟨_, es, ep, q, hd, hk, hm⟩
    · exact ⟨oL, es, ep, T.keep _ _ R.Lk hu ho, hd, hk, hm⟩
  have zo : ∀ a, (∃ o, s.heap.get? a = some o) → a ∉ keys st.hp → ¬ Z a → ¬ Z' a := fun a ha hk hz z => (T.znew a z).elim hz fun q => q.elim hk fun q => dead_live q ha
  refine ⟨⟨H, ⟨m, hns, hl.mono hcl T.zsub hzk⟩, R.names, zo _ hLlt R.Lk R.Lz, fresh _ hLlt R.Lk, R.L0, fun x a hx => ?_, R.dist, R.own, R.cvar, R.fu, R.good.tr T fun b hb hbw => ?_, R.ok⟩, ?_, kn, sh⟩
  · obtain ⟨⟨ov, o, e1, e2⟩, c2, c3, c4, c5⟩ := R.cell x a hx
    exact ⟨⟨ov, o, T.keep _ _ c3 c4 e1, e2⟩, zo _ ⟨_, e1⟩ c3 c2, fresh _ ⟨_, e1⟩ c3, c4, c5⟩
  · obtain ⟨p, hp, rfl⟩ := List.mem_map.mp hbw
    exact absurd hb (R.hr.off p hp).2.1
  · refine T.wider fun b hb => .inl (.tail _ (List.mem_append_right _ hb))

theorem Stp.ext (R : Rel D c g A Z st s) {h' : Heap} {tk : Nat} (k : ∀ b o, s.heap.get? b = some o → h'.get? b = some o) :
    Stp D c g A Z st s Z st { s with heap := h', toks := tk } :=
  Stp.of_heap R (Tr.ext k) (R.hr.ext k) (fun _ h => .inl h) ⟨_, _, rfl⟩
theorem Stp.tok (R : Rel D c g A Z st s) {tk : Nat} : Stp D c g A Z st s Z st { s with toks := tk } := Stp.ext (h' := s.heap) R (fun _ _ e => e)
end Mine

namespace Mine
open PySem PySem.W PySem.Calls PyProof.Rows PySem.Spec

variable {K : Frag} {D : Wd K} {c : FC} {g : Gh} {A : Around} {Z Z' Z'' : Addr → Prop} {st st' st'' : St} {s s' s'' : Shared}

noncomputable def EV (D : Wd K) (c : FC) (st : St) (e : Expr) (P : AV → St → Prop) : Prop :=
  ∀ g A Z s, Rel D c g A Z st s → TT D c g A Z st s (eval e (c.env g)) (fun v Z' st' s' => ∃ x, rep Z' s'.heap x v ∧ P x st')
noncomputable def EVs (D : Wd K) (c : FC) (st : St) (es : List Expr) (P : List AV → St → Prop) : Prop :=
  ∀ g A Z s pos, Rel D c g A Z st s → TT D c g A Z st s (spliced (backTo pos (starEach es (c.env g)))) (fun vs Z' st' s' => ∃ xs, reps Z' s'.heap xs vs ∧ P xs st')
noncomputable def BV (D : Wd K) (c : FC) (st : St) (e : Expr) (P : Bool → St → Prop) : Prop :=
  ∀ g A Z s, Rel D c g A Z st s → TT D c g A Z st s (isTrue e (c.env g) (eval e (c.env g))) (fun b _ st' _ => P b st')
inductive Fl where
  | next | brk | cont
  | ret (x : AV)
noncomputable def repFl (Z : Addr → Prop) (h : Heap) : Fl → Flow → Prop
  | .next, f => f = .next
  | .brk, f => f = .brk
  | .cont, f => f = .cont
  | .ret x, f => ∃ v, f = .ret v ∧ rep Z h x v
noncomputable def SV (D : Wd K) (c : FC) (st : St) (ss : List Stmt) (P : Fl → St → Prop) : Prop :=
  ∀ g A Z s, Rel D c g A Z st s → TT D c g A Z st s (execs ss (c.env g)) (fun f Z' st' s' => ∃ fl, repFl Z' s'.heap fl f ∧ P fl st')
noncomputable def SV1 (D : Wd K) (c : FC) (st : St) (x : Stmt) (P : Fl → St → Prop) : Prop :=
  ∀ g A Z s, Rel D c g A Z st s → TT D c g A Z st s (exec x (c.env g)) (fun f Z' st' s' => ∃ fl, repFl Z' s'.heap fl f ∧ P fl st')

inductive Look : Loc → Str → AV → Prop
  | head {r x v} : Look ((x, some v) :: r) x v
  | tail {p r x v} : Look r x v → Look (p :: r) x v
inductive Put : Loc → Str → AV → Loc → Prop
  | head {r x o v} : Put ((x, o) :: r) x v ((x, some v) :: r)
  | tail {p r x v r'} : Put r x v r' → Put (p :: r) x v (p :: r')

theorem Look.mem {l : Loc} {x : Str} {v : AV} (L : Look l x v) : x ∈ l.map (·.1) := by
  induction L with
  | head => exact .head _
  | tail _ ih => exact .tail _ ih
theorem Look.held {m : Str → Option Value} {h : Heap} {l : Loc} {x : Str} {v : AV} (L : Look l x v) (H : Locs c g Z h m l) : ∃ u, Held c g h m x u ∧ rep Z h v u := by
  induction L with
  | head => exact H.1 _ rfl
  | tail _ ih => exact ih H.2

theorem rep_none {h : Heap} : rep Z h .none .none := rfl
theorem rep_bool {h : Heap} {b : Bool} : rep Z h (.bool b) (.bool b) := rfl
theorem rep_int {h : Heap} {i : Int} {t : Tok} : rep Z h (.int i) (.int i t) := ⟨t, rfl⟩
theorem rep_str {h : Heap} {i : Str} {t : Tok} : rep Z h (.str i) (.str i t) := ⟨t, rfl⟩
theorem rep_bytes {h : Heap} {i : List UInt8} {t : Tok} : rep Z h (.bytes i) (.bytes i.toArray t) := ⟨t, rfl⟩
theorem rep_val {h : Heap} {v : Value} : rep Z h (.val v) v := rfl
theorem EV_Name {x : Str} {v : AV} {pos : Pos} {P : AV → St → Prop} (L : Look st.loc x v) (h : P v st) : EV D c st (.Name x pos) P := by
  intro g A Z s R Q E k
  obtain ⟨m, hn, hl⟩ := R.ns
  obtain ⟨u, hu, ru⟩ := L.held hl
  have hx : x ∈ c.vars := R.names ▸ L.mem
  refine of (PySem.wpAny_Name ?_ (R.ok.dbg x hx))
  have fin : Q u s := k _ _ _ _ (.refl R) ⟨v, ru, h⟩
  unfold Held at hu
  split at hu
  · rename_i q
    obtain ⟨a, e1, e2⟩ := hu
    exact wpAny_loadName_cell R.ok.kind (by have := q; simp [FC.isCell] at this; exact this) e1 e2 fin
  · rename_i q
    refine wpAny_loadName_local R.ok.kind ?_ hn hu fin
    rcases R.ok.vars x hx with e | e
    · exact e
    · exact absurd (by simpa [FC.isCell] using e) q

theorem EV_Global {x : Str} {u : Value} {v : AV} {pos : Pos} {P : AV → St → Prop} (hx : c.scope.names.lookup x = some .globalImplicit) (hd : (x == ("__debug__" : Str)) = false)
    (e : nsIn K mainGlobals x = some (some u)) (r : ∀ Z h, rep Z h v u) (h : P v st) : EV D c st (.Name x pos) P := by
  intro g A Z s R Q E k
  have hg : s.heap.Ns mainGlobals D.mg := D.g.keeps R.hr.base
  exact of (Calls.Name_function_global R.ok.kind hx (Calls.loadGlobal_global hg (mg_of D.inK D.g e) (k _ _ _ _ (.refl R) ⟨v, r _ _, h⟩)) hd)
theorem EV_Builtin {x : Str} {u : Value} {pos : Pos} {P : AV → St → Prop} (hx : c.scope.names.lookup x = some .globalImplicit) (hd : (x == ("__debug__" : Str)) = false)
    (e : nsIn K mainGlobals x = some none) (hv : bootBuiltins x = some u) (hn : x ≠ "__name__") (h : P (.val u) st) : EV D c st (.Name x pos) P := by
  intro g A Z s R Q E k
  have hg : s.heap.Ns mainGlobals D.mg := D.g.keeps R.hr.base
  have hb : s.heap.Ns builtinsNs D.mb := D.b.keeps R.hr.base
  exact of (Calls.Name_function_global R.ok.kind hx (Calls.loadGlobal_builtin hg (mg_none_of D.inK D.g e) hb ((D.blt x hn).trans hv) (k _ _ _ _ (.refl R) ⟨_, rep_val, h⟩)) hd)

theorem EV_Int {i : Int} {k : Nat} {pos : Pos} {P : AV → St → Prop} (h : P (.int i) st) : EV D c st (.Constant (.int i) k pos) P :=
  fun g A Z s R Q E k => (show wpAny D.M A (mkInt i) Q E s from of <| PySem.wpAny_mkInt (k _ _ _ _ (.tok R) ⟨_, rep_int, h⟩))
theorem EV_Str {i : Str} {k : Nat} {pos : Pos} {P : AV → St → Prop} (h : P (.str i) st) : EV D c st (.Constant (.str i) k pos) P :=
  fun g A Z s R Q E k => (show wpAny D.M A (mkText i) Q E s from of <| PySem.wpAny_mkText (k _ _ _ _ (.tok R) ⟨_, rep_str, h⟩))
theorem EV_Bytes {i : List UInt8} {k : Nat} {pos : Pos} {P : AV → St → Prop} (h : P (.bytes i) st) : EV D c st (.Constant (.bytes i) k pos) P :=
  fun g A Z s R Q E k => (show wpAny D.M A (mkTextBytes i.toArray) Q E s from of (PySem.wpAny_bind (PySem.wpAny_fresh (PySem.wpAny_pure (k _ _ _ _ (.tok R) ⟨_, rep_bytes, h⟩)))))
theorem EV_Bool {b : Bool} {k : Nat} {pos : Pos} {P : AV → St → Prop} (h : P (.bool b) st) : EV D c st (.Constant (.bool b) k pos) P :=
  fun g A Z s R Q E k => (show wpAny D.M A (pure (.bool b)) Q E s from wpAny_pure (k _ _ _ _ (.refl R) ⟨_, rep_bool, h⟩))

theorem EVs_nil {P : List AV → St → Prop} (h : P [] st) : EVs D c st [] P := fun g A Z s pos R => TT.pure R ⟨[], rfl, h⟩
noncomputable def starred : Expr → Bool
  | .Starred _ _ => true
  | _ => false
theorem starEach_plain {e : Expr} {rest : List Expr} {env : Env} (he : starred e = false) : starEach (e :: rest) env = (false, eval e env) :: starEach rest env := by
  cases e <;> first | rfl | cases he
theorem EVs_cons {e : Expr} {rest : List Expr} {P : List AV → St → Prop} (h : EV D c st e (fun x st' => EVs D c st' rest (fun xs st'' => P (x :: xs) st''))) (he : starred e = false := by rfl) :
    EVs D c st (e :: rest) P := by
  intro g A Z s pos R
  rw [starEach_plain he]
  show TT D c g A Z st s (spliced ((false, eval e (c.env g)) :: backTo pos (starEach rest (c.env g)))) _
  rw [spliced]
  refine TT.bind (h g A Z s R) ?_
  rintro v Z' st' s' x1 ⟨x, rx, hr⟩
  refine TT.bind (P := fun l Z₂ st₂ s₂ => l = [v] ∧ Z₂ = Z' ∧ st₂ = st' ∧ s₂ = s') (TT.pure x1.rel ⟨rfl, rfl, rfl, rfl⟩) ?_
  rintro l Z₂ st₂ s₂ x2 ⟨rfl, rfl, rfl, rfl⟩
  refine TT.bind (TT.holding (hr g A _ _ pos x2.rel)) ?_
  rintro vs Z₃ st₃ s₃ x3 ⟨xs, rxs, hP⟩
  exact TT.pure x3.rel ⟨_, reps_cons (x3.rep x2.rel rx) rxs, hP⟩
end Mine

namespace Mine
open PySem PySem.W PySem.Calls PyProof.Rows PySem.Spec

variable {K : Frag} {D : Wd K} {c : FC} {g : Gh} {A : Around} {Z Z' Z'' : Addr → Prop} {st st' st'' : St} {s s' s'' : Shared} {U : List Addr} {hp hp' : Hp}

/-- what a built-in does to the heap -/
structure CS (D : Wd K) (U : List Addr) (Z : Addr → Prop) (hp : Hp) (s : Shared) (Z' : Addr → Prop) (hp' : Hp) (s' : Shared) : Prop where
  hr : HR D Z' U hp' s'.heap
  tr : Tr (keys hp) U Z s.heap Z' s'.heap
  knew : ∀ k ∈ keys hp', k ∈ keys hp ∨ s.heap.get? k = none
  sh : ∃ h' tk, s' = { s with heap := h', toks := tk }

noncomputable def Eff (D : Wd K) (A : Around) (U : List Addr) (Z : Addr → Prop) (hp : Hp) (s : Shared) (t : Sem Value) (P : AV → Hp → Prop) : Prop :=
  ∀ Q E, (∀ v x Z' hp' s', P x hp' → CS D U Z hp s Z' hp' s' → rep Z' s'.heap x v → Q v s') → wpAny D.M A t Q E s

theorem CS.ext (H : HR D Z U hp s.heap) {h' : Heap} {tk : Nat} (k : ∀ b o, s.heap.get? b = some o → h'.get? b = some o) :
    CS D U Z hp s Z hp { s with heap := h', toks := tk } := ⟨H.ext k, Tr.ext k, fun _ h => .inl h, _, _, rfl⟩
theorem CS.tok (H : HR D Z U hp s.heap) {tk : Nat} : CS D U Z hp s Z hp { s with toks := tk } := CS.ext (h' := s.heap) H (fun _ _ e => e)
theorem CS.refl (H : HR D Z U hp s.heap) : CS D U Z hp s Z hp s := CS.tok (tk := s.toks) H

/-- a new thing that nobody will change -/
noncomputable def ZZ (Z : Addr → Prop) (a : Addr) : Addr → Prop := fun b => Z b ∨ b = a
theorem CS.fresh (H : HR D Z U hp s.heap) {h' : Heap} {a : Addr} {tk : Nat} (k : ∀ b o, s.heap.get? b = some o → h'.get? b = some o) (ha : s.heap.get? a = none) (hl : ∃ o, h'.get? a = some o) :
    CS D U Z hp s (ZZ Z a) hp { s with heap := h', toks := tk } := by
  refine ⟨H.froze k (fun _ z => .inl z) (fun b z => z.imp id fun (e : b = a) => by subst e; exact ⟨ha, hl⟩), ⟨fun b o _ _ e => k b o e, fun b _ _ o e => ⟨o.slots, k b o e⟩, fun _ z => .inl z, fun b z => z.imp id fun (e : b = a) => .inr (by subst e; exact ha), fun b o e => ⟨o, k b o e⟩⟩, fun _ h => .inl h, _, _, rfl⟩
theorem push_keeps {h : Heap} (o : Obj) : ∀ b x, h.get? b = some x → (h.push o).get? b = some x := fun _ _ e => Heap.get?_push_of_some _ e
theorem dead_size {h : Heap} : h.get? h.objs.size = none := by
  cases q : h.get? h.objs.size with
  | none => rfl
  | some o => exact absurd (Heap.lt_size q) (Nat.lt_irrefl _)
theorem CS.push (H : HR D Z U hp s.heap) {o : Obj} {tk : Nat} (hf : o.isFreed = false := by rfl) : CS D U Z hp s (ZZ Z s.heap.objs.size) hp { s with heap := s.heap.push o, toks := tk } :=
  CS.fresh H (push_keeps o) dead_size ⟨o, Heap.get?_push_size _ hf⟩
theorem CS.zk (H : HR D Z U hp s.heap) (x : CS D U Z hp s Z' hp' s') : ∀ a o, Z a → s.heap.get? a = some o → s'.heap.get? a = some o := x.tr.zkeep (fun _ z => H.zoff z) fun a z => H.zu a z
theorem CS.rep (H : HR D Z U hp s.heap) (x : CS D U Z hp s Z' hp' s') {v : AV} {u : Value} (r : rep Z s.heap v u) : Mine.rep Z' s'.heap v u := rep_mono x.tr.zsub (x.zk H) v r
theorem CS.reps (H : HR D Z U hp s.heap) (x : CS D U Z hp s Z' hp' s') {v : List AV} {u : List Value} (r : reps Z s.heap v u) : Mine.reps Z' s'.heap v u := reps_mono x.tr.zsub (x.zk H) v r

/-- a new thing that is tracked -/
theorem CS.track (H : HR D Z U hp s.heap) {o : Obj} {x : AO} {tk : Nat} (hx : repO Z (s.heap.push o) s.heap.objs.size x) :
    CS D U Z hp s Z (hp ++ [(s.heap.objs.size, x)]) { s with heap := s.heap.push o, toks := tk } := by
  have H' := H.ext (push_keeps o)
  have kn : ∀ a ∈ keys hp, a ≠ s.heap.objs.size := fun a ha e => by
    obtain ⟨p, hp', rfl⟩ := List.mem_map.mp ha
    exact dead_live (e ▸ dead_size) (repO_live (H.objs p hp'))
  refine ⟨⟨H'.base, fun p hm => ?_, ?_, fun p hm => ?_, H'.zu, H'.zlt, H'.ult⟩, Tr.ext (push_keeps o), fun k hk => ?_, _, _, rfl⟩
  · rcases List.mem_append.mp hm with hm | hm
    · exact H'.objs p hm
    · cases List.mem_singleton.mp hm; exact hx
  · unfold keys
    rw [List.map_append, List.nodup_append]
    refine ⟨H.nodup, by simp, fun a ha b hb => ?_⟩
    simp only [List.map_cons, List.map_nil, List.mem_singleton] at hb
    subst hb
    exact kn a ha
  · rcases List.mem_append.mp hm with hm | hm
    · exact H'.off p hm
    · cases List.mem_singleton.mp hm
      refine ⟨fun z => dead_live dead_size (H.zlt _ z), fun u => dead_live dead_size (H.ult _ u).1, ?_⟩
      cases e : D.h₀.get? s.heap.objs.size with
      | none => rfl
      | some o' => exact absurd (Heap.lt_size (H.base _ _ e)) (Nat.lt_irrefl _)
  · unfold keys at hk
    rw [List.map_append] at hk
    rcases List.mem_append.mp hk with hk | hk
    · exact .inl hk
    · cases List.mem_singleton.mp hk; exact .inr dead_size

/-- a built-in's work, in a frame -/
theorem Eff.tt {t : Sem Value} {P : AV → Hp → Prop} (R : Rel D c g A Z st s) (h : Eff D A g.U Z st.hp s t P) : TT D c g A Z st s t (fun v Z' st' s' => ∃ x, rep Z' s'.heap x v ∧ ∃ hp', st' = ⟨st.loc, hp'⟩ ∧ P x hp') :=
  fun Q E k => h Q E fun v x Z' hp' s' hP C r => k v Z' ⟨st.loc, hp'⟩ s' (Stp.of_heap R C.tr C.hr C.knew C.sh) ⟨x, r, hp', rfl, hP⟩

/-! operators -/
noncomputable def Bin (D : Wd K) (op : Operator) (x y z : AV) : Prop :=
  ∀ A U Z hp s a b, HR D Z U hp s.heap → rep Z s.heap x a → rep Z s.heap y b → Eff D A U Z hp s (binaryOp op a b) (fun z' hp' => z' = z ∧ hp' = hp)
noncomputable def BinT (D : Wd K) (op : Operator) (x y : AV) (P : AV → Prop) : Prop := ∃ z, Bin D op x y z ∧ P z
noncomputable def IBin (D : Wd K) (op : Operator) (x y z : AV) : Prop :=
  ∀ A U Z hp s a b, HR D Z U hp s.heap → rep Z s.heap x a → rep Z s.heap y b → Eff D A U Z hp s (inplaceOp op a b) (fun z' hp' => z' = z ∧ hp' = hp)
noncomputable def IBinT (D : Wd K) (op : Operator) (x y : AV) (P : AV → Prop) : Prop := ∃ z, IBin D op x y z ∧ P z

theorem eval_BinOp (op l r pos) (env : Env) : eval (.BinOp l op r pos) env = (do
    let a ← eval l env
    let b ← holding [a] (eval r env)
    standAt pos
    operate [a, b] (binaryOp op a b)) := rfl
theorem TT.release {vs ks : List Value} (R : Rel D c g A Z st s) {P : Unit → (Addr → Prop) → St → Shared → Prop} (h : P () Z st s) : TT D c g A Z st s (release vs ks) P := by
  unfold PySem.release
  generalize (vs.filter fun | .ref _ => true | _ => false) = l
  induction l with
  | nil => exact TT.pure R h
  | cons v r ih =>
    cases r with
    | nil => exact TT.pure R h
    | cons w r =>
      show TT D c g A Z st s (PySem.holding (w :: r ++ ks) PySem.point >>= fun _ => PySem.release.go ks (w :: r)) P
      refine TT.bind (TT.holding (TT.point (P := fun _ Z' st' s' => Z' = Z ∧ st' = st ∧ s' = s) R ⟨rfl, rfl, rfl⟩)) ?_
      rintro _ Z' st' s' x ⟨rfl, rfl, rfl⟩
      exact ih
theorem TT.operate {vs : List Value} {t : Sem Value} {P : Value → (Addr → Prop) → St → Shared → Prop} (x : TT D c g A Z st s t P) : TT D c g A Z st s (operate vs t) P := by
  unfold PySem.operate
  refine TT.bind (TT.holding x) fun v Z' st' s' x1 hP => ?_
  refine TT.bind (TT.release (P := fun _ Z'' st'' s'' => Z'' = Z' ∧ st'' = st' ∧ s'' = s') x1.rel ⟨rfl, rfl, rfl⟩) ?_
  rintro _ Z'' st'' s'' x2 ⟨rfl, rfl, rfl⟩
  exact TT.pure x2.rel hP

theorem EV_BinOp {op : Operator} {l r : Expr} {pos : Pos} {P : AV → St → Prop} (h : EV D c st l (fun x st1 => EV D c st1 r (fun y st2 => BinT D op x y (fun z => P z st2)))) :
    EV D c st (.BinOp l op r pos) P := by
  intro g A Z s R
  rw [eval_BinOp]
  refine TT.bind (h g A Z s R) ?_
  rintro a Z1 st1 s1 x1 ⟨x, rx, h1⟩
  refine TT.bind (TT.holding (h1 g A Z1 s1 x1.rel)) ?_
  rintro b Z2 st2 s2 x2 ⟨y, ry, z, hz, hP⟩
  refine TT.standAt (TT.operate ?_)
  refine TT.mono (Eff.tt x2.rel (hz A g.U Z2 st2.hp s2 a b x2.rel.hr (x2.rep x1.rel rx) ry)) ?_
  rintro v Z3 st3 s3 x3 ⟨w, rw', hp', rfl, rfl, rfl⟩
  exact ⟨_, rw', hP⟩

section IntOps
variable {a b : Int} {P : AV → Prop}
theorem eff_int {t : Sem Value} {z : Int} (H : HR D Z U hp s.heap) (h : ∀ Q E, Q (.int z s.toks) { s with toks := s.toks + 1 } → wpAny D.M A t Q E s) :
    Eff D A U Z hp s t (fun z' hp' => z' = .int z ∧ hp' = hp) := fun Q E k => h Q E (k _ _ Z hp _ ⟨rfl, rfl⟩ (CS.tok H) rep_int)
theorem bin_of {op : Operator} {z : Int} (h : ∀ (A : PySem.Around) s t u Q E, Q (.int z s.toks) { s with toks := s.toks + 1 } → PySem.wpAny D.M A (binaryOp op (.int a t) (.int b u)) Q E s) (hP : P (.int z)) :
    BinT D op (.int a) (.int b) P := ⟨_, fun A U Z hp s _ _ H ⟨_, e1⟩ ⟨_, e2⟩ => by subst e1 e2; exact eff_int H (fun Q E q => of (h A.toAround s _ _ Q E q)), hP⟩
theorem ibin_of {op : Operator} {z : Int} (h : ∀ (A : PySem.Around) s t u Q E, Q (.int z s.toks) { s with toks := s.toks + 1 } → PySem.wpAny D.M A (inplaceOp op (.int a t) (.int b u)) Q E s) (hP : P (.int z)) :
    IBinT D op (.int a) (.int b) P := ⟨_, fun A U Z hp s _ _ H ⟨_, e1⟩ ⟨_, e2⟩ => by subst e1 e2; exact eff_int H (fun Q E q => of (h A.toAround s _ _ Q E q)), hP⟩
theorem bin_add (h : P (.int (a + b))) : BinT D .Add (.int a) (.int b) P := bin_of (fun _ _ _ _ _ _ q => add_int q) h
theorem bin_sub (h : P (.int (a - b))) : BinT D .Sub (.int a) (.int b) P := bin_of (fun _ _ _ _ _ _ q => sub_int q) h
theorem mulOk_left (h : a.natAbs < 2 ^ 64) : IntMulOk a b := IntMulOk.of_left (by
  unfold Builtin.Int.intBits
  split
  · exact Nat.zero_le _
  · rename_i q
    have : a.natAbs ≠ 0 := by simpa using q
    have := (Nat.log2_lt this).mpr h
    omega)
theorem mulOk_right (h : b.natAbs < 2 ^ 64) : IntMulOk a b := IntMulOk.of_right (by
  unfold Builtin.Int.intBits
  split
  · exact Nat.zero_le _
  · rename_i q
    have : b.natAbs ≠ 0 := by simpa using q
    have := (Nat.log2_lt this).mpr h
    omega)
theorem bin_mul (hm : a.natAbs < 2 ^ 64 ∨ b.natAbs < 2 ^ 64) (h : P (.int (a * b))) : BinT D .Mult (.int a) (.int b) P :=
  bin_of (fun _ _ _ _ _ _ q => PyProof.Rows.mul_int q (hm.elim mulOk_left mulOk_right)) h
theorem bin_div (hb : 0 < b) (hs : b < 2 ^ 30) (h : P (.int (a / b))) : BinT D .FloorDiv (.int a) (.int b) P :=
  bin_of (fun _ _ _ _ _ _ q => floordiv_int (Int.ne_of_gt hb) (by rw [Int.fdiv_eq_ediv_of_nonneg _ (Int.le_of_lt hb)]; exact q) (.inl (PyProof.noPylong_small (by omega)))) h
theorem bin_mod (hb : 0 < b) (h : P (.int (a % b))) : BinT D .Mod (.int a) (.int b) P :=
  bin_of (fun _ _ _ _ _ _ q => mod_int' (Int.ne_of_gt hb) (by rw [Int.fmod_eq_emod_of_nonneg _ (Int.le_of_lt hb)]; exact q)) h
theorem bin_pow (hn : 0 ≤ b) (hn2 : b ≤ 1000000) (ha : a.natAbs < 2 ^ 64) (h : P (.int (a ^ b.toNat))) : BinT D .Pow (.int a) (.int b) P :=
  bin_of (fun _ _ _ _ _ _ q => pow_int_small hn hn2 ha q) h
theorem bin_shl (hn : 0 ≤ b) (hn2 : b ≤ 1000000) (ha : a.natAbs < 2 ^ 64) (h : P (.int (a * 2 ^ b.toNat))) : BinT D .LShift (.int a) (.int b) P :=
  bin_of (fun _ _ _ _ _ _ q => lshift_int_small hn hn2 ha q) h
theorem bin_shr (hn : 0 ≤ b) (h : P (.int (a / 2 ^ b.toNat))) : BinT D .RShift (.int a) (.int b) P :=
  bin_of (fun _ _ _ _ _ _ q => rshift_int hn (by rw [Int.fdiv_eq_ediv_of_nonneg _ (Int.le_of_lt (Int.pow_pos (by decide)))]; exact q)) h
theorem bitAnd_nat (ha : 0 ≤ a) (hb : 0 ≤ b) : Builtin.bitAnd a b = ((a.toNat &&& b.toNat : Nat) : Int) := by
  unfold Builtin.bitAnd
  simp [ha, hb]
theorem bin_and (ha : 0 ≤ a) (hb : 0 ≤ b) (h : P (.int ((a.toNat &&& b.toNat : Nat) : Int))) : BinT D .BitAnd (.int a) (.int b) P :=
  bin_of (fun _ _ _ _ _ _ q => and_int (by rw [bitAnd_nat ha hb]; exact q)) h
end IntOps
end Mine

namespace Mine
open PySem PySem.W PySem.Calls PyProof.Rows PySem.Spec

variable {K : Frag} {D : Wd K} {c : FC} {g : Gh} {A : Around} {Z Z' Z'' : Addr → Prop} {st st' st'' : St} {s s' s'' : Shared} {U : List Addr} {hp hp' : Hp}

theorem bitNot_neg {a : Int} (ha : 0 ≤ a) : decide (0 ≤ Builtin.bitNot a) = false := by unfold Builtin.bitNot; simp; omega
theorem bitNot_not (a : Int) : Builtin.bitNot (Builtin.bitNot a) = a := by unfold Builtin.bitNot; omega
theorem bitOr_nat {a b : Int} (ha : 0 ≤ a) (hb : 0 ≤ b) : Builtin.bitOr a b = ((a.toNat ||| b.toNat : Nat) : Int) := by
  unfold Builtin.bitOr Builtin.bitAnd
  rw [bitNot_neg ha, bitNot_neg hb]
  simp only [bitNot_not]
theorem bitXor_range {a b : Int} {k : Nat} (ha : 0 ≤ a) (hb : 0 ≤ b) (ha2 : a < 2 ^ k) (hb2 : b < 2 ^ k) : 0 ≤ Builtin.bitXor a b ∧ Builtin.bitXor a b < 2 ^ k := by
  unfold Builtin.bitXor
  rw [bitOr_nat ha hb, bitAnd_nat ha hb]
  have h2 : ((2 ^ k : Nat) : Int) = (2 : Int) ^ k := by norm_cast
  rw [← h2] at ha2 hb2 ⊢
  have h3 : a.toNat ||| b.toNat < 2 ^ k := Nat.or_lt_two_pow (by omega) (by omega)
  have h4 : a.toNat &&& b.toNat ≤ a.toNat := Nat.and_le_left
  have h5 : a.toNat ≤ a.toNat ||| b.toNat := Nat.left_le_or
  omega
theorem bitAnd_mask {a : Int} (ha : 0 ≤ a) (k : Nat) : Builtin.bitAnd a (2 ^ k - 1) = a % 2 ^ k := by
  have h0 : (0 : Int) ≤ 2 ^ k - 1 := by have : (0 : Int) < 2 ^ k := Int.pow_pos (by decide); omega
  rw [bitAnd_nat ha h0]
  have e : ((2 : Int) ^ k - 1).toNat = 2 ^ k - 1 := by
    have h1 : (1 : Nat) ≤ 2 ^ k := Nat.one_le_two_pow
    have h2 : ((2 ^ k : Nat) : Int) = (2 : Int) ^ k := by norm_cast
    omega
  rw [e, Nat.and_two_pow_sub_one_eq_mod]
  have h2 : ((2 ^ k : Nat) : Int) = (2 : Int) ^ k := by norm_cast
  rw [← h2]
  obtain ⟨n, rfl⟩ := Int.eq_ofNat_of_zero_le ha
  simp

section MoreOps
variable {a b : Int} {P : AV → Prop}
theorem bin_or (ha : 0 ≤ a) (hb : 0 ≤ b) (h : P (.int ((a.toNat ||| b.toNat : Nat) : Int))) : BinT D .BitOr (.int a) (.int b) P :=
  bin_of (fun _ _ _ _ _ _ q => or_int (by rw [bitOr_nat ha hb]; exact q)) h
theorem bin_xor (h : P (.int (Builtin.bitXor a b))) : BinT D .BitXor (.int a) (.int b) P :=
  bin_of (fun _ _ _ _ _ _ q => xor_int q) h
theorem bin_mask (k : Nat) (ha : 0 ≤ a) (hb : b = 2 ^ k - 1) (h : P (.int (a % 2 ^ k))) : BinT D .BitAnd (.int a) (.int b) P :=
  bin_of (fun _ _ _ _ _ _ q => and_int (by rw [hb, bitAnd_mask ha k]; exact q)) h
/-- bits that lie apart: a sum -/
theorem bin_orAdd (k : Nat) (m : Int) (ha : 0 ≤ a) (hl : a < 2 ^ k) (hm : 0 ≤ m) (hb : b = m * 2 ^ k) (h : P (.int (a + m * 2 ^ k))) : BinT D .BitOr (.int a) (.int b) P := by
  have hb0 : 0 ≤ b := by rw [hb]; exact Int.mul_nonneg hm (Int.le_of_lt (Int.pow_pos (by decide)))
  refine bin_or ha hb0 ?_
  have e : (((a.toNat ||| b.toNat : Nat)) : Int) = a + m * 2 ^ k := by
    obtain ⟨n, rfl⟩ := Int.eq_ofNat_of_zero_le ha
    obtain ⟨j, rfl⟩ := Int.eq_ofNat_of_zero_le hm
    have h2 : ((2 ^ k : Nat) : Int) = (2 : Int) ^ k := by norm_cast
    rw [← h2] at hl hb ⊢
    have hn : n < 2 ^ k := by omega
    have e1 : b.toNat = 2 ^ k * j := by rw [hb, Nat.mul_comm]; norm_cast
    rw [e1, Int.toNat_natCast, Nat.or_comm, ← Nat.two_pow_add_eq_or_of_lt hn]
    push_cast
    rw [Int.mul_comm]
    omega
  rw [e]; exact h
theorem ibin_add (h : P (.int (a + b))) : IBinT D .Add (.int a) (.int b) P := ibin_of (fun _ _ _ _ _ _ q => iadd_int q) h
theorem ibin_xor (h : P (.int (Builtin.bitXor a b))) : IBinT D .BitXor (.int a) (.int b) P :=
  ibin_of (fun _ _ _ _ _ _ q => ixor_int q) h
end MoreOps

/-! comparisons -/
noncomputable def Cmp (D : Wd K) (op : CmpOp) (x y : AV) (b : Bool) : Prop :=
  ∀ A U Z hp s a d, HR D Z U hp s.heap → rep Z s.heap x a → rep Z s.heap y d → Eff D A U Z hp s (compareOp op a d) (fun z' hp' => z' = .bool b ∧ hp' = hp)
noncomputable def CmpT (D : Wd K) (op : CmpOp) (x y : AV) (P : Bool → Prop) : Prop := ∃ b, Cmp D op x y b ∧ P b
section Cmps
variable {P : Bool → Prop}
theorem eff_bool {t : Sem Value} {z : Bool} (H : HR D Z U hp s.heap) (h : ∀ Q E, Q (.bool z) s → wpAny D.M A t Q E s) :
    Eff D A U Z hp s t (fun z' hp' => z' = .bool z ∧ hp' = hp) := fun Q E k => h Q E (k _ _ Z hp _ ⟨rfl, rfl⟩ (CS.refl H) rep_bool)
theorem cmp_of {op : CmpOp} {a b : Int} {z : Bool} (h : ∀ (A : PySem.Around) s t u Q E, Q (.bool z) s → PySem.wpAny D.M A (compareOp op (.int a t) (.int b u)) Q E s) (hP : P z) :
    CmpT D op (.int a) (.int b) P := ⟨_, fun A U Z hp s _ _ H ⟨_, e1⟩ ⟨_, e2⟩ => by subst e1 e2; exact eff_bool H (fun Q E q => of (h A.toAround s _ _ Q E q)), hP⟩
theorem cmp_lt {a b : Int} (h : P (decide (a < b))) : CmpT D .Lt (.int a) (.int b) P := cmp_of (fun _ _ _ _ _ _ q => lt_int q) h
theorem cmp_le {a b : Int} (h : P (decide (a ≤ b))) : CmpT D .LtE (.int a) (.int b) P := cmp_of (fun _ _ _ _ _ _ q => PyProof.Rows.le_int q) h
theorem cmp_gt {a b : Int} (h : P (decide (b < a))) : CmpT D .Gt (.int a) (.int b) P := cmp_of (fun _ _ _ _ _ _ q => PyProof.Rows.gt_int q) h
theorem cmp_ge {a b : Int} (h : P (decide (b ≤ a))) : CmpT D .GtE (.int a) (.int b) P := cmp_of (fun _ _ _ _ _ _ q => PyProof.Rows.ge_int q) h
theorem cmp_eq {a b : Int} (h : P (decide (a = b))) : CmpT D .Eq (.int a) (.int b) P := cmp_of (z := decide (a = b)) (fun _ _ _ _ _ _ q => eq_int (by rw [show (a == b) = decide (a = b) from rfl]; exact q)) h
theorem cmp_neB {a b : Bool} (h : P (a != b)) : CmpT D .NotEq (.bool a) (.bool b) P :=
  ⟨_, fun A U Z hp s _ _ H e1 e2 => by cases e1; cases e2; exact eff_bool H fun Q E q => of (ne_bool q), h⟩
theorem cmp_neBytes {a b : List UInt8} (h : P (a != b)) : CmpT D .NotEq (.bytes a) (.bytes b) P :=
  ⟨_, fun A U Z hp s _ _ H ⟨_, e1⟩ ⟨_, e2⟩ => by subst e1 e2; exact eff_bool H fun Q E q => of (ne_bytes (by simpa using q)), h⟩
end Cmps

theorem EV_Compare {op : CmpOp} {l r : Expr} {pos : Pos} {P : AV → St → Prop} (h : EV D c st l (fun x st1 => EV D c st1 r (fun y st2 => CmpT D op x y (fun b => P (.bool b) st2))))
    (hm : behindInMarks op r = false := by rfl) : EV D c st (.Compare l [op] [r] pos) P := by
  intro g A Z s R Q E k
  refine wpAny_Compare1 ?_ hm
  refine h g A Z s R _ E ?_
  rintro a Z1 st1 s1 x1 ⟨x, rx, h1⟩
  refine h1 g A Z1 s1 x1.rel _ E ?_
  rintro b Z2 st2 s2 x2 ⟨y, ry, z, hz, hP⟩
  refine Eff.tt x2.rel (hz A g.U Z2 st2.hp s2 a b x2.rel.hr (x2.rep x1.rel rx) ry) Q E ?_
  rintro v Z3 st3 s3 x3 ⟨w, rw', hp', rfl, rfl, rfl⟩
  exact k v _ _ _ ((x1.trans x2).trans x3) ⟨_, rw', hP⟩
theorem wpAny_truthy_b {M : Model} {A : Around} {b : Bool} {Q : Bool → Shared → Prop} {E : Value → Shared → Prop} (h : Q b s) : wpAny M A (truthy (.bool b)) Q E s := fun _ _ _ _ => h
theorem BV_Compare {op : CmpOp} {l r : Expr} {pos : Pos} {P : Bool → St → Prop} (h : EV D c st l (fun x st1 => EV D c st1 r (fun y st2 => CmpT D op x y (fun b => P b st2))))
    (hm : behindInMarks op r = false := by rfl) : BV D c st (.Compare l [op] [r] pos) P := by
  intro g A Z s R Q E k
  refine wpAny_isTrue_Compare1 ?_ hm
  refine h g A Z s R _ E ?_
  rintro a Z1 st1 s1 x1 ⟨x, rx, h1⟩
  refine h1 g A Z1 s1 x1.rel _ E ?_
  rintro b Z2 st2 s2 x2 ⟨y, ry, z, hz, hP⟩
  refine Eff.tt x2.rel (hz A g.U Z2 st2.hp s2 a b x2.rel.hr (x2.rep x1.rel rx) ry) _ E ?_
  rintro v Z3 st3 s3 x3 ⟨w, rw', hp', rfl, rfl, rfl⟩
  cases rw'
  exact wpAny_truthy_b (k z _ _ _ ((x1.trans x2).trans x3) hP)
/-- a test that is a value: a bool -/
theorem BV_plain {e : Expr} {P : Bool → St → Prop} (h : EV D c st e (fun x st1 => ∃ b, x = .bool b ∧ P b st1))
    (he : ∀ env whole, isTrue e env whole = (do let v ← whole; standAt e.pos; holding [v] (truthy v)) := by intro _ _; rfl) : BV D c st e P := by
  intro g A Z s R Q E k
  refine isTrue_plain ?_ (he _ _)
  refine h g A Z s R _ E ?_
  rintro a Z1 st1 s1 x1 ⟨x, rx, b, rfl, h1⟩
  cases rx
  exact wpAny_truthy_b (k b _ _ _ x1 h1)
theorem BV_not {e : Expr} {pos : Pos} {P : Bool → St → Prop} (h : BV D c st e (fun b st1 => P (!b) st1)) : BV D c st (.UnaryOp .Not e pos) P := by
  intro g A Z s R Q E k
  exact isTrue_not (h g A Z s R _ E fun b Z1 st1 s1 x1 h1 => k _ _ _ _ x1 h1)
theorem BV_and {x y : Expr} {pos : Pos} {P : Bool → St → Prop} (h : BV D c st x (fun b st1 => if b then BV D c st1 y P else P false st1)) : BV D c st (.BoolOp .And [x, y] pos) P := by
  intro g A Z s R Q E k
  refine isTrue_and (h g A Z s R _ E fun b Z1 st1 s1 x1 h1 => ?_)
  cases b with
  | false => simp only [Bool.false_eq_true, if_false] at h1 ⊢; exact k _ _ _ _ x1 h1
  | true =>
    simp only [if_true] at h1 ⊢
    refine isTrue_and (h1 g A Z1 s1 x1.rel _ E fun b Z2 st2 s2 x2 h2 => ?_)
    cases b with
    | false => simp only [Bool.false_eq_true, if_false]; exact k _ _ _ _ (x1.trans x2) h2
    | true => simp only [if_true]; exact isTrue_and_nil (k _ _ _ _ (x1.trans x2) h2)
theorem BV_or {xs : List Expr} {x : Expr} {pos : Pos} {P : Bool → St → Prop} (h : BV D c st x (fun b st1 => if b then P true st1 else BV D c st1 (.BoolOp .Or xs pos) P)) : BV D c st (.BoolOp .Or (x :: xs) pos) P := by
  intro g A Z s R Q E k
  refine isTrue_or (h g A Z s R _ E fun b Z1 st1 s1 x1 h1 => ?_)
  cases b with
  | true => simp only [if_true] at h1 ⊢; exact k _ _ _ _ x1 h1
  | false =>
    simp only [Bool.false_eq_true, if_false] at h1 ⊢
    exact h1 g A Z1 s1 x1.rel Q E fun b Z2 st2 s2 x2 h2 => k _ _ _ _ (x1.trans x2) h2
theorem BV_or_nil {pos : Pos} {P : Bool → St → Prop} (h : P false st) : BV D c st (.BoolOp .Or [] pos) P :=
  fun g A Z s R Q E k => isTrue_or_nil (k _ _ _ _ (.refl R) h)

theorem EV_IfExp {t x y : Expr} {pos : Pos} {P : AV → St → Prop} (h : BV D c st t (fun b st1 => if b then EV D c st1 x P else EV D c st1 y P)) : EV D c st (.IfExp t x y pos) P := by
  intro g A Z s R Q E k
  refine wpAny_IfExp (h g A Z s R _ E fun b Z1 st1 s1 x1 h1 => ?_)
  cases b with
  | true => simp only [if_true] at h1 ⊢; exact h1 g A Z1 s1 x1.rel Q E fun b Z2 st2 s2 x2 h2 => k _ _ _ _ (x1.trans x2) h2
  | false => simp only [Bool.false_eq_true, if_false] at h1 ⊢; exact h1 g A Z1 s1 x1.rel Q E fun b Z2 st2 s2 x2 h2 => k _ _ _ _ (x1.trans x2) h2
theorem boolOp_two (pos : Pos) (op : BoolOp) (x y : Sem Value) : boolOp pos op [x, y] = (do
    let v ← x
    standAt pos
    let t ← holding [v] (truthy v)
    match op, t with
    | .And, false | .Or, true => pure v
    | _, _ => y) := rfl
theorem EV_and {x y : Expr} {pos : Pos} {P : AV → St → Prop} (h : EV D c st x (fun v st1 => ∃ b, v = .bool b ∧ if b then EV D c st1 y P else P (.bool false) st1)) : EV D c st (.BoolOp .And [x, y] pos) P := by
  intro g A Z s R Q E k
  show wpAny D.M A (boolOp pos .And [eval x (c.env g), eval y (c.env g)]) Q E s
  rw [boolOp_two]
  refine wpAny_bind (h g A Z s R _ E ?_)
  rintro v Z1 st1 s1 x1 ⟨w, rw', b, rfl, h1⟩
  cases rw'
  refine wpAny_bind (wpAny_standAt (wpAny_bind (wpAny_holding (wpAny_truthy_b ?_))))
  cases b with
  | false => simp only [Bool.false_eq_true, if_false] at h1; exact wpAny_pure (k _ _ _ _ x1 ⟨_, rep_bool, h1⟩)
  | true => simp only [if_true] at h1; exact h1 g A Z1 s1 x1.rel Q E fun b Z2 st2 s2 x2 h2 => k _ _ _ _ (x1.trans x2) h2
end Mine

namespace Mine
open PySem PySem.W PySem.Calls PyProof.Rows PySem.Spec

variable {K : Frag} {D : Wd K} {c : FC} {g : Gh} {A : Around} {Z Z' Z'' : Addr → Prop} {st st' st'' : St} {s s' s'' : Shared} {U : List Addr} {hp hp' : Hp}

theorem HR.sameBut {U : List Addr} {h h' : Heap} {a : Addr} (H : HR D Z U hp h) (hs : Heap.SameBut a h h') (hz : ¬ Z a) (hk : a ∉ keys hp) (h0 : D.h₀.get? a = none) (hl : ∃ o, h'.get? a = some o) : HR D Z U hp h' := by
  have keep : ∀ b o, b ≠ a → h.get? b = some o → h'.get? b = some o := fun b o hb e => (hs.2 b hb).trans e
  have zne : ∀ b, Z b → b ≠ a := fun b z e => hz (e ▸ z)
  refine ⟨fun b o e => keep b o (fun q => by rw [q, h0] at e; cases e) (H.base b o e), fun p hp' => ?_, H.nodup, H.off, H.zu, fun b z => let ⟨o, e⟩ := H.zlt b z; ⟨o, keep b o (zne b z) e⟩, fun b hb => ⟨?_, (H.ult b hb).2⟩⟩
  rotate_left
  · by_cases q : b = a
    · rw [q]; exact hl
    · obtain ⟨o, e⟩ := (H.ult b hb).1; exact ⟨o, keep b o q e⟩
  exact repO_mono (fun _ z => z) (fun b o z e => keep b o (zne b z) e) (fun o e => keep _ o (fun q => hk (q ▸ List.mem_map_of_mem hp')) e) (H.objs p hp')

theorem Stp.own (R : Rel D c g A Z st s) {a : Addr} {h' : Heap} {tk : Nat} {loc' : Loc} (ha : a ∈ g.L :: g.own) (hs : Heap.SameBut a s.heap h')
    (hns : ∃ m, h'.Ns g.L m ∧ Locs c g Z h' m loc') (hnm : loc'.map (·.1) = c.vars) (hcell : ∀ x a, g.cl.lookup x = some a → ∃ ov, h'.IsCell a ov) :
    Stp D c g A Z st s Z ⟨loc', st.hp⟩ { s with heap := h', toks := tk } := by
  have aw : a ∈ wset g st.hp := by
    rcases List.mem_cons.mp ha with rfl | ha
    · exact .head _
    · exact .tail _ (List.mem_append_left _ ha)
  have ⟨az, ak, a0⟩ : ¬ Z a ∧ a ∉ keys st.hp ∧ D.h₀.get? a = none := by
    rcases List.mem_cons.mp ha with rfl | ha
    · exact ⟨R.Lz, R.Lk, R.L0⟩
    · obtain ⟨x, hx⟩ := R.own _ ha
      have := R.cell x _ hx
      exact ⟨this.2.1, this.2.2.1, this.2.2.2.2⟩
  have hl' : ∃ o, h'.get? a = some o := by
    rcases List.mem_cons.mp ha with rfl | ha
    · obtain ⟨m, ⟨o, _, _, ho, _⟩, _⟩ := hns; exact ⟨o, ho⟩
    · obtain ⟨x, hx⟩ := R.own _ ha
      obtain ⟨_, o, ho, _⟩ := hcell x _ hx; exact ⟨o, ho⟩
  have T : Tr (wset g st.hp) g.U Z s.heap Z h' := by
    refine ⟨fun b o hb _ e => (hs.2 b fun q => hb (q ▸ aw)).trans e, fun b _ hb o e => ⟨o.slots, (hs.2 b fun q => hb (q ▸ aw)).trans e⟩, fun _ z => z, fun _ z => .inl z, fun b o e => ?_⟩
    by_cases q : b = a
    · rw [q]; exact hl'
    · exact ⟨o, (hs.2 b q).trans e⟩
  obtain ⟨m, hn, hl⟩ := hns
  refine ⟨⟨R.hr.sameBut hs az ak a0 hl', ⟨m, hn, hl⟩, hnm, R.Lz, R.Lk, R.L0, fun x a hx => ⟨hcell x a hx, (R.cell x a hx).2⟩, R.dist, R.own, R.cvar, R.fu, R.good.tr T fun b hb hbw => ?_, R.ok⟩, T, fun _ h => .inl h, _, _, rfl⟩
  rcases List.mem_cons.mp hbw with rfl | hbw
  · obtain ⟨o, es, ep, ho, hd, _⟩ := hn
    exact ⟨o, ho, fun vs q => by rw [hd] at q; cases q⟩
  rcases List.mem_append.mp hbw with hbw | hbw
  · obtain ⟨x, hx⟩ := R.own _ hbw
    exact absurd hb (R.cell x _ hx).2.2.2.1
  · obtain ⟨p, hp, rfl⟩ := List.mem_map.mp hbw
    exact absurd hb (R.hr.off p hp).2.1

theorem Put.names {l l' : Loc} {x : Str} {v : AV} (P : Put l x v l') : l'.map (·.1) = l.map (·.1) := by
  induction P with
  | head => rfl
  | tail _ ih => simp [ih]
theorem Put.mem {l l' : Loc} {x : Str} {v : AV} (P : Put l x v l') : x ∈ l.map (·.1) := by
  induction P with
  | head => exact .head _
  | tail _ ih => exact .tail _ ih
theorem Put.locs {l l' : Loc} {x : Str} {v : AV} {u : Value} {m m' : Str → Option Value} {h h' : Heap} (P : Put l x v l') (hnd : (l.map (·.1)).Nodup)
    (hx : Held c g h' m' x u) (hu : rep Z h' v u) (hr : ∀ y w, y ≠ x → Held c g h m y w → Held c g h' m' y w) (hk : ∀ (y : AV) w, rep Z h y w → rep Z h' y w)
    (H : Locs c g Z h m l) : Locs c g Z h' m' l' := by
  have rest : ∀ l : Loc, x ∉ l.map (·.1) → Locs c g Z h m l → Locs c g Z h' m' l := by
    intro l
    induction l with
    | nil => exact fun _ _ => trivial
    | cons p r ih =>
      intro hn H
      refine ⟨fun w q => ?_, ih (fun q => hn (.tail _ q)) H.2⟩
      obtain ⟨u', e1, e2⟩ := H.1 w q
      exact ⟨u', hr _ _ (fun e => hn (e ▸ .head _)) e1, hk _ _ e2⟩
  induction P with
  | head =>
    have := (List.nodup_cons.mp hnd).1
    exact ⟨fun w q => by cases q; exact ⟨u, hx, hu⟩, rest _ this H.2⟩
  | tail P ih =>
    rename_i p r x' v' r'
    have hn := List.nodup_cons.mp hnd
    refine ⟨fun w q => ?_, ih hn.2 hx hu hr H.2 rest⟩
    obtain ⟨u', e1, e2⟩ := H.1 w q
    exact ⟨u', hr _ _ (fun e => hn.1 (by have := P.mem; rw [← e] at this; exact this)) e1, hk _ _ e2⟩

theorem TT_store {x : Str} {v : AV} {u : Value} {loc' : Loc} (R : Rel D c g A Z st s) (P : Put st.loc x v loc') (hf : x ∉ c.frees) (hu : rep Z s.heap v u) :
    TT D c g A Z st s (storeName (c.env g) x u) (fun _ Z' st' _ => Z' = Z ∧ st' = ⟨loc', st.hp⟩) := by
  intro Q E k
  obtain ⟨m, hn, hl⟩ := R.ns
  have hx : x ∈ c.vars := R.names ▸ P.mem
  have hnd : (st.loc.map (·.1)).Nodup := R.names ▸ R.ok.nodup
  have hnm : loc'.map (·.1) = c.vars := P.names.trans R.names
  have hLc : ∀ y a, g.cl.lookup y = some a → a ≠ g.L := fun y a hy e => by
    obtain ⟨⟨ov, o, ho, hd⟩, _⟩ := R.cell y a hy
    obtain ⟨o', es, ep, ho', hd', _⟩ := id hn
    rw [e, ho'] at ho
    cases ho
    rw [hd'] at hd
    cases hd
  by_cases q : c.isCell x = true
  · obtain ⟨a, ha, hao⟩ := R.cvar x hx q
    have hao := hao hf
    obtain ⟨⟨ov, hov⟩, _⟩ := R.cell _ _ ha
    refine of (wpAny_storeName_cell R.ok.kind (show (c.env g).kindOf x = some .cell from by have := q; simp [FC.isCell] at this; exact this) (show (c.env g).cells.lookup x = some a from ha) hov fun h' hc' hs => ?_)
    have keep : ∀ b o, b ≠ a → s.heap.get? b = some o → h'.get? b = some o := fun b o hb e => (hs.2 b hb).trans e
    have za : ∀ b, Z b → b ≠ a := fun b z e => (R.cell _ _ ha).2.1 (by rw [← e]; exact z)
    have kr : ∀ (y : AV) w, rep Z s.heap y w → rep Z h' y w := fun y w r => rep_mono (fun _ z => z) (fun b o z e => keep b o (za b z) e) y r
    refine k () Z ⟨loc', st.hp⟩ _ (Stp.own R (tk := s.toks) (.tail _ hao) hs ⟨m, hn.sameBut hs (Ne.symm (hLc _ _ ha)), ?_⟩ hnm fun y b hy => ?_) ⟨rfl, rfl⟩
    · refine P.locs hnd (u := u) (h := s.heap) (m := m) ?_ (kr _ _ hu) ?_ kr hl
      · unfold Held; rw [if_pos q]; exact ⟨a, ha, hc'⟩
      · intro y w hy hw
        unfold Held at hw ⊢
        split
        · rename_i qy
          rw [if_pos qy] at hw
          obtain ⟨b, e1, o, e2, e3⟩ := hw
          refine ⟨b, e1, o, keep b o (fun e => hy ?_) e2, e3⟩
          exact name_of_addr R.dist (e ▸ mem_of_lookup e1) (mem_of_lookup ha)
        · rename_i qy
          rw [if_neg qy] at hw
          exact hw
    · by_cases e : b = a
      · exact ⟨_, by rw [e]; exact hc'⟩
      · obtain ⟨⟨ov', o, ho, hd⟩, _⟩ := R.cell y b hy
        exact ⟨ov', o, keep _ _ e ho, hd⟩
  · have hloc : (c.env g).kindOf x = some .local := by
      rcases R.ok.vars x hx with e | e
      · exact e
      · exact absurd (by simpa [FC.isCell] using e) q
    refine of (wpAny_storeName_local hloc hn (fun h' hn' hs => ?_) (by show (c.scope.kind == .class || (c.scope.kind == .module && _)) = false; rw [R.ok.kind]; rfl))
    have keep : ∀ b o, b ≠ g.L → s.heap.get? b = some o → h'.get? b = some o := fun b o hb e => (hs.2 b hb).trans e
    have kr : ∀ (y : AV) w, rep Z s.heap y w → rep Z h' y w := fun y w r => rep_mono (fun _ z => z) (fun b o z e => keep b o (fun e' => R.Lz (e' ▸ z)) e) y r
    have cellk : ∀ y a, g.cl.lookup y = some a → ∀ ov, s.heap.IsCell a ov → h'.IsCell a ov := fun y a hy ov ⟨o, ho, hd⟩ => ⟨o, keep _ _ (hLc y a hy) ho, hd⟩
    refine k () Z ⟨loc', st.hp⟩ _ (Stp.own R (tk := s.toks + 1) (.head _) hs ⟨_, hn', ?_⟩ hnm fun y b hy => ?_) ⟨rfl, rfl⟩
    · refine P.locs hnd (u := u) (h := s.heap) (m := m) ?_ (kr _ _ hu) ?_ kr hl
      · unfold Held; rw [if_neg q]; show (if x = x then some u else m x) = some u; rw [if_pos rfl]
      · intro y w hy hw
        unfold Held at hw ⊢
        split
        · rename_i qy
          rw [if_pos qy] at hw
          obtain ⟨b, e1, e2⟩ := hw
          exact ⟨b, e1, cellk _ _ e1 _ e2⟩
        · rename_i qy
          rw [if_neg qy] at hw
          show (if y = x then some u else m y) = some w
          rw [if_neg hy]
          exact hw
    · obtain ⟨⟨ov, ho⟩, _⟩ := R.cell y b hy
      exact ⟨ov, cellk y b hy ov ho⟩

/-! statements -/
theorem SV_nil {P : Fl → St → Prop} (h : P .next st) : SV D c st [] P := fun g A Z s R => TT.pure R ⟨.next, rfl, h⟩
theorem SV_cons {x : Stmt} {rest : List Stmt} {P : Fl → St → Prop} (h : SV1 D c st x (fun f st1 => match f with | .next => SV D c st1 rest P | f => P f st1)) : SV D c st (x :: rest) P := by
  intro g A Z s R Q E k
  refine wpAny_execs_cons (h g A Z s R _ E ?_)
  rintro f Z1 st1 s1 x1 ⟨fl, rf, h1⟩
  cases fl with
  | next => cases rf; exact h1 g A Z1 s1 x1.rel Q E fun f Z2 st2 s2 x2 h2 => k _ _ _ _ (x1.trans x2) h2
  | brk => cases rf; exact k _ _ _ _ x1 ⟨.brk, rfl, h1⟩
  | cont => cases rf; exact k _ _ _ _ x1 ⟨.cont, rfl, h1⟩
  | ret x => obtain ⟨v, rfl, r⟩ := rf; exact k _ _ _ _ x1 ⟨.ret x, ⟨v, rfl, r⟩, h1⟩

noncomputable def noComp : Expr → Bool
  | .ListComp .. | .SetComp .. | .DictComp .. => false
  | _ => true
theorem swapsWith_plain {e : Expr} {t : Option Expr} {n : Nat} {env : Env} (h : noComp e = true) : swapsWith e t n env = pure false := by
  cases e <;> first | rfl | cases h
theorem SV1_assign {x : Str} {p pos : Pos} {e : Expr} {P : Fl → St → Prop} (h : EV D c st e (fun v st1 => ∃ loc', Put st1.loc x v loc' ∧ x ∉ c.frees ∧ P .next ⟨loc', st1.hp⟩)) (hc : noComp e = true := by rfl) :
    SV1 D c st (.Assign [.Name x p] e pos) P := by
  intro g A Z s R Q E k
  refine wpAny_Assign_Name ?_ (swapsWith_plain hc)
  refine h g A Z s R _ E ?_
  rintro v Z1 st1 s1 x1 ⟨w, rw', loc', hp, hf, hP⟩
  refine TT_store x1.rel hp hf rw' _ E ?_
  rintro _ Z2 st2 s2 x2 ⟨rfl, rfl⟩
  exact k _ _ _ _ (x1.trans x2) ⟨.next, rfl, hP⟩
theorem TT_load {x : Str} {v : AV} (R : Rel D c g A Z st s) (L : Look st.loc x v) : TT D c g A Z st s (loadName (c.env g) x) (fun u Z' st' s' => rep Z' s'.heap v u ∧ st' = st) := by
  intro Q E k
  obtain ⟨m, hn, hl⟩ := R.ns
  obtain ⟨u, hu, ru⟩ := L.held hl
  have hx : x ∈ c.vars := R.names ▸ L.mem
  have fin : Q u s := k _ _ _ _ (.refl R) ⟨ru, rfl⟩
  unfold Held at hu
  split at hu
  · rename_i q
    obtain ⟨a, e1, e2⟩ := hu
    exact of (wpAny_loadName_cell R.ok.kind (by have := q; simp [FC.isCell] at this; exact this) e1 e2 fin)
  · rename_i q
    refine of (wpAny_loadName_local R.ok.kind ?_ hn hu fin)
    rcases R.ok.vars x hx with e | e
    · exact e
    · exact absurd (by simpa [FC.isCell] using e) q
theorem SV1_aug {x : Str} {p pos : Pos} {op : Operator} {e : Expr} {v : AV} {P : Fl → St → Prop} (L : Look st.loc x v)
    (h : EV D c st e (fun w st1 => IBinT D op v w (fun z => ∃ loc', Put st1.loc x z loc' ∧ x ∉ c.frees ∧ P .next ⟨loc', st1.hp⟩))) : SV1 D c st (.AugAssign (.Name x p) op e pos) P := by
  intro g A Z s R Q E k
  refine wpAny_AugAssign_Name (TT_load R L _ E ?_)
  rintro u Z1 st1 s1 x1 ⟨ru, rfl⟩
  refine h g A Z1 s1 x1.rel _ E ?_
  rintro w Z2 st2 s2 x2 ⟨y, ry, z, hz, loc', hp, hf, hP⟩
  refine Eff.tt x2.rel (hz A g.U Z2 st2.hp s2 u w x2.rel.hr (x2.rep x1.rel ru) ry) _ E ?_
  rintro v' Z3 st3 s3 x3 ⟨w', rw', hp', rfl, rfl, rfl⟩
  refine TT_store x3.rel hp hf rw' _ E ?_
  rintro _ Z4 st4 s4 x4 ⟨rfl, rfl⟩
  exact k _ _ _ _ (((x1.trans x2).trans x3).trans x4) ⟨.next, rfl, hP⟩
theorem SV1_if {t : Expr} {b o : List Stmt} {pos : Pos} {P : Fl → St → Prop} (h : BV D c st t (fun v st1 => if v then SV D c st1 b P else SV D c st1 o P)) : SV1 D c st (.If t b o pos) P := by
  intro g A Z s R Q E k
  refine wpAny_If (h g A Z s R _ E ?_)
  rintro v Z1 st1 s1 x1 h1
  cases v with
  | true => simp only [if_true] at h1 ⊢; exact h1 g A Z1 s1 x1.rel Q E fun f Z2 st2 s2 x2 h2 => k _ _ _ _ (x1.trans x2) h2
  | false => simp only [Bool.false_eq_true, if_false] at h1 ⊢; exact h1 g A Z1 s1 x1.rel Q E fun f Z2 st2 s2 x2 h2 => k _ _ _ _ (x1.trans x2) h2
theorem SV1_ret {e : Expr} {pos : Pos} {P : Fl → St → Prop} (h : EV D c st e (fun v st1 => P (.ret v) st1)) : SV1 D c st (.Return (some e) pos) P := by
  intro g A Z s R Q E k
  refine wpAny_Return_some (h g A Z s R _ E ?_)
  rintro v Z1 st1 s1 x1 ⟨w, rw', hP⟩
  exact k _ _ _ _ x1 ⟨.ret w, ⟨v, rfl, rw'⟩, hP⟩
theorem SV1_pass {pos : Pos} {P : Fl → St → Prop} (h : P .next st) : SV1 D c st (.Pass pos) P := fun g A Z s R Q E k => wpAny_bind (wpAny_standAt (wpAny_pure (k _ _ _ _ (.refl R) ⟨.next, rfl, h⟩)))
theorem SV1_expr {e : Expr} {pos : Pos} {P : Fl → St → Prop} (h : EV D c st e (fun _ st1 => P .next st1)) (hc : noComp e = true := by rfl) : SV1 D c st (.Expr e pos) P := by
  intro g A Z s R Q E k
  refine wpAny_Expr_any (h g A Z s R _ E ?_) (by show (c.scope.kind == .module && _) = false; rw [R.ok.kind]; rfl) (swapsWith_plain hc)
  rintro v Z1 st1 s1 x1 ⟨w, rw', hP⟩
  exact k _ _ _ _ x1 ⟨.next, rfl, hP⟩

/-- a while, by a word and a measure -/
theorem SV1_while {t : Expr} {b : List Stmt} {pos : Pos} {P : Fl → St → Prop} (I : Nat → St → Prop) (n : Nat) (h0 : I n st)
    (h : ∀ n st, I n st → BV D c st t (fun v st1 => if v then SV D c st1 b (fun f st2 => match f with | .next | .cont => ∃ m, m < n ∧ I m st2 | .brk => P .next st2 | .ret x => P (.ret x) st2) else P .next st1)) :
    SV1 D c st (.While t b [] pos) P := by
  intro g A Z s R Q E k
  refine wpAny_While (codeAny_whileLoop (fun n s' => ∃ Z' st', Stp D c g A Z st s Z' st' s' ∧ I n st') ?_ n ⟨Z, st, .refl R, h0⟩)
  rintro n s1 ⟨Z1, st1, x1, hI⟩
  refine h n st1 hI g A Z1 s1 x1.rel _ _ ?_
  rintro v Z2 st2 s2 x2 h2
  cases v with
  | false =>
    simp only [Bool.false_eq_true, if_false] at h2 ⊢
    exact of (wpAny_execs_nil (k _ _ _ _ (x1.trans x2) ⟨.next, rfl, h2⟩))
  | true =>
    simp only [if_true] at h2 ⊢
    refine h2 g A Z2 s2 x2.rel _ _ ?_
    rintro f Z3 st3 s3 x3 ⟨fl, rf, h3⟩
    cases fl with
    | next => cases rf; obtain ⟨m, hm, h3⟩ := h3; exact ⟨m, hm, Z3, st3, (x1.trans x2).trans x3, h3⟩
    | cont => cases rf; obtain ⟨m, hm, h3⟩ := h3; exact ⟨m, hm, Z3, st3, (x1.trans x2).trans x3, h3⟩
    | brk => cases rf; exact k _ _ _ _ ((x1.trans x2).trans x3) ⟨.next, rfl, h3⟩
    | ret x => obtain ⟨v, rfl, r⟩ := rf; exact k _ _ _ _ ((x1.trans x2).trans x3) ⟨.ret x, ⟨v, rfl, r⟩, h3⟩
end Mine

namespace Mine
open PySem PySem.W PySem.Calls PyProof.Rows PySem.Spec

variable {K : Frag} {D : Wd K} {c : FC} {g : Gh} {A : Around} {Z Z' Z'' : Addr → Prop} {st st' st'' : St} {s s' s'' : Shared} {U : List Addr} {hp hp' : Hp}

/-- a thing of the machine's own is turned: nobody sees it -/
theorem Stp.touch (R : Rel D c g A Z st s) (x : Stp D c g A Z st s Z' st' s') {h' : Heap} {tk : Nat} {wr : List Addr} (k : ∀ b o, b ∉ wr → s'.heap.get? b = some o → h'.get? b = some o)
    (hw : ∀ b ∈ wr, s.heap.get? b = none ∧ b ∉ keys st'.hp ∧ ¬ Z' b) : Stp D c g A Z st s Z' st' { s' with heap := h', toks := tk } := by
  have old : ∀ b, (∃ o, s.heap.get? b = some o) → b ∉ wr := fun b e hm => dead_live (hw b hm).1 e
  have hL : ∃ o, s.heap.get? g.L = some o := by obtain ⟨m, ⟨o, _, _, ho, _⟩, _⟩ := R.ns; exact ⟨o, ho⟩
  have hC : ∀ x a, g.cl.lookup x = some a → ∃ o, s.heap.get? a = some o := fun x a hx => by obtain ⟨⟨_, o, ho, _⟩, _⟩ := R.cell x a hx; exact ⟨o, ho⟩
  have hU : ∀ a ∈ g.U, ∃ o, s.heap.get? a = some o := fun a ha => (R.hr.ult a ha).1
  have R' := x.rel
  have zk : ∀ a o, Z' a → s'.heap.get? a = some o → h'.get? a = some o := fun a o z e => k a o (fun hm => (hw a hm).2.2 z) e
  have H : HR D Z' g.U st'.hp h' := by
    refine ⟨fun b o e => k b o (old b ⟨_, R.hr.base b o e⟩) (R'.hr.base b o e), fun p hp => ?_, R'.hr.nodup, R'.hr.off, R'.hr.zu, fun a z => ?_, fun a ha => ⟨?_, (R'.hr.ult a ha).2⟩⟩
    · exact repO_mono (fun _ z => z) zk (fun o e => k _ o (fun hm => (hw _ hm).2.1 (List.mem_map_of_mem hp)) e) (R'.hr.objs p hp)
    · obtain ⟨o, e⟩ := R'.hr.zlt a z; exact ⟨o, zk a o z e⟩
    · obtain ⟨o, e⟩ := (R'.hr.ult a ha).1; exact ⟨o, k a o (old a (hU a ha)) e⟩
  obtain ⟨m, ⟨oL, es, ep, ho, hr⟩, hl⟩ := R'.ns
  have hLw := old _ hL
  have T : Tr (wset g st.hp) g.U Z s.heap Z' h' := by
    refine ⟨fun b o hb hu e => k b o (old b ⟨_, e⟩) (x.tr.keep b o hb hu e), fun b hu hb o e => ?_, x.tr.zsub, x.tr.znew, fun b o e => ?_⟩
    · obtain ⟨sl, q⟩ := x.tr.ups b hu hb o e; exact ⟨sl, k b _ (old b ⟨_, e⟩) q⟩
    · obtain ⟨o', q⟩ := x.tr.live b o e; exact ⟨o', k b _ (old b ⟨_, e⟩) q⟩
  refine ⟨⟨H, ⟨m, ⟨oL, es, ep, k _ _ hLw ho, hr⟩, hl.mono (fun y a e o q => k a o (old a (hC _ _ e)) q) (fun _ z => z) zk⟩, R'.names, R'.Lz, R'.Lk, R'.L0, fun x a hx => ?_, R'.dist, R'.own, R'.cvar, R'.fu, R.good.tr T fun b hb hbw => ?_, R'.ok⟩, T, x.knew, ?_⟩
  · obtain ⟨⟨ov, o, e1, e2⟩, r⟩ := R'.cell x a hx
    exact ⟨⟨ov, o, k _ _ (old _ (hC x a hx)) e1, e2⟩, r⟩
  · rcases List.mem_cons.mp hbw with rfl | hbw
    · exact ⟨oL, k _ _ hLw ho, fun vs q => by rw [hr.1] at q; cases q⟩
    rcases List.mem_append.mp hbw with hbw | hbw
    · obtain ⟨x, hx⟩ := R.own _ hbw
      exact absurd hb (R.cell x _ hx).2.2.2.1
    · obtain ⟨p, hp, rfl⟩ := List.mem_map.mp hbw
      exact absurd hb (R.hr.off p hp).2.1
  · obtain ⟨h₁, tk₁, rfl⟩ := x.sh
    exact ⟨h', tk, rfl⟩

/-- what an iterator's walk over known items says -/
structure ItAt (D : Wd K) (c : FC) (g : Gh) (A : Around) (Z : Addr → Prop) (s s₂ : Shared) (xs : List AV) (it : Value) : Prop where
  ex : ∃ (I : Addr) (fp wr : List Addr) (P : Nat → Value → Prop) (Stt : Nat → Heap → Prop), it = .ref I ∧ Walks D.prog D.w A.toAround I fp wr xs.length P Stt ∧ Stt 0 s₂.heap ∧
    (∀ b ∈ wr, s.heap.get? b = none) ∧ (∀ b ∈ fp, b ∈ wr ∨ Z b) ∧ (∀ i h b, Stt i h → b ∈ wr → ∃ o, h.get? b = some o) ∧
    (∀ i v, P i v → ∃ x, xs[i]? = some x ∧ rep Z s.heap x v)

noncomputable def rngInts (a c : Int) (n : Nat) : List AV := (List.range n).map fun (i : Nat) => AV.int (a + (i : Int) * c)
inductive Iter : AV → List AV → Prop
  | list {xs} : Iter (.list xs) xs
  | rng {a b c n} : Builtin.Range.small a b c = true → Builtin.Range.rangeSize a b c = ((n : Nat) : Int) → Iter (.rng a b c) (rngInts a c n)

theorem iter_at {v : AV} {u : Value} {xs : List AV} (i : Iter v xs) (R : Rel D c g A Z st s) (hh : A.handled = none) (r : rep Z s.heap v u) {Q : Value → Shared → Prop} {E : Value → Shared → Prop}
    (k : ∀ it s₂, (∃ h' tk, s₂ = { s with heap := h', toks := tk }) → (∀ b o, s.heap.get? b = some o → s₂.heap.get? b = some o) → ItAt D c g A Z s s₂ xs it → Q it s₂) : wpAny D.M A (pyIter u) Q E s := by
  cases i with
  | list =>
    obtain ⟨a, its, rfl, z, hl, rr⟩ := r
    refine of (wpAny_pyIter_list hl (k _ _ ⟨_, s.toks, rfl⟩ (push_keeps _) ⟨s.heap.objs.size, [s.heap.objs.size, a], [s.heap.objs.size], fun i v => its[i]? = some v, fun i h => h.IsListIter s.heap.objs.size a i ∧ h.IsList a its, rfl, ?_, ?_, ?_, ?_, ?_, ?_⟩))
    · have e : xs.length = its.size := by have := reps_length rr; simpa using this.symm
      rw [e]
      refine Walks.list hh _ a (fun q => ?_) its
      obtain ⟨o, ho, _⟩ := hl
      exact dead_live (q ▸ dead_size) ⟨o, ho⟩
    · exact ⟨⟨_, Heap.get?_push_size _ rfl, rfl, rfl⟩, hl.push _⟩
    · intro b hb; rw [List.mem_singleton.mp hb]; exact dead_size
    · intro b hb
      rcases List.mem_cons.mp hb with rfl | hb
      · exact .inl (.head _)
      · rw [List.mem_singleton.mp hb]; exact .inr z
    · rintro i h b ⟨⟨o, ho, _⟩, _⟩ hb; rw [List.mem_singleton.mp hb]; exact ⟨o, ho⟩
    · intro i v hv
      have hv' : its.toList[i]? = some v := by simpa using hv
      have hlt : i < xs.length := by
        have e := reps_length rr
        have := (List.getElem?_eq_some_iff.mp hv').1
        omega
      obtain ⟨v', e1, e2⟩ := reps_get rr (List.getElem?_eq_getElem hlt)
      rw [hv'] at e1; cases e1
      exact ⟨_, List.getElem?_eq_getElem hlt, e2⟩
  | rng hs hn =>
    rename_i a b c n
    obtain ⟨r, t, u, q, rfl, z, hr⟩ := r
    refine of (wpAny_pyIter_range hr hs (k _ _ ⟨_, s.toks, rfl⟩ (push_keeps _) ⟨s.heap.objs.size, [s.heap.objs.size], [s.heap.objs.size], fun i v => i < n ∧ ∃ t, v = .int (a + (i : Int) * c) t, fun i h => IsRangeIter h s.heap.objs.size (a + (i : Nat) * c) ((n : Int) - (i : Nat)) c, rfl, ?_, ?_, ?_, ?_, ?_, ?_⟩))
    · rw [show (rngInts a c n).length = n by simp [rngInts]]
      exact (Walks.range hh _ a c n).bound
    · show IsRangeIter _ _ (a + ((0 : Nat) : Int) * c) ((n : Int) - ((0 : Nat) : Int)) c
      rw [hn, show (a + ((0 : Nat) : Int) * c) = a by simp, show ((n : Int) - ((0 : Nat) : Int)) = n by simp]
      exact Heap.get?_push_size _ rfl
    · intro b hb; rw [List.mem_singleton.mp hb]; exact dead_size
    · exact fun b hb => .inl hb
    · intro i h b hi hb; rw [List.mem_singleton.mp hb]; exact ⟨_, hi⟩
    · rintro i v ⟨hi, t, rfl⟩
      exact ⟨.int (a + (i : Int) * c), by simp [rngInts, hi], rep_int⟩

theorem SV1_for {x : Str} {p pos : Pos} {e : Expr} {b : List Stmt} {P : Fl → St → Prop}
    (h : EV D c st e (fun v st1 => ∃ xs, Iter v xs ∧ ∃ I : Nat → St → Prop, I 0 st1 ∧
      (∀ i y st2, xs[i]? = some y → I i st2 → ∃ loc', Put st2.loc x y loc' ∧ x ∉ c.frees ∧ SV D c ⟨loc', st2.hp⟩ b (fun f st3 => match f with | .next | .cont => I (i + 1) st3 | .brk => P .next st3 | .ret z => P (.ret z) st3)) ∧
      (∀ st2, I xs.length st2 → P .next st2)))
    (hn : c.hn = true := by rfl) (hs : ∀ env x, foldedSetIterable e env x = pure x := by intro _ _; rfl) : SV1 D c st (.For (.Name x p) e b [] pos) P := by
  intro g A Z s R Q E k
  refine wpAny_For ?_ (hs _)
  refine h g A Z s R _ E ?_
  rintro v Z1 st1 s1 x1 ⟨w, rw', xs, hi, I, h0, hturn, hdone⟩
  have R1 := x1.rel
  have hh := R1.good.hand hn
  refine iter_at hi R1 hh rw' fun it s₂ hsh hk hit => ?_
  obtain ⟨h₂, tk₂, rfl⟩ := hsh
  obtain ⟨II, fp, wr, PP, Stt, rfl, W, hst, hwr, hfp, hlive, hval⟩ := hit
  have uoff : ∀ b ∈ wr, b ∉ g.U := fun b hb hu => dead_live (hwr b hb) (R1.hr.ult b hu).1
  have woff : ∀ b ∈ wr, ∀ hp', b ∉ keys hp' → b ∉ wset g hp' := fun b hb hp' hk hm => by
    rcases List.mem_cons.mp hm with rfl | hm
    · obtain ⟨m, ⟨o, _, _, ho, _⟩, _⟩ := R1.ns; exact dead_live (hwr _ hb) ⟨o, ho⟩
    rcases List.mem_append.mp hm with hm | hm
    · obtain ⟨x, hx⟩ := R1.own _ hm
      obtain ⟨⟨_, o, ho, _⟩, _⟩ := R1.cell x _ hx
      exact dead_live (hwr _ hb) ⟨o, ho⟩
    · exact hk hm
  let J : Nat → Shared → Prop := fun n s' => ∃ i Z' st', n = xs.length - i ∧ i ≤ xs.length ∧ Stp D c g A Z1 st1 s1 Z' st' s' ∧ Stt i s'.heap ∧ (∀ b ∈ wr, b ∉ keys st'.hp ∧ ¬ Z' b) ∧ I i st'
  refine codeAny_forLoop_any J ?_ xs.length ⟨0, Z1, st1, rfl, Nat.zero_le _, Stp.ext R1 hk, hst, fun b hb => ⟨fun hm => ?_, fun z => dead_live (hwr b hb) (R1.hr.zlt b z)⟩, h0⟩
  rotate_left
  · obtain ⟨p, hp, rfl⟩ := List.mem_map.mp hm
    exact dead_live (hwr _ hb) (repO_live (R1.hr.objs p hp))
  rintro n s3 ⟨i, Z3, st3, rfl, hle, x3, hst3, hoff, hI⟩
  -- what stays for the walk's own things, when a step is made from a state where they are safe
  have stay : ∀ {Za sta sa Zb stb sb i}, Rel D c g A Za sta sa → Stp D c g A Za sta sa Zb stb sb → Stt i sa.heap → (∀ a, Z1 a → Za a) → (∀ b ∈ wr, b ∉ keys sta.hp ∧ ¬ Za b) → Stt i sb.heap ∧ ∀ b ∈ wr, b ∉ keys stb.hp ∧ ¬ Zb b := by
    intro Za sta sa Zb stb sb i Ra xa ha hz ho
    refine ⟨W.frame _ _ _ ha fun b hb o e => ?_, fun b hb => ⟨fun hm => ?_, fun z => ?_⟩⟩
    · rcases hfp b hb with q | q
      · exact xa.tr.keep b o (woff b q _ (ho b q).1) (uoff b q) e
      · exact xa.zk Ra b o (hz b q) e
    · rcases xa.knew b hm with q | q
      · exact (ho b hb).1 q
      · exact dead_live q (hlive _ _ b ha hb)
    · rcases xa.tr.znew b z with q | q | q
      · exact (ho b hb).2 q
      · exact woff b hb _ (ho b hb).1 q
      · exact dead_live q (hlive _ _ b ha hb)
  by_cases hlt : i < xs.length
  · refine of (W.item i s3 _ _ hlt hst3 fun v' h' tk' hPv hst4 hk4 => ?_)
    obtain ⟨y, hy, ry⟩ := hval i v' hPv
    have x4 : Stp D c g A Z1 st1 s1 Z3 st3 { s3 with heap := h', toks := tk' } := x3.touch R1 hk4 fun b hb => ⟨hwr b hb, (hoff b hb).1, (hoff b hb).2⟩
    show wpAny _ A (letOwnedTupleGo (.Name x p) (.ref II) v') _ _ _
    refine wpAny_of_eq rfl ?_
    obtain ⟨loc', hput, hf, hbody⟩ := hturn i y st3 hy hI
    refine wpAny_assign_Name (TT_store x4.rel hput hf (x4.rep R1 ry) _ _ ?_)
    rintro _ Z5 st5 s5 x5 ⟨rfl, rfl⟩
    obtain ⟨hst5, hoff5⟩ := stay x4.rel x5 hst4 x4.tr.zsub hoff
    refine hbody g A _ s5 x5.rel _ _ ?_
    rintro f Z6 st6 s6 x6 ⟨fl, rf, h6⟩
    have x46 := (x4.trans x5).trans x6
    obtain ⟨hst6, hoff6⟩ := stay x5.rel x6 hst5 (x4.trans x5).tr.zsub hoff5
    cases fl with
    | next => cases rf; exact ⟨xs.length - (i + 1), by omega, i + 1, Z6, st6, rfl, hlt, x46, hst6, hoff6, h6⟩
    | cont => cases rf; exact ⟨xs.length - (i + 1), by omega, i + 1, Z6, st6, rfl, hlt, x46, hst6, hoff6, h6⟩
    | brk => cases rf; exact k _ _ _ _ (x1.trans x46) ⟨.next, rfl, h6⟩
    | ret z => obtain ⟨v, rfl, r⟩ := rf; exact k _ _ _ _ (x1.trans x46) ⟨.ret z, ⟨v, rfl, r⟩, h6⟩
  · have hi' : i = xs.length := by omega
    subst hi'
    refine of (W.done s3 _ _ hst3 fun h' tk' hk4 => ?_)
    have x4 : Stp D c g A Z1 st1 s1 Z3 st3 { s3 with heap := h', toks := tk' } := x3.touch R1 hk4 fun b hb => ⟨hwr b hb, (hoff b hb).1, (hoff b hb).2⟩
    exact of <| wpAny_execs_nil (k _ _ _ _ (x1.trans x4) ⟨.next, rfl, hdone _ hI⟩)
end Mine

namespace Mine
open PySem PySem.W PySem.Calls PyProof.Rows PySem.Spec

variable {K : Frag} {D : Wd K} {c : FC} {g : Gh} {A : Around} {Z Z' Z'' : Addr → Prop} {st st' st'' : St} {s s' s'' : Shared} {U : List Addr} {hp hp' : Hp}

noncomputable def CallT (cl : Bool) (D : Wd K) (n : Nat) (f : Value) (xs : List AV) (hp : Hp) (P : AV → Hp → Prop) : Prop :=
  ∀ A U Z s vs, Good D true cl n A U s.heap → HR D Z U hp s.heap → reps Z s.heap xs vs → Eff D A U Z hp s (call f vs) P

theorem CallT.mono {cl : Bool} {n m : Nat} {f : Value} {xs : List AV} {P P' : AV → Hp → Prop} (h : CallT cl D n f xs hp P) (hn : n ≤ m) (hpp : ∀ x hp, P x hp → P' x hp) : CallT cl D m f xs hp P' :=
  fun A U Z s vs G H r Q E k => h A U Z s vs (G.mono hn) H r Q E fun v x Z' hp' s' q C r => k v x Z' hp' s' (hpp _ _ q) C r

/-- the callee may be given a part of what is tracked -/
theorem HR.part {U : List Addr} {pre mid post : Hp} {h : Heap} (H : HR D Z U (pre ++ (mid ++ post)) h) : HR D Z U mid h := by
  have sub : ∀ p ∈ mid, p ∈ pre ++ (mid ++ post) := fun p hp => List.mem_append_right _ (List.mem_append_left _ hp)
  refine ⟨H.base, fun p hp => H.objs p (sub p hp), ?_, fun p hp => H.off p (sub p hp), H.zu, H.zlt, H.ult⟩
  have := H.nodup
  unfold keys at this ⊢
  rw [List.map_append, List.map_append] at this
  exact (List.nodup_append.mp (List.nodup_append.mp this).2.1).1

theorem keys_append {a b : Hp} : keys (a ++ b) = keys a ++ keys b := List.map_append
theorem CS.part {pre mid post mid' : Hp} (H : HR D Z U (pre ++ (mid ++ post)) s.heap) (C : CS D U Z mid s Z' mid' s') : CS D U Z (pre ++ (mid ++ post)) s Z' (pre ++ (mid' ++ post)) s' := by
  have nd := H.nodup
  rw [keys_append, keys_append] at nd
  obtain ⟨n1, n2, n3⟩ := List.nodup_append.mp nd
  obtain ⟨n4, n5, n6⟩ := List.nodup_append.mp n2
  have outO : ∀ p, p ∈ pre ++ (mid ++ post) → p.1 ∉ keys mid → ∀ o, s.heap.get? p.1 = some o → s'.heap.get? p.1 = some o := fun p hp hm o e => C.tr.keep _ o hm (H.off p hp).2.1 e
  have zk : ∀ a o, Z a → s.heap.get? a = some o → s'.heap.get? a = some o := C.tr.zkeep (fun a z hm => H.zoff z (by rw [keys_append, keys_append]; exact List.mem_append_right _ (List.mem_append_left _ hm))) fun a z => H.zu a z
  have preO : ∀ p ∈ pre, p.1 ∉ keys mid := fun p hp hm => n3 _ (List.mem_map_of_mem hp) _ (List.mem_append_left _ hm) rfl
  have postO : ∀ p ∈ post, p.1 ∉ keys mid := fun p hp hm => n6 _ hm _ (List.mem_map_of_mem hp) rfl
  have preM : ∀ p ∈ pre, p ∈ pre ++ (mid ++ post) := fun p hp => List.mem_append_left _ hp
  have postM : ∀ p ∈ post, p ∈ pre ++ (mid ++ post) := fun p hp => List.mem_append_right _ (List.mem_append_right _ hp)
  have other : ∀ p, p ∈ pre ++ (mid ++ post) → p.1 ∉ keys mid → repO Z' s'.heap p.1 p.2 ∧ p.1 ∉ keys mid' ∧ ¬ Z' p.1 := fun p hp hm => by
    have lv := repO_live (H.objs p hp)
    refine ⟨repO_mono C.tr.zsub zk (outO p hp hm) (H.objs p hp), fun hm' => (C.knew _ hm').elim hm fun q => dead_live q lv, fun z => (C.tr.znew _ z).elim (H.off p hp).1 fun q => q.elim hm fun q => dead_live q lv⟩
  refine ⟨⟨C.hr.base, fun p hp => ?_, ?_, fun p hp => ?_, C.hr.zu, C.hr.zlt, C.hr.ult⟩, C.tr.wider fun b hb => .inl (by rw [keys_append, keys_append]; exact List.mem_append_right _ (List.mem_append_left _ hb)), fun k hk => ?_, C.sh⟩
  · rcases List.mem_append.mp hp with hp | hp
    · exact (other p (preM p hp) (preO p hp)).1
    rcases List.mem_append.mp hp with hp | hp
    · exact C.hr.objs p hp
    · exact (other p (postM p hp) (postO p hp)).1
  · rw [keys_append, keys_append]
    refine List.nodup_append.mpr ⟨n1, List.nodup_append.mpr ⟨C.hr.nodup, n5, fun a ha b hb e => ?_⟩, fun a ha b hb e => ?_⟩
    · obtain ⟨p, hp, rfl⟩ := List.mem_map.mp hb
      exact (other p (postM p hp) (postO p hp)).2.1 (e ▸ ha)
    · obtain ⟨p, hp, rfl⟩ := List.mem_map.mp ha
      rcases List.mem_append.mp hb with hb | hb
      · exact (other p (preM p hp) (preO p hp)).2.1 (e ▸ hb)
      · exact n3 _ ha _ (List.mem_append_right _ hb) e
  · rcases List.mem_append.mp hp with hp | hp
    · exact ⟨(other p (preM p hp) (preO p hp)).2.2, (H.off p (preM p hp)).2⟩
    rcases List.mem_append.mp hp with hp | hp
    · exact C.hr.off p hp
    · exact ⟨(other p (postM p hp) (postO p hp)).2.2, (H.off p (postM p hp)).2⟩
  · rw [keys_append, keys_append] at hk ⊢
    rcases List.mem_append.mp hk with hk | hk
    · exact .inl (List.mem_append_left _ hk)
    rcases List.mem_append.mp hk with hk | hk
    · exact (C.knew k hk).imp (fun q => List.mem_append_right _ (List.mem_append_left _ q)) id
    · exact .inl (List.mem_append_right _ (List.mem_append_right _ hk))
theorem CallT.part {cl : Bool} {n : Nat} {f : Value} {xs : List AV} {mid : Hp} {P : AV → Hp → Prop} (h : CallT cl D n f xs mid P) (pre post : Hp) : CallT cl D n f xs (pre ++ (mid ++ post)) (fun x hp' => ∃ mid', hp' = pre ++ (mid' ++ post) ∧ P x mid') :=
  fun A U Z s vs G H r Q E k => h A U Z s vs G H.part r Q E fun v x Z' mid' s' q C r => k v x Z' _ s' ⟨mid', rfl, q⟩ (C.part H) r

/-! entering a def -/
theorem cellsFrom_acc : ∀ (names : List (Str × NameKind)) (n : Nat) (acc : List (Str × Addr)) (x : Str), (∃ a, acc.lookup x = some a) → ∃ a, (cellsFrom n names acc).lookup x = some a
  | [], _, _, _, h => h
  | (y, k) :: r, n, acc, x, h => by
    unfold cellsFrom
    split
    · refine cellsFrom_acc r _ _ x ?_
      rw [List.lookup_cons]
      cases x == y with
      | true => exact ⟨_, rfl⟩
      | false => exact h
    · exact cellsFrom_acc r _ _ x h
theorem cellsFrom_has : ∀ (names : List (Str × NameKind)) (n : Nat) (acc : List (Str × Addr)) (x : Str), names.lookup x = some .cell → ∃ a, (cellsFrom n names acc).lookup x = some a
  | [], _, _, _, h => by cases h
  | (y, k) :: r, n, acc, x, h => by
    unfold cellsFrom
    rw [List.lookup_cons] at h
    cases e : x == y with
    | true =>
      rw [e] at h
      cases h
      simp only [beq_self_eq_true, if_true]
      refine cellsFrom_acc r _ _ x ?_
      rw [List.lookup_cons, e]
      exact ⟨_, rfl⟩
    | false =>
      rw [e] at h
      split
      · exact cellsFrom_has r _ _ x h
      · exact cellsFrom_has r _ _ x h

theorem bindL_none (kindOf : Str → Option NameKind) : ∀ (bs : List (Str × Value)) (m : Str → Option Value) (x : Str), x ∉ bs.map (·.1) → bindL kindOf bs m x = m x
  | [], _, _, _ => rfl
  | (n, v) :: r, m, x, h => by
    have h1 : x ≠ n := fun e => h (e ▸ .head _)
    unfold bindL
    rw [bindL_none kindOf r _ x (fun q => h (.tail _ q))]
    split
    · show (if x = n then some v else m x) = m x
      rw [if_neg h1]
    · rfl
theorem bindC_none (kindOf : Str → Option NameKind) : ∀ (bs : List (Str × Value)) (m : Str → Option Value) (x : Str), x ∉ bs.map (·.1) → bindC kindOf bs m x = m x
  | [], _, _, _ => rfl
  | (n, v) :: r, m, x, h => by
    have h1 : x ≠ n := fun e => h (e ▸ .head _)
    unfold bindC
    rw [bindC_none kindOf r _ x (fun q => h (.tail _ q))]
    split
    · rfl
    · show (if x = n then some v else m x) = m x
      rw [if_neg h1]
theorem bindL_get (kindOf : Str → Option NameKind) : ∀ (bs : List (Str × Value)) (m : Str → Option Value), (bs.map (·.1)).Nodup → ∀ x v, (x, v) ∈ bs → kindOf x = some .local → bindL kindOf bs m x = some v
  | (n, u) :: r, m, h, x, v, hm, hk => by
    have h' := List.nodup_cons.mp h
    unfold bindL
    rcases List.mem_cons.mp hm with e | hm
    · cases e
      rw [bindL_none kindOf r _ _ h'.1, if_pos hk]
      show (if _ = _ then some _ else _) = some _
      rw [if_pos rfl]
    · exact bindL_get kindOf r _ h'.2 x v hm hk
theorem bindC_get (kindOf : Str → Option NameKind) : ∀ (bs : List (Str × Value)) (m : Str → Option Value), (bs.map (·.1)).Nodup → ∀ x v, (x, v) ∈ bs → kindOf x ≠ some .local → bindC kindOf bs m x = some v
  | (n, u) :: r, m, h, x, v, hm, hk => by
    have h' := List.nodup_cons.mp h
    unfold bindC
    rcases List.mem_cons.mp hm with e | hm
    · cases e
      rw [bindC_none kindOf r _ _ h'.1, if_neg hk]
      show (if _ = _ then some _ else _) = some _
      rw [if_pos rfl]
    · exact bindC_get kindOf r _ h'.2 x v hm hk

noncomputable def locOf (ps : List Str) (xs : List AV) (rest : List Str) : Loc := (ps.zip xs).map (fun p => (p.1, some p.2)) ++ rest.map fun x => (x, Option.none)
theorem locOf_names {ps rest : List Str} {xs : List AV} (h : ps.length = xs.length) : (locOf ps xs rest).map (·.1) = ps ++ rest := by
  unfold locOf
  rw [List.map_append, List.map_map, List.map_map]
  rw [show ((fun x : Str × Option AV => x.1) ∘ fun p : Str × AV => (p.1, some p.2)) = Prod.fst from rfl, List.map_fst_zip (by omega), show ((fun x : Str × Option AV => x.1) ∘ fun x : Str => (x, (none : Option AV))) = id from rfl, List.map_id]
theorem locs_rest {h : Heap} {m : Str → Option Value} : ∀ rest : List Str, Locs c g Z h m (rest.map fun x => (x, Option.none))
  | [] => trivial
  | _ :: r => ⟨fun v e => (nomatch e), locs_rest r⟩
theorem locs_zip {h : Heap} {m : Str → Option Value} {rest : List Str} : ∀ {ps : List Str} {xs : List AV} {vs : List Value}, reps Z h xs vs → (∀ x v, (x, v) ∈ ps.zip vs → Held c g h m x v) → Locs c g Z h m (locOf ps xs rest)
  | [], _, _, _, _ => locs_rest rest
  | _ :: _, [], _, _, _ => locs_rest rest
  | p :: ps, x :: xs, _, ⟨v, r, e', rx, rr⟩, hh => by
    subst e'
    refine ⟨fun w e => ?_, locs_zip rr fun y u hm => hh y u (.tail _ hm)⟩
    cases e
    exact ⟨v, hh p v (.head _), rx⟩

/-- the frame on top of the stack is this one -/
noncomputable def Head (c : FC) (g : Gh) (A : Around) : Prop := ∃ outer, A.frames = some (c.env g :: outer)

theorem enter_go {cl : Bool} {n : Nat} {f : Addr} {oc : Value} {od : Option Addr} {osl : Array (Option Value)} {name qual : Str} {params : Arguments} {body : List Stmt} {scope : Scope} {dV kV doc pm cdv ct : Value} {an : Option Addr}
    {xs : List AV} (fc : FC) (ps rest : List Str)
    (ho : K.lookup f = some ⟨oc, od, .func (fnOf name qual params body scope dV kV doc pm an cdv ct), osl⟩) (hcd : codeIn K cdv qual = true)
    (e1 : fc.scope = scope) (e2 : fc.qual = qual ++ ".<locals>.") (e3 : fc.func = some f) (e4 : fc.code = cdv) (e5 : fc.vars = ps ++ rest) (e6 : fc.frees = []) (e7 : fc.lvl < n) (e8 : fc.cl = cl) (ok : fc.Ok)
    (hlen : ps.length = xs.length)
    (hbind : ∀ vs : List Value, vs.length = ps.length → bindArgs (fnOf name qual params body scope dV kV doc pm an cdv ct) ⟨vs, []⟩ = pure (ps.zip vs))
    (hco : scope.isCoroutine = false) (hgen : scope.isGenerator = false)
    {A : Around} {U : List Addr} {Z : Addr → Prop} {s : Shared} {vs : List Value} {Q E : Value → Shared → Prop} (G : Good D true cl n A U s.heap) (H : HR D Z U hp s.heap) (rv : reps Z s.heap xs vs)
    (k : ∀ g s₁, Head fc g (A.deeper (fc.env g)) → g.U = g.F :: U → g.F = g.L → s.heap.get? g.L = none → Rel D fc g (A.deeper (fc.env g)) Z ⟨locOf ps xs rest, hp⟩ s₁ →
      (∀ Z2 st2 s2, Stp D fc g (A.deeper (fc.env g)) Z ⟨locOf ps xs rest, hp⟩ s₁ Z2 st2 s2 → CS D U Z hp s Z2 st2.hp s2) →
      wpAny D.M (A.deeper (fc.env g)) (execs body (fc.env g)) (fun f s' => Q (match f with | .ret v => v | _ => .none) s')
        (fun e s' => wpAny D.M (A.deeper (fc.env g)) (leaving (fc.env g) e) (fun _ s'' => E e s'') (fun e' s'' => E e' s'') s') s₁) : wpAny D.M A (call (.ref f) vs) Q E s := by
  have hvl : vs.length = ps.length := (reps_length rv).trans hlen.symm
  have hX : s.heap.get? f = some ⟨oc, od, .func (fnOf name qual params body scope dV kV doc pm an cdv ct), osl⟩ := H.base _ _ (D.inK _ _ ho)
  have hk : scope.kind = .function := e1 ▸ ok.kind
  have vn : (ps ++ rest).Nodup := e5 ▸ ok.nodup
  have pn : ps.Nodup := (List.nodup_append.mp vn).1
  have zn : ((ps.zip vs).map (·.1)).Nodup := by rw [show (fun x : Str × Value => x.1) = Prod.fst from rfl, List.map_fst_zip (by omega)]; exact pn
  have kinds : ∀ x ∈ ps ++ rest, scope.names.lookup x = some .local ∨ scope.names.lookup x = some .cell := fun x hx => by have := ok.vars x (e5 ▸ hx); rwa [e1] at this
  have inps : ∀ x v, (x, v) ∈ ps.zip vs → x ∈ ps := fun x v hm => (List.of_mem_zip hm).1
  refine wpAny_call (codeAny_call_cells (fd := fnOf name qual params body scope dV kV doc pm an cdv ct) (body := body) (binds := ps.zip vs) (by have := G.dep; omega) hX rfl (D.nolimit.keeps H.base)
    ((codeRec_of D.inK hcd).keeps H.base) rfl (hbind vs hvl) rfl (fun x hx => ?_) (fun s₁ x => ?_) hco hgen hk)
  · rcases kinds x.1 (List.mem_append_left _ (inps x.1 x.2 hx)) with q | q
    · exact .inl q
    · obtain ⟨a, ha⟩ := cellsFrom_has scope.names (s.heap.objs.size + 1) [] x.1 q
      exact .inr ⟨q, by show (List.lookup x.1 (cellsFrom _ scope.names [])).isSome = true; rw [ha]; rfl⟩
  · let cl := cellsFrom (s.heap.objs.size + 1) scope.names []
    let g : Gh := ⟨s.heap.objs.size, s.heap.objs.size, cl, fc.vars.filterMap fun y => cl.lookup y, s.heap.objs.size :: U⟩
    have henv : callEnvC (fnOf name qual params body scope dV kV doc pm an cdv ct) s.heap.objs.size f = fc.env g := by
      unfold FC.env
      rw [e1, e2, e3, e4]
      rfl
    rw [henv] at x ⊢
    have xi := x.toInCall
    obtain ⟨h1, tk, hs1⟩ := xi.same
    have hkeep : ∀ b o, s.heap.get? b = some o → s₁.heap.get? b = some o := xi.keep
    have Lz : ∀ a, s.heap.objs.size ≤ a → ¬ Z a := fun a ha z => by obtain ⟨o, e⟩ := H.zlt a z; exact absurd (Heap.lt_size e) (Nat.not_lt.mpr ha)
    have Lk : ∀ a, s.heap.objs.size ≤ a → a ∉ keys hp := fun a ha hm => by
      obtain ⟨p, hp, rfl⟩ := List.mem_map.mp hm
      obtain ⟨o, e⟩ := repO_live (H.objs p hp)
      exact absurd (Heap.lt_size e) (Nat.not_lt.mpr ha)
    have L0 : ∀ a, s.heap.objs.size ≤ a → D.h₀.get? a = none := fun a ha => by
      cases q : D.h₀.get? a with
      | none => rfl
      | some o => exact absurd (Heap.lt_size (H.base _ _ q)) (Nat.not_lt.mpr ha)
    have LU : ∀ a, s.heap.objs.size ≤ a → a ∉ U := fun a ha hu => by obtain ⟨o, e⟩ := (H.ult a hu).1; exact absurd (Heap.lt_size e) (Nat.not_lt.mpr ha)
    have cab : ∀ y a, cl.lookup y = some a → s.heap.objs.size < a := fun y a e => x.above y a (mem_of_lookup e)
    obtain ⟨oL, es, ep, hoL, hdL, hrL⟩ := xi.ns
    have HR1 : HR D Z g.U hp s₁.heap := by
      have H1 := H.ext hkeep
      refine ⟨H1.base, H1.objs, H1.nodup, fun p hp => ⟨(H1.off p hp).1, fun hm => ?_, (H1.off p hp).2.2⟩, fun a z hm => ?_, H1.zlt, fun a ha => ?_⟩
      · rcases List.mem_cons.mp hm with e | hm
        · exact Lk _ (Nat.le_refl _) (e ▸ List.mem_map_of_mem hp)
        · exact (H1.off p hp).2.1 hm
      · rcases List.mem_cons.mp hm with rfl | hm
        · exact Lz _ (Nat.le_refl _) z
        · exact H1.zu a z hm
      · rcases List.mem_cons.mp ha with rfl | ha
        · exact ⟨⟨_, hoL⟩, L0 _ (Nat.le_refl _)⟩
        · exact H1.ult a ha
    have rv1 : reps Z s₁.heap xs vs := reps_mono (fun _ z => z) (fun a o _ e => hkeep a o e) xs rv
    have R : Rel D fc g (A.deeper (fc.env g)) Z ⟨locOf ps xs rest, hp⟩ s₁ := by
      refine ⟨HR1, ⟨_, xi.ns, locs_zip rv1 fun y v hm => ?_⟩, (locOf_names hlen).trans e5.symm, Lz _ (Nat.le_refl _), Lk _ (Nat.le_refl _), L0 _ (Nat.le_refl _), fun y a hy => ?_, x.apart, fun a ha => ?_, fun y hy hc => ?_, .head _, ?_, ok⟩
      · unfold Held
        have hin := inps y v hm
        rcases kinds y (List.mem_append_left _ hin) with q | q
        · have nc : ¬ fc.isCell y = true := by unfold FC.isCell; rw [e1, q]; decide
          rw [if_neg nc]
          exact bindL_get _ _ _ zn y v hm (by show List.lookup y fc.scope.names = _; rw [e1]; exact q)
        · have nc : fc.isCell y = true := by unfold FC.isCell; rw [e1, q]; decide
          rw [if_pos nc]
          obtain ⟨a, ha⟩ := cellsFrom_has scope.names (s.heap.objs.size + 1) [] y q
          refine ⟨a, ha, ?_⟩
          have := x.cell y a ha
          rw [bindC_get _ _ _ zn y v hm (by show List.lookup y fc.scope.names ≠ _; rw [e1, q]; decide)] at this
          exact this
      · have hlt := cab y a hy
        refine ⟨⟨_, x.cell y a hy⟩, Lz _ (Nat.le_of_lt hlt), Lk _ (Nat.le_of_lt hlt), fun hm => ?_, L0 _ (Nat.le_of_lt hlt)⟩
        rcases List.mem_cons.mp hm with e | hm
        · exact absurd hlt (by rw [e]; exact Nat.lt_irrefl _)
        · exact LU _ (Nat.le_of_lt hlt) hm
      · obtain ⟨y, _, hy⟩ := List.mem_filterMap.mp ha
        exact ⟨y, hy⟩
      · obtain ⟨a, ha⟩ := cellsFrom_has scope.names (s.heap.objs.size + 1) [] y (by have := hc; unfold FC.isCell at this; rw [e1] at this; simpa using this)
        exact ⟨a, ha, fun _ => List.mem_filterMap.mpr ⟨y, hy, ha⟩⟩
      · obtain ⟨envs, f1, f2, f3⟩ := G.fr
        refine ⟨fun _ => G.hand rfl, fun e => G.cln (e8 ▸ e), G.gds, ?_, ?_, fc.env g :: envs, by show A.frames.map _ = _; rw [f1]; rfl, ⟨by rw [show (fc.env g).scope.kind = .function from ok.kind]; decide, ⟨_, oL, rfl, L0 _ (Nat.le_refl _), hoL, fun vs q => by rw [hdL] at q; cases q⟩, f2.of_keeps fun b o e _ => ⟨o, hkeep b o e, rfl⟩⟩, fun e he L hL => ?_⟩
        · have := G.dep; show A.depth + 1 + fc.lvl < _; omega
        · have := G.uni; show A.units + 3 + 16 * fc.lvl + 16 < _; omega
        · rcases List.mem_cons.mp he with rfl | he
          · cases hL; exact .head _
          · exact .tail _ (f3 e he L hL)
    refine k g s₁ ?_ rfl rfl dead_size R fun Z2 st2 s2 x2 => ?_
    · obtain ⟨envs, f1, _, _⟩ := G.fr
      exact ⟨envs, by show A.frames.map _ = _; rw [f1]; rfl⟩
    have R2 := x2.rel
    have own_new : ∀ b ∈ wset g hp, b ∈ keys hp ∨ s.heap.get? b = none := fun b hb => by
      have dead : ∀ a, s.heap.objs.size ≤ a → s.heap.get? a = none := fun a ha => by
        cases q : s.heap.get? a with
        | none => rfl
        | some o => exact absurd (Heap.lt_size q) (Nat.not_lt.mpr ha)
      rcases List.mem_cons.mp hb with rfl | hb
      · exact .inr (dead _ (Nat.le_refl _))
      rcases List.mem_append.mp hb with hb | hb
      · obtain ⟨y, _, hy⟩ := List.mem_filterMap.mp hb
        exact .inr (dead _ (Nat.le_of_lt (cab y b hy)))
      · exact .inl hb
    have dead1 : ∀ b, s₁.heap.get? b = none → s.heap.get? b = none := fun b q => by
      cases q' : s.heap.get? b with
      | none => rfl
      | some o => rw [hkeep b o q'] at q; cases q
    have C : CS D U Z hp s Z2 st2.hp s2 := by
      refine ⟨⟨R2.hr.base, R2.hr.objs, R2.hr.nodup, fun p hp => ⟨(R2.hr.off p hp).1, fun hu => (R2.hr.off p hp).2.1 (.tail _ hu), (R2.hr.off p hp).2.2⟩, fun a z hu => R2.hr.zu a z (.tail _ hu), R2.hr.zlt, fun a ha => R2.hr.ult a (.tail _ ha)⟩, ⟨fun b o hb hu e => ?_, fun b hu hb o e => ?_, x2.tr.zsub, fun a z => ?_, fun b o e => x2.tr.live b o (hkeep b o e)⟩, fun q hq => ?_, ?_⟩
      · have hlt := Heap.lt_size e
        refine x2.tr.keep b o (fun hm => ?_) (fun hm => ?_) (hkeep b o e)
        · rcases own_new b hm with q | q
          · exact hb q
          · rw [q] at e; cases e
        · rcases List.mem_cons.mp hm with q | q
          · exact Nat.lt_irrefl _ (q ▸ hlt)
          · exact hu q
      · refine x2.tr.ups b (.tail _ hu) (fun hm => ?_) o (hkeep b o e)
        rcases own_new b hm with q | q
        · exact hb q
        · rw [q] at e; cases e
      · exact (x2.tr.znew a z).imp id fun q => q.elim (own_new a) fun q => .inr (dead1 a q)
      · exact (x2.knew q hq).imp id (dead1 q)
      · obtain ⟨h2, tk2, rfl⟩ := x2.sh
        rw [hs1]
        exact ⟨h2, tk2, rfl⟩
    exact C

theorem CallT.enter {cl : Bool} {n : Nat} {f : Addr} {oc : Value} {od : Option Addr} {osl : Array (Option Value)} {name qual : Str} {params : Arguments} {body : List Stmt} {scope : Scope} {dV kV doc pm cdv ct : Value} {an : Option Addr}
    {xs : List AV} {P : AV → Hp → Prop} (fc : FC) (ps rest : List Str)
    (ho : K.lookup f = some ⟨oc, od, .func (fnOf name qual params body scope dV kV doc pm an cdv ct), osl⟩) (hcd : codeIn K cdv qual = true)
    (e1 : fc.scope = scope) (e2 : fc.qual = qual ++ ".<locals>.") (e3 : fc.func = some f) (e4 : fc.code = cdv) (e5 : fc.vars = ps ++ rest) (e6 : fc.frees = []) (e7 : fc.lvl < n) (e8 : fc.cl = cl) (ok : fc.Ok)
    (hlen : ps.length = xs.length)
    (hbind : ∀ vs : List Value, vs.length = ps.length → bindArgs (fnOf name qual params body scope dV kV doc pm an cdv ct) ⟨vs, []⟩ = pure (ps.zip vs))
    (hco : scope.isCoroutine = false) (hgen : scope.isGenerator = false)
    (h : SV D fc ⟨locOf ps xs rest, hp⟩ body (fun fl st' => match fl with | .ret x => P x st'.hp | _ => P .none st'.hp)) : CallT cl D n (.ref f) xs hp P := by
  intro A U Z s vs G H rv Q E k
  refine enter_go fc ps rest ho hcd e1 e2 e3 e4 e5 e6 e7 e8 ok hlen hbind hco hgen G H rv fun g s₁ Hd eU eF dL R toC => ?_
  refine h g _ Z s₁ R _ _ ?_
  rintro fl Z2 st2 s2 x2 ⟨w, rw', hP⟩
  have C := toC Z2 st2 s2 x2
  cases w with
  | next => cases rw'; exact k _ _ _ _ _ hP C rep_none
  | brk => cases rw'; exact k _ _ _ _ _ hP C rep_none
  | cont => cases rw'; exact k _ _ _ _ _ hP C rep_none
  | ret y => obtain ⟨v, rfl, r⟩ := rw'; exact k _ _ _ _ _ hP C r

noncomputable def okB (scope : Scope) (vars : List Str) : Bool :=
  scope.kind == .function && vars.all (fun x => scope.names.lookup x == some .local || scope.names.lookup x == some .cell) && decide vars.Nodup && vars.all fun x => !(x == ("__debug__" : Str))
theorem okB_ok {c : FC} (h : okB c.scope c.vars = true) : c.Ok := by
  unfold okB at h
  simp only [Bool.and_eq_true, List.all_eq_true, Bool.or_eq_true, beq_iff_eq, decide_eq_true_eq, Bool.not_eq_true'] at h
  exact ⟨h.1.1.1, h.1.1.2, h.1.2, h.2⟩
theorem CallT.up {cl : Bool} {n : Nat} {f : Value} {xs : List AV} {P : AV → Hp → Prop} (h : CallT false D n f xs hp P) : CallT cl D n f xs hp P :=
  fun A U Z s vs G H r => h A U Z s vs ⟨G.hand, (fun e => nomatch e), G.gds, G.dep, G.uni, G.fr⟩ H r
/-- the frame that a def's text makes -/
noncomputable abbrev mkFC (scope : Scope) (qual : Str) (f : Addr) (cd : Value) (vars : List Str) (lvl : Nat) (cl : Bool) : FC := ⟨scope, qual ++ ".<locals>.", some f, cd, vars, [], lvl, true, cl⟩
theorem CallT.enter' {cl : Bool} {n : Nat} {f : Addr} {oc : Value} {od : Option Addr} {osl : Array (Option Value)} {name qual : Str} {params : Arguments} {body : List Stmt} {scope : Scope} {dV kV doc pm cdv ct : Value} {an : Option Addr}
    {xs : List AV} {P : AV → Hp → Prop} (lvl : Nat) (ps rest : List Str)
    (ho : K.lookup f = some ⟨oc, od, .func (fnOf name qual params body scope dV kV doc pm an cdv ct), osl⟩) (hcd : codeIn K cdv qual = true)
    (e7 : lvl < n) (ok : okB scope (ps ++ rest) = true)
    (hlen : ps.length = xs.length)
    (hbind : ∀ vs : List Value, vs.length = ps.length → bindArgs (fnOf name qual params body scope dV kV doc pm an cdv ct) ⟨vs, []⟩ = pure (ps.zip vs))
    (hco : scope.isCoroutine = false) (hgen : scope.isGenerator = false)
    (h : SV D (mkFC scope qual f cdv (ps ++ rest) lvl cl) ⟨locOf ps xs rest, hp⟩ body (fun fl st' => match fl with | .ret x => P x st'.hp | _ => P .none st'.hp)) : CallT cl D n (.ref f) xs hp P :=
  CallT.enter (mkFC scope qual f cdv (ps ++ rest) lvl cl) ps rest ho hcd rfl rfl rfl rfl rfl rfl e7 rfl (okB_ok ok) hlen hbind hco hgen h
theorem bind1 {fd : FuncData} {p : Str} (h : ∀ a, bindArgs fd ⟨[a], []⟩ = pure [(p, a)]) : ∀ vs : List Value, vs.length = [p].length → bindArgs fd ⟨vs, []⟩ = pure ([p].zip vs) := fun vs e => by
  obtain ⟨a, rfl⟩ := List.length_eq_one_iff.mp e
  exact h a
theorem bind2 {fd : FuncData} {p q : Str} (h : ∀ a b, bindArgs fd ⟨[a, b], []⟩ = pure [(p, a), (q, b)]) : ∀ vs : List Value, vs.length = [p, q].length → bindArgs fd ⟨vs, []⟩ = pure ([p, q].zip vs) := fun vs e => by
  cases vs with
  | nil => cases e
  | cons a r =>
    obtain ⟨b, rfl⟩ := List.length_eq_one_iff.mp (Nat.succ.inj e)
    exact h a b
theorem bind3 {fd : FuncData} {p q r : Str} (h : ∀ a b c, bindArgs fd ⟨[a, b, c], []⟩ = pure [(p, a), (q, b), (r, c)]) : ∀ vs : List Value, vs.length = [p, q, r].length → bindArgs fd ⟨vs, []⟩ = pure ([p, q, r].zip vs) := fun vs e => by
  cases vs with
  | nil => cases e
  | cons a r =>
    cases r with
    | nil => cases e
    | cons b r =>
      obtain ⟨c, rfl⟩ := List.length_eq_one_iff.mp (Nat.succ.inj (Nat.succ.inj e))
      exact h a b c
end Mine

namespace Mine
open PySem PySem.W PySem.Calls PyProof.Rows PySem.Spec

variable {K : Frag} {D : Wd K} {c : FC} {g : Gh} {A : Around} {Z Z' Z'' : Addr → Prop} {st st' st'' : St} {s s' s'' : Shared} {U : List Addr} {hp hp' : Hp}

noncomputable def KeepOk (K : Frag) (f : Value) : Prop := ∀ (M : Model) (h : Heap), K.In h → ∃ k, (k = Keeper.frame ∨ k = Keeper.machine ∨ k = Keeper.boundFrame) ∧ Looks M h (keeperOf f) k
theorem keepOk_ref {f : Value} (h : keepIn K f = true) : KeepOk K f := fun _ h' X => keeps_K h h' X
theorem keepOk_type {T : String} : KeepOk K (.type T) := fun _ _ _ => ⟨.machine, .inr (.inl rfl), Looks.of_pure rfl⟩
theorem keepOk_builtin {T : String} : KeepOk K (.builtin T) := fun _ _ _ => ⟨.machine, .inr (.inl rfl), Looks.of_pure rfl⟩

noncomputable def CallE (D : Wd K) (c : FC) (f : Value) (xs : List AV) (st : St) (P : AV → St → Prop) : Prop :=
  ∃ Q, CallT c.cl D c.lvl f xs st.hp Q ∧ c.hn = true ∧ ∀ x hp', Q x hp' → P x ⟨st.loc, hp'⟩

noncomputable def noStar (es : List Expr) : Bool := es.all fun e => !starred e
theorem star_any {pos : Pos} {env : Env} : ∀ {es : List Expr}, noStar es = true → ((backTo pos (starEach es env)).any (·.1)) = false
  | [], _ => rfl
  | e :: r, h => by
    unfold noStar at h
    rw [List.all_cons, Bool.and_eq_true] at h
    have he : starred e = false := by simpa using h.1
    rw [starEach_plain he]
    show (false || (backTo pos (starEach r env)).any (·.1)) = false
    rw [star_any (es := r) h.2]
    rfl
theorem TT_args {f : Value} {pos : Pos} {es : List Expr} {P : List AV → St → Prop} (R : Rel D c g A Z st s) (hs : noStar es = true) (h : EVs D c st es P) :
    TT D c g A Z st s (evalArgs f true (backTo pos (starEach es (c.env g))) []) (fun a Z' st' s' => a.kw = [] ∧ ∃ xs, reps Z' s'.heap xs a.pos ∧ P xs st') := by
  intro Q E k
  cases es with
  | nil =>
    unfold evalArgs
    show wpAny D.M A (spliced (backTo pos (starEach [] (c.env g))) >>= _) Q E s
    refine wpAny_bind (h g A Z s pos R _ E ?_)
    rintro vs Z1 st1 s1 x1 ⟨xs, rx, hP⟩
    refine wpAny_bind (wpAny_pure ?_)
    refine wpAny_holding ?_
    exact wpAny_bind (wpAny_pure (wpAny_bind (wpAny_pure (wpAny_pure (k _ _ _ _ x1 ⟨rfl, xs, rx, hP⟩)))))
  | cons e r =>
    have he : starred e = false := by
      unfold noStar at hs
      rw [List.all_cons, Bool.and_eq_true] at hs
      simpa using hs.1
    have e1 : backTo pos (starEach (e :: r) (c.env g)) = (false, eval e (c.env g)) :: backTo pos (starEach r (c.env g)) := by rw [starEach_plain he]; rfl
    have h1 := h g A Z s pos R
    rw [e1] at h1 ⊢
    refine evalArgs_plain (h1 _ E ?_)
    rintro vs Z1 st1 s1 x1 ⟨xs, rx, hP⟩
    exact k _ _ _ _ x1 ⟨rfl, xs, rx, hP⟩

theorem TT_call {f : Value} {first : List Value} {fx : List AV} {pos : Pos} {es : List Expr} {P : AV → St → Prop} (R : Rel D c g A Z st s) (hk : KeepOk K f) (hs : noStar es = true) (hf : reps Z s.heap fx first)
    (h : EVs D c st es (fun xs st1 => CallE D c f (fx ++ xs) st1 P)) :
    TT D c g A Z st s (callWith pos f first (backTo pos (starEach es (c.env g))) []) (fun v Z' st' s' => ∃ x, rep Z' s'.heap x v ∧ P x st') := by
  intro Q E k
  refine callWith_of (P := K.In) (by show (((backTo pos (starEach es (c.env g))).any (·.1)) || false) = false; rw [star_any hs]; rfl) (fun h X => hk _ h X) ?_
  refine TT_args R hs h _ E ?_
  rintro ⟨vs, kw⟩ Z1 st1 s1 x1 ⟨hkw, xs, rx, QQ, hc, hn, hP⟩
  subst hkw
  have R1 := x1.rel
  refine ⟨fun a o e => R1.hr.base a o (D.inK a o e), ?_⟩
  have hg : Good D true c.cl c.lvl A g.U s1.heap := hn ▸ R1.good
  refine Eff.tt R1 (hc A g.U Z1 s1 (first ++ vs) hg R1.hr (reps_append (x1.reps R hf) rx)) Q E ?_
  rintro v Z2 st2 s2 x2 ⟨x, rx', hp', rfl, hq⟩
  exact k _ _ _ _ (x1.trans x2) ⟨x, rx', hP _ _ hq⟩

noncomputable def plainCallee : Expr → Bool
  | .Attribute .. => false
  | _ => true
theorem eval_Call (f : Expr) (args pos) (env : Env) (h : plainCallee f = true) : eval (.Call f args [] pos) env = (do
    callWith pos (← eval f env) [] (backTo pos (starEach args env)) []) := by
  cases f <;> first | rfl | cases h
theorem EV_Call {f : Expr} {args : List Expr} {pos : Pos} {P : AV → St → Prop}
    (h : EV D c st f (fun fv st1 => ∃ u, fv = .val u ∧ KeepOk K u ∧ EVs D c st1 args (fun xs st2 => CallE D c u xs st2 P)))
    (hp : plainCallee f = true := by rfl) (hs : noStar args = true := by rfl) : EV D c st (.Call f args [] pos) P := by
  intro g A Z s R
  rw [eval_Call f args pos _ hp]
  refine TT.bind (h g A Z s R) ?_
  rintro v Z1 st1 s1 x1 ⟨x, rx, u, rfl, hk, h1⟩
  cases rx
  exact TT_call x1.rel hk hs reps_nil h1

/-- what a method's name gives -/
noncomputable def GetM (D : Wd K) (hp : Hp) (x : AV) (name : Str) (f : Value) : Prop :=
  ∀ A U Z s a pl Q E, HR D Z U hp s.heap → rep Z s.heap x a → Q (f, [a]) s → wpAny D.M A (getMethod a name pl) Q E s

theorem EV_Method {o : Expr} {name : Str} {apos pos : Pos} {args : List Expr} {P : AV → St → Prop} {pl : Env → Sem Bool}
    (h : EV D c st o (fun x st1 => ∃ f, GetM D st1.hp x name f ∧ KeepOk K f ∧ EVs D c st1 args (fun xs st2 => CallE D c f (x :: xs) st2 P)))
    (he : ∀ env, eval (.Call (.Attribute o name apos) args [] pos) env = (do
      let ov ← eval o env
      standAt apos.atName
      let (f, first) ← holding [ov] (getMethod ov name (pl env))
      callWith pos f first (backTo pos (starEach args env)) []) := by intro _; rfl)
    (hs : noStar args = true := by rfl) : EV D c st (.Call (.Attribute o name apos) args [] pos) P := by
  intro g A Z s R
  rw [he]
  refine TT.bind (h g A Z s R) ?_
  rintro v Z1 st1 s1 x1 ⟨x, rx, f, hg, hk, h1⟩
  refine TT.standAt (TT.bind (TT.holding (P := fun r Z' st' s' => r = (f, [v]) ∧ Z' = Z1 ∧ st' = st1 ∧ s' = s1) fun Q E k => hg A g.U Z1 s1 v _ Q E x1.rel.hr rx (k _ _ _ _ (.refl x1.rel) ⟨rfl, rfl, rfl, rfl⟩)) ?_)
  rintro r Z2 st2 s2 x2 ⟨rfl, rfl, rfl, rfl⟩
  exact TT_call x2.rel hk hs (fx := [x]) (reps_cons rx reps_nil) h1

/-! attributes -/
theorem TT_letGo {b : Expr} {o r : Value} (R : Rel D c g A Z st s) {P : Unit → (Addr → Prop) → St → Shared → Prop} (h : P () Z st s) : TT D c g A Z st s (letTemporaryGo b o r) P :=
  fun Q E k => wpAny_letTemporaryGo (k _ _ _ _ (.refl R) h)

noncomputable def Atr (D : Wd K) (hp : Hp) (x : AV) (name : Str) (z : AV) : Prop :=
  ∀ A U Z s a, HR D Z U hp s.heap → rep Z s.heap x a → Eff D A U Z hp s (getAttr a name true) (fun z' hp' => z' = z ∧ hp' = hp)

theorem EV_Attr {o : Expr} {name : Str} {pos : Pos} {P : AV → St → Prop} (h : EV D c st o (fun x st1 => ∃ z, Atr D st1.hp x name z ∧ P z st1))
    (hb : ∀ env, attributeBase o name env (eval o env) = eval o env := by intro _; rfl) : EV D c st (.Attribute o name pos) P := by
  intro g A Z s R
  show TT D c g A Z st s (do
    let ov ← attributeBase o name (c.env g) (eval o (c.env g))
    standAt pos.atName
    let r ← holding [ov] (getAttr ov name true)
    letTemporaryGo o ov r
    pure r) _
  rw [hb]
  refine TT.bind (h g A Z s R) ?_
  rintro v Z1 st1 s1 x1 ⟨x, rx, z, hz, hP⟩
  refine TT.standAt (TT.bind (TT.holding (Eff.tt x1.rel (hz A g.U Z1 s1 v x1.rel.hr rx))) ?_)
  rintro r Z2 st2 s2 x2 ⟨y, ry, hp', rfl, rfl, rfl⟩
  refine TT.bind (TT_letGo (P := fun _ Z' st' s' => Z' = Z2 ∧ st' = ⟨st1.loc, st1.hp⟩ ∧ s' = s2) x2.rel ⟨rfl, rfl, rfl⟩) ?_
  rintro _ Z3 st3 s3 x3 ⟨rfl, rfl, rfl⟩
  exact TT.pure x3.rel ⟨_, ry, hP⟩

inductive Has : Hp → Addr → AO → Prop
  | head {r a o} : Has ((a, o) :: r) a o
  | tail {p r a o} : Has r a o → Has (p :: r) a o
theorem Has.mem {hp : Hp} {a : Addr} {o : AO} (h : Has hp a o) : (a, o) ∈ hp := by
  induction h with
  | head => exact .head _
  | tail _ ih => exact .tail _ ih
inductive Swap : Hp → Addr → AO → Hp → Prop
  | head {r a o o'} : Swap ((a, o) :: r) a o' ((a, o') :: r)
  | tail {p r a o' r'} : Swap r a o' r' → Swap (p :: r) a o' (p :: r')
inductive Fld : List (Str × AV) → Str → AV → Prop
  | head {r x v} : Fld ((x, v) :: r) x v
  | tail {p r x v} : (p.1 == x) = false → Fld r x v → Fld (p :: r) x v

theorem repF_find {h : Heap} {name : Str} {v : AV} : ∀ {fs : List (Str × AV)} {es : List DictEntry}, repF Z h fs es → Fld fs name v → ∃ u, getL name es = some (some u) ∧ rep Z h v u
  | _ :: _, _, ⟨e, r, t, rfl, hk, rv, rr⟩, .head => by
    refine ⟨e.val, ?_, rv⟩
    unfold getL
    rw [List.find?_cons, hk]
    simp [Value.isStr]
  | p :: _, _, ⟨e, r, t, rfl, hk, rv, rr⟩, .tail hne hf => by
    obtain ⟨u, e1, e2⟩ := repF_find rr hf
    refine ⟨u, ?_, e2⟩
    have ne : e.key.isStr name = false := by rw [hk]; exact hne
    unfold getL at e1 ⊢
    rw [List.find?_cons, ne]
    rw [List.any_cons, show e.refKey = false by simp [DictEntry.refKey, hk]]
    simpa using e1
theorem repF_none {h : Heap} {name : Str} : ∀ {fs : List (Str × AV)} {es : List DictEntry}, repF Z h fs es → (fs.all fun p => !(p.1 == name)) = true → getL name es = some none
  | [], _, e, _ => by cases e; rfl
  | p :: _, _, ⟨e, r, t, rfl, hk, rv, rr⟩, hn => by
    rw [List.all_cons, Bool.and_eq_true] at hn
    have e1 := repF_none rr hn.2
    have ne : e.key.isStr name = false := by rw [hk]; simpa [Value.isStr] using hn.1
    unfold getL at e1 ⊢
    rw [List.find?_cons, ne]
    rw [List.any_cons, show e.refKey = false by simp [DictEntry.refKey, hk]]
    simpa using e1

theorem inst_at {h : Heap} {C d a : Addr} {sl : Array (Option Value)} {es : List DictEntry} {n : Nat} (ho : h.get? a = some ⟨.ref C, some d, .plain, sl⟩) (hd : h.get? d = some (dictOf es n)) : InstAt h a ⟨.ref C, some d, .plain, sl⟩ C (some (dictOf es n)) := ⟨ho, rfl, rfl, hd⟩

theorem handed_rep {h : Heap} {v : AV} {u : Value} (r : rep Z h v u) (hv : ∀ x, v = .val x → handedIn x = true) : handedIn u = true := by
  cases v with
  | none => cases r; rfl
  | bool b => cases r; rfl
  | int i => obtain ⟨t, rfl⟩ := r; rfl
  | str i => obtain ⟨t, rfl⟩ := r; rfl
  | bytes i => obtain ⟨t, rfl⟩ := r; rfl
  | list xs => obtain ⟨a, its, rfl, _⟩ := r; rfl
  | tup xs => obtain ⟨a, its, rfl, _⟩ := r; rfl
  | rng _ _ _ => obtain ⟨a, _, _, _, rfl, _⟩ := r; rfl
  | obj C d => obtain ⟨a, _, rfl, _⟩ := r; rfl
  | val x => cases r; exact hv _ rfl

theorem atr_own {C d : Addr} {fs : List (Str × AV)} {name : Str} {v : AV} {attr : Option Value} (hd : Has hp d (.dict fs)) (hf : Fld fs name v) (hg : plainGet K C name = true) (hh : hasDictIn K C = true)
    (ha : findIn K (.ref C) name = some attr) (hn : noGet K attr = true) (hv : ∀ x, v = .val x → handedIn x = true) : Atr D hp (.obj C d) name v := by
  rintro A U Z s u H ⟨a, sl, rfl, z, ho⟩ Q E k
  obtain ⟨es, n, hdo, rf⟩ := H.objs _ hd.mem
  obtain ⟨w, hw, rw'⟩ := repF_find rf hf
  have X : K.In s.heap := fun a o e => H.base a o (D.inK a o e)
  exact of <| get_value X (inst_at ho hdo) (plainGet_of hg).1 (findObj_own hh ha hn (by rw [lookIn_dict]; exact hw)) (handed_rep rw' hv) (k _ _ _ _ _ ⟨rfl, rfl⟩ (CS.tok H) rw')

theorem getM_own {C d f : Addr} {fs : List (Str × AV)} {name : Str} (hd : Has hp d (.dict fs)) (hf : (fs.all fun p => !(p.1 == name)) = true) (hg : plainGet K C name = true)
    (ha : findIn K (.ref C) name = some (some (.ref f))) (ht : isFn K (.ref f) = true) : GetM D hp (.obj C d) name (.ref f) := by
  rintro A U Z s u pl Q E H ⟨a, sl, rfl, z, ho⟩ hq
  obtain ⟨es, n, hdo, rf⟩ := H.objs _ hd.mem
  have X : K.In s.heap := fun a o e => H.base a o (D.inK a o e)
  exact of <| method_fn X (inst_at ho hdo) (plainGet_of hg).1 (plainGet_of hg).2 ha (beq_iff_eq.mp ht) (by show (lookIn name (dictOf es n)).map _ = _; rw [lookIn_dict, repF_none rf hf]; rfl) hq
end Mine

namespace Mine
open PySem PySem.W PySem.Calls PyProof.Rows PySem.Spec

variable {K : Frag} {D : Wd K} {c : FC} {g : Gh} {A : Around} {Z Z' Z'' : Addr → Prop} {st st' st'' : St} {s s' s'' : Shared} {U : List Addr} {hp hp' : Hp}

/-! displays -/
theorem rep_newlist {h : Heap} {xs : List AV} {vs : List Value} (r : reps Z h xs vs) : rep (ZZ Z h.objs.size) (h.push { cls := .type "list", data := .seq vs.toArray }) (.list xs) (.ref h.objs.size) :=
  ⟨h.objs.size, vs.toArray, rfl, .inr rfl, ⟨_, Heap.get?_push_size _ rfl, rfl, _, rfl⟩, reps_mono (fun _ z => .inl z) (fun a o _ e => push_keeps _ a o e) xs (by simpa using r)⟩
theorem rep_newtup {h : Heap} {xs : List AV} {vs : List Value} (r : reps Z h xs vs) : rep (ZZ Z h.objs.size) (h.push { cls := .type "tuple", data := .seq vs.toArray }) (.tup xs) (.ref h.objs.size) :=
  ⟨h.objs.size, vs.toArray, rfl, .inr rfl, ⟨_, Heap.get?_push_size _ rfl, rfl, _, rfl⟩, reps_mono (fun _ z => .inl z) (fun a o _ e => push_keeps _ a o e) xs (by simpa using r)⟩
theorem Stp.cs (R : Rel D c g A Z st s) (C : CS D g.U Z st.hp s Z' hp' s') : Stp D c g A Z st s Z' ⟨st.loc, hp'⟩ s' := Stp.of_heap R C.tr C.hr C.knew C.sh

theorem EV_List {es : List Expr} {pos : Pos} {P : AV → St → Prop} (h : EVs D c st es (fun xs st1 => xs.length ≤ 16777216 ∧ P (.list xs) st1)) : EV D c st (.List es pos) P := by
  intro g A Z s R Q E k
  refine List_ (h g A Z s pos R _ E ?_)
  rintro vs Z1 st1 s1 x1 ⟨xs, rx, hl, hP⟩
  refine of <| PySem.wpAny_newObj_type (k _ _ ⟨st1.loc, st1.hp⟩ _ (x1.trans (Stp.cs x1.rel (CS.push x1.rel.hr (tk := s1.toks)))) ⟨_, rep_newlist rx, hP⟩) ?_
  show vs.toArray.size ≤ sizeLine
  rw [List.size_toArray, reps_length rx, sizeLine_eq]
  exact hl
/-- a list that will be changed -/
theorem EV_ListT {es : List Expr} {pos : Pos} {P : AV → St → Prop} (h : EVs D c st es (fun xs st1 => xs.length ≤ 16777216 ∧ ∀ a, P (.val (.ref a)) ⟨st1.loc, st1.hp ++ [(a, .list xs)]⟩)) : EV D c st (.List es pos) P := by
  intro g A Z s R Q E k
  refine List_ (h g A Z s pos R _ E ?_)
  rintro vs Z1 st1 s1 x1 ⟨xs, rx, hl, hP⟩
  refine of <| PySem.wpAny_newObj_type (k _ _ _ _ (x1.trans (Stp.cs x1.rel (CS.track x1.rel.hr (tk := s1.toks) (x := .list xs) ⟨vs.toArray, ⟨_, Heap.get?_push_size _ rfl, rfl, _, rfl⟩, ?_⟩))) ⟨_, rep_val, hP _⟩) ?_
  · exact reps_mono (fun _ z => z) (fun a o _ e => push_keeps _ a o e) xs (by simpa using rx)
  · show vs.toArray.size ≤ sizeLine
    rw [List.size_toArray, reps_length rx, sizeLine_eq]
    exact hl
theorem EV_Tuple {es : List Expr} {n : Nat} {pos : Pos} {P : AV → St → Prop} (h : EVs D c st es (fun xs st1 => xs.length ≤ 16777216 ∧ P (.tup xs) st1)) : EV D c st (.Tuple es n pos) P := by
  intro g A Z s R Q E k
  refine Tuple_ (h g A Z s pos R _ E ?_)
  rintro vs Z1 st1 s1 x1 ⟨xs, rx, hl, hP⟩
  refine of <| PySem.wpAny_newObj_type (k _ _ ⟨st1.loc, st1.hp⟩ _ (x1.trans (Stp.cs x1.rel (CS.push x1.rel.hr (tk := s1.toks)))) ⟨_, rep_newtup rx, hP⟩) ?_
  show vs.toArray.size ≤ sizeLine
  rw [List.size_toArray, reps_length rx, sizeLine_eq]
  exact hl

/-! items -/
noncomputable def Sub (D : Wd K) (hp : Hp) (x i z : AV) : Prop :=
  ∀ A U Z s a b, HR D Z U hp s.heap → rep Z s.heap x a → rep Z s.heap i b →
    ∃ T id, typeLookup (.type T) "__getitem__" = pure (some (.builtin id)) ∧ s.TypeIs a T ∧ Eff D A U Z hp s (getItem a b) (fun z' hp' => z' = z ∧ hp' = hp)
noncomputable def plainIndex : Expr → Bool
  | .Slice .. => false
  | _ => true
theorem subscripted_plain {e : Expr} {o i : Value} (h : plainIndex e = true) : subscripted e false o i = operate [o, i] (getItem o i) := by
  cases e <;> first | rfl | cases h
theorem EV_Index {o i : Expr} {pos : Pos} {P : AV → St → Prop} (h : EV D c st o (fun x st1 => EV D c st1 i (fun y st2 => ∃ z, Sub D st2.hp x y z ∧ P z st2)))
    (hi : plainIndex i = true := by rfl) : EV D c st (.Subscript o i pos) P := by
  intro g A Z s R Q E k
  refine Subscript_ (h g A Z s R _ E ?_)
  rintro a Z1 st1 s1 x1 ⟨x, rx, h1⟩
  refine h1 g A Z1 s1 x1.rel _ E ?_
  rintro b Z2 st2 s2 x2 ⟨y, ry, z, hz, hP⟩
  obtain ⟨T, id, hl, hT, he⟩ := hz A g.U Z2 s2 a b x2.rel.hr (x2.rep x1.rel rx) ry
  refine tail_any hT hl (Eff.tt x2.rel he Q E ?_) (subscripted_plain hi)
  rintro v Z3 st3 s3 x3 ⟨w, rw', hp', rfl, rfl, rfl⟩
  exact k _ _ _ _ ((x1.trans x2).trans x3) ⟨_, rw', hP⟩

theorem seqIndex_pos {i : Int} {n : Nat} (h0 : 0 ≤ i) (h1 : i < n) : seqIndex? i n = some i.toNat := by
  unfold seqIndex?
  have e : ¬ i < 0 := by omega
  simp [e, h0, h1]
theorem sub_list {xs : List AV} {i : Int} {z : AV} (h0 : 0 ≤ i) (hb : i < 2 ^ 62) (hz : xs[i.toNat]? = some z) : Sub D hp (.list xs) (.int i) z := by
  rintro A U Z s _ _ H ⟨a, its, rfl, za, hl, rr⟩ ⟨t, rfl⟩
  obtain ⟨v, e1, e2⟩ := reps_get rr hz
  refine ⟨"list", _, slot_list_getitem.lookup, hl.typeIs, fun Q E k => of <| wpAny_getItem_list hl h0 (by omega) (by simpa using e1) (k _ _ _ _ _ ⟨rfl, rfl⟩ (CS.refl H) e2)⟩
theorem sub_tlist {a : Addr} {xs : List AV} {i : Int} {z : AV} (hh : Has hp a (.list xs)) (h0 : 0 ≤ i) (hb : i < 2 ^ 62) (hz : xs[i.toNat]? = some z) : Sub D hp (.val (.ref a)) (.int i) z := by
  rintro A U Z s _ _ H rfl ⟨t, rfl⟩
  obtain ⟨its, hl, rr⟩ := H.objs _ hh.mem
  obtain ⟨v, e1, e2⟩ := reps_get rr hz
  refine ⟨"list", _, slot_list_getitem.lookup, hl.typeIs, fun Q E k => of <| wpAny_getItem_list hl h0 (by omega) (by simpa using e1) (k _ _ _ _ _ ⟨rfl, rfl⟩ (CS.refl H) e2)⟩
theorem sub_tup {xs : List AV} {i : Int} {z : AV} (h0 : 0 ≤ i) (hb : i < 2 ^ 62) (hz : xs[i.toNat]? = some z) : Sub D hp (.tup xs) (.int i) z := by
  rintro A U Z s _ _ H ⟨a, its, rfl, za, hl, rr⟩ ⟨t, rfl⟩
  obtain ⟨v, e1, e2⟩ := reps_get rr hz
  have hlt : i.toNat < its.toList.length := by have := (List.getElem?_eq_some_iff.mp e1).1; exact this
  have hsz : i < its.size := by rw [Array.length_toList] at hlt; omega
  refine ⟨"tuple", _, slot_tuple_getitem.lookup, hl.typeIs, fun Q E k => of <| PyProof.Rows.getItem_tuple hl (j := i.toNat) (x := v) (by omega) (by omega) (seqIndex_pos h0 hsz) (by simpa using e1) (k _ _ _ _ _ ⟨rfl, rfl⟩ (CS.refl H) e2)⟩
theorem sub_bytes {b : List UInt8} {i : Int} (h0 : 0 ≤ i) (hb : i < 2 ^ 62) (hi : i < b.length) : Sub D hp (.bytes b) (.int i) (.int (b.getD i.toNat 0).toNat) := by
  rintro A U Z s _ _ H ⟨t, rfl⟩ ⟨u, rfl⟩
  refine ⟨"bytes", _, FB.slot_bytes_getitem.lookup, typeIs_bytes _ _ _, fun Q E k => of <| getItem_gives (typeIs_bytes s _ t) (by decide) FB.slot_bytes_getitem FB.entry_bytes_getitem (FB.args_bytes_getitem_2 _ _) (gives_bytes_getitem _ i t u (b.getD i.toNat 0) ?_ ?_) ?_⟩
  · simp only [Builtin.Bytes.fitsIndex, Bool.and_eq_true, decide_eq_true_eq]; omega
  · have hl : i.toNat < b.length := by omega
    have e : seqIndex? i b.toArray.size = some i.toNat := seqIndex_pos h0 (by simpa using hi)
    rw [e]; simp [hl]
  · exact k _ _ _ _ _ ⟨rfl, rfl⟩ (CS.tok H) rep_int
end Mine

namespace Mine
open PySem PySem.W PySem.Calls PyProof.Rows PySem.Spec

variable {K : Frag} {D : Wd K} {c : FC} {g : Gh} {A : Around} {Z Z' Z'' : Addr → Prop} {st st' st'' : St} {s s' s'' : Shared} {U : List Addr} {hp hp' : Hp}

theorem reps_one {h : Heap} {x : AV} {vs : List Value} (r : reps Z h [x] vs) : ∃ v, vs = [v] ∧ rep Z h x v := by
  obtain ⟨v, r, rfl, p, q⟩ := r
  cases q; exact ⟨v, rfl, p⟩
theorem reps_two {h : Heap} {x y : AV} {vs : List Value} (r : reps Z h [x, y] vs) : ∃ v w, vs = [v, w] ∧ rep Z h x v ∧ rep Z h y w := by
  obtain ⟨v, r, rfl, p, q⟩ := r
  obtain ⟨w, rfl, q'⟩ := reps_one q
  exact ⟨v, w, rfl, p, q'⟩
theorem reps_three {h : Heap} {x y z : AV} {vs : List Value} (r : reps Z h [x, y, z] vs) : ∃ v w u, vs = [v, w, u] ∧ rep Z h x v ∧ rep Z h y w ∧ rep Z h z u := by
  obtain ⟨v, r, rfl, p, q⟩ := r
  obtain ⟨w, u, rfl, q'⟩ := reps_two q
  exact ⟨v, w, u, rfl, p, q'⟩

/-- a call that yields one value and leaves what is tracked -/
noncomputable abbrev CallV (cl : Bool) (D : Wd K) (n : Nat) (f : Value) (xs : List AV) (hp : Hp) (z : AV) : Prop := CallT cl D n f xs hp (fun x hp' => x = z ∧ hp' = hp)
theorem CallE_of {n : Nat} {f : Value} {xs : List AV} {z : AV} {P : AV → St → Prop} (h : CallV c.cl D n f xs st.hp z) (hP : P z st) (hl : n ≤ c.lvl := by decide) (hn : c.hn = true := by rfl) : CallE D c f xs st P :=
  ⟨_, h.mono hl (fun _ _ q => q), hn, fun x hp' ⟨e1, e2⟩ => by subst e1 e2; exact hP⟩

theorem len_list {cl : Bool} {n : Nat} {xs : List AV} (hl : xs.length < 2 ^ 62) : CallV cl D n (.builtin "len") [.list xs] hp (.int xs.length) := by
  intro A U Z s vs G H r Q E k
  obtain ⟨_, rfl, a, its, rfl, za, hi, rr⟩ := reps_one r
  have e : its.size = xs.length := by have := reps_length rr; simpa using this
  exact of <| call_len_list hi (by omega) (by rw [e]; exact k _ _ _ _ _ ⟨rfl, rfl⟩ (CS.tok H) rep_int)
theorem len_tlist {cl : Bool} {n : Nat} {a : Addr} {xs : List AV} (hh : Has hp a (.list xs)) (hl : xs.length < 2 ^ 62) : CallV cl D n (.builtin "len") [.val (.ref a)] hp (.int xs.length) := by
  intro A U Z s vs G H r Q E k
  obtain ⟨_, rfl, rfl⟩ := reps_one r
  obtain ⟨its, ho, rr⟩ := H.objs _ hh.mem
  have e : its.size = xs.length := by have := reps_length rr; simpa using this
  exact of <| call_len_list ho (by omega) (by rw [e]; exact k _ _ _ _ _ ⟨rfl, rfl⟩ (CS.tok H) rep_int)
theorem len_bytes' {cl : Bool} {n : Nat} {b : List UInt8} (hl : b.length ≤ 1099511627776) : CallV cl D n (.builtin "len") [.bytes b] hp (.int b.length) := by
  intro A U Z s vs G H r Q E k
  obtain ⟨_, rfl, t, rfl⟩ := reps_one r
  exact of <| PySem.W.len_bytes (by simpa using hl) (by simpa using k _ _ _ _ _ ⟨rfl, rfl⟩ (CS.tok H) rep_int)

theorem range_1 {cl : Bool} {n : Nat} {i : Int} : CallV cl D n (.type "range") [.int i] hp (.rng 0 i 1) := by
  intro A U Z s vs G H r Q E k
  obtain ⟨_, rfl, t, rfl⟩ := reps_one r
  exact of <| call_range_1 (k _ _ _ _ _ ⟨rfl, rfl⟩ (CS.push H) ⟨_, _, _, _, rfl, .inr rfl, Heap.get?_push_size _ rfl⟩)
theorem range_3 {cl : Bool} {n : Nat} {i j m : Int} (hm : m ≠ 0) (hs : m.natAbs < 2 ^ 30) : CallV cl D n (.type "range") [.int i, .int j, .int m] hp (.rng i j m) := by
  intro A U Z s vs G H r Q E k
  obtain ⟨_, _, _, rfl, ⟨t, rfl⟩, ⟨u, rfl⟩, ⟨v, rfl⟩⟩ := reps_three r
  exact of <| call_range_3 hm (k _ _ _ _ _ ⟨rfl, rfl⟩ (CS.push H) ⟨_, _, _, _, rfl, .inr rfl, Heap.get?_push_size _ rfl⟩) (.inl (PyProof.noPylong_small (by omega)))
theorem iter_range {i : Int} (h : i < 2 ^ 62) (h0 : -(2 ^ 62) ≤ i) : Iter (.rng 0 i 1) (rngInts 0 1 i.toNat) := by
  refine .rng (small_one (by decide) (by decide) h0 h) ?_
  rw [rangeSize_one]
  split <;> omega

/-! stores into tracked things -/
theorem Swap.split {a : Addr} {o' : AO} : ∀ {hp hp' : Hp}, Swap hp a o' hp' → ∃ pre o post, hp = pre ++ (a, o) :: post ∧ hp' = pre ++ (a, o') :: post
  | _, _, .head => ⟨[], _, _, rfl, rfl⟩
  | _, _, .tail (p := p) h => let ⟨pre, o, post, e1, e2⟩ := h.split; ⟨p :: pre, o, post, by rw [e1]; rfl, by rw [e2]; rfl⟩
theorem Swap.keys {a : Addr} {o' : AO} {hp hp' : Hp} (h : Swap hp a o' hp') : keys hp' = keys hp := by
  obtain ⟨pre, o, post, rfl, rfl⟩ := h.split
  unfold Mine.keys; simp
theorem CS.swap (H : HR D Z U hp s.heap) {a : Addr} {o' : AO} {h' : Heap} {tk : Nat} (w : Swap hp a o' hp') (hs : Heap.SameBut a s.heap h') (hr : (∀ z, Z z → z ≠ a) → (∀ x v, Mine.rep Z s.heap x v → Mine.rep Z h' x v) → repO Z h' a o') :
    CS D U Z hp s Z hp' { s with heap := h', toks := tk } := by
  obtain ⟨pre, o, post, rfl, rfl⟩ := w.split
  have hm : (a, o) ∈ pre ++ (a, o) :: post := List.mem_append_right _ (.head _)
  obtain ⟨az, au, a0⟩ := H.off _ hm
  have keep : ∀ b x, b ≠ a → s.heap.get? b = some x → h'.get? b = some x := fun b x hb e => (hs.2 b hb).trans e
  have zne : ∀ z, Z z → z ≠ a := fun z hz e => az (e ▸ hz)
  have zk : ∀ b x, Z b → s.heap.get? b = some x → h'.get? b = some x := fun b x z e => keep b x (zne b z) e
  have hra := hr zne fun x v r => rep_mono (fun _ z => z) zk x r
  have nd := H.nodup
  unfold Mine.keys at nd
  rw [List.map_append, List.map_cons] at nd
  obtain ⟨n1, n2, n3⟩ := List.nodup_append.mp nd
  have n4 := List.nodup_cons.mp n2
  have live : ∃ x, h'.get? a = some x := repO_live hra
  have ak : a ∈ Mine.keys (pre ++ (a, o) :: post) := List.mem_map_of_mem hm
  refine ⟨⟨fun b x e => keep b x (fun q => by rw [q, a0] at e; cases e) (H.base b x e), fun p hp => ?_, by rw [w.keys]; exact H.nodup, fun p hp => ?_, H.zu, fun b z => ?_, fun b hb => ⟨?_, (H.ult b hb).2⟩⟩, ⟨fun b x hb _ e => keep b x (fun q => hb (q ▸ ak)) e, fun b hb hw x e => ⟨x.slots, keep b x (fun q => hw (q ▸ ak)) e⟩, fun _ z => z, fun _ z => .inl z, fun b x e => ?_⟩, fun q hq => .inl (by rw [w.keys] at hq; exact hq), _, _, rfl⟩
  · rcases List.mem_append.mp hp with hp | hp
    · exact repO_mono (fun _ z => z) zk (fun x e => keep _ x (fun q => n3 _ (List.mem_map_of_mem hp) _ (.head _) q) e) (H.objs p (List.mem_append_left _ hp))
    rcases List.mem_cons.mp hp with rfl | hp
    · exact hra
    · exact repO_mono (fun _ z => z) zk (fun x e => keep _ x (fun q => n4.1 (by have := List.mem_map_of_mem (f := fun x : Addr × AO => x.1) hp; rw [q] at this; exact this)) e) (H.objs p (List.mem_append_right _ (.tail _ hp)))
  · rcases List.mem_append.mp hp with hp | hp
    · exact H.off p (List.mem_append_left _ hp)
    rcases List.mem_cons.mp hp with rfl | hp
    · exact ⟨az, au, a0⟩
    · exact H.off p (List.mem_append_right _ (.tail _ hp))
  · obtain ⟨x, e⟩ := H.zlt b z; exact ⟨x, zk b x z e⟩
  · obtain ⟨x, e⟩ := (H.ult b hb).1; exact ⟨x, keep b x (fun q => au (q ▸ hb)) e⟩
  · by_cases q : b = a
    · rw [q]; exact live
    · exact ⟨x, keep b x q e⟩

noncomputable def EffU (D : Wd K) (A : Around) (U : List Addr) (Z : Addr → Prop) (hp : Hp) (s : Shared) (t : Sem Unit) (hp' : Hp) : Prop :=
  ∀ Q E, (∀ s', CS D U Z hp s Z hp' s' → Q () s') → wpAny D.M A t Q E s
noncomputable def SetI (D : Wd K) (hp : Hp) (x i v : AV) (hp' : Hp) : Prop :=
  ∀ A U Z s a b d, HR D Z U hp s.heap → rep Z s.heap x a → rep Z s.heap i b → rep Z s.heap v d → EffU D A U Z hp s (setItem a b d) hp'
theorem SV1_setI {o i e : Expr} {p pos : Pos} {P : Fl → St → Prop}
    (h : EV D c st e (fun v st1 => EV D c st1 o (fun x st2 => EV D c st2 i (fun y st3 => ∃ hp', SetI D st3.hp x y v hp' ∧ P .next ⟨st3.loc, hp'⟩)))) (hc : noComp e = true := by rfl) :
    SV1 D c st (.Assign [.Subscript o i p] e pos) P := by
  intro g A Z s R Q E k
  refine wpAny_Assign_Subscript ?_ (swapsWith_plain hc)
  refine h g A Z s R _ E ?_
  rintro v Z1 st1 s1 x1 ⟨xv, rv, h1⟩
  refine h1 g A Z1 s1 x1.rel _ E ?_
  rintro a Z2 st2 s2 x2 ⟨xa, ra, h2⟩
  refine h2 g A Z2 s2 x2.rel _ E ?_
  rintro b Z3 st3 s3 x3 ⟨xb, rb, hp', hset, hP⟩
  refine hset A g.U Z3 s3 a b v x3.rel.hr (x3.rep x2.rel ra) rb ((x2.trans x3).rep x1.rel rv) _ E fun s' C => ?_
  exact k _ _ _ _ (((x1.trans x2).trans x3).trans (Stp.cs x3.rel C)) ⟨.next, rfl, hP⟩

noncomputable def SetA (D : Wd K) (hp : Hp) (x : AV) (name : Str) (v : AV) (hp' : Hp) : Prop :=
  ∀ A U Z s a d, HR D Z U hp s.heap → rep Z s.heap x a → rep Z s.heap v d → EffU D A U Z hp s (setAttr a name d) hp'
theorem SV1_setA {o e : Expr} {name : Str} {p pos : Pos} {P : Fl → St → Prop}
    (h : EV D c st e (fun v st1 => EV D c st1 o (fun x st2 => ∃ hp', SetA D st2.hp x name v hp' ∧ P .next ⟨st2.loc, hp'⟩))) (hc : noComp e = true := by rfl) :
    SV1 D c st (.Assign [.Attribute o name p] e pos) P := by
  intro g A Z s R Q E k
  refine wpAny_Assign_Attribute ?_ (swapsWith_plain hc)
  refine h g A Z s R _ E ?_
  rintro v Z1 st1 s1 x1 ⟨xv, rv, h1⟩
  refine h1 g A Z1 s1 x1.rel _ E ?_
  rintro a Z2 st2 s2 x2 ⟨xa, ra, hp', hset, hP⟩
  refine hset A g.U Z2 s2 a v x2.rel.hr ra (x2.rep x1.rel rv) _ E fun s' C => ?_
  exact k _ _ _ _ ((x1.trans x2).trans (Stp.cs x2.rel C)) ⟨.next, rfl, hP⟩

theorem setI_list {a : Addr} {xs : List AV} {i : Int} {v : AV} (hh : Has hp a (.list xs)) (h0 : 0 ≤ i) (hb : i < 2 ^ 62) (hi : i < xs.length) (w : Swap hp a (.list (xs.set i.toNat v)) hp') :
    SetI D hp (.val (.ref a)) (.int i) v hp' := by
  rintro A U Z s _ _ d H rfl ⟨t, rfl⟩ rv Q E k
  obtain ⟨its, hl, rr⟩ := H.objs _ hh.mem
  have e : its.size = xs.length := by have := reps_length rr; simpa using this
  refine of <| wpAny_setItem_list hl h0 (by omega) (by omega) fun h' hl' hs => ?_
  refine k _ (CS.swap (tk := s.toks) H w hs fun zne kr => ⟨_, hl', ?_⟩)
  have := reps_set i.toNat rr rv
  rw [Array.toList_setIfInBounds]
  exact reps_mono (fun _ z => z) (fun b o z e => (hs.2 b (zne b z)).trans e) _ this

theorem ex_put {l l' : Loc} {x : Str} {v : AV} {fr : List Str} {P : Loc → Prop} (L : Put l x v l') (h : x ∉ fr) (q : P l') : ∃ loc', Put l x v loc' ∧ x ∉ fr ∧ P loc' := ⟨l', L, h, q⟩
theorem ex_val {u : Value} {P : Value → Prop} (h : KeepOk K u) (q : P u) : ∃ u', AV.val u = .val u' ∧ KeepOk K u' ∧ P u' := ⟨u, rfl, h, q⟩
theorem ex_sub {x i z : AV} {P : AV → Prop} (h : Sub D hp x i z) (q : P z) : ∃ z, Sub D hp x i z ∧ P z := ⟨z, h, q⟩
theorem ex_setI {x i v : AV} {P : Hp → Prop} (h : SetI D hp x i v hp') (q : P hp') : ∃ hp', SetI D hp x i v hp' ∧ P hp' := ⟨hp', h, q⟩
theorem ex_setA {x v : AV} {n : Str} {P : Hp → Prop} (h : SetA D hp x n v hp') (q : P hp') : ∃ hp', SetA D hp x n v hp' ∧ P hp' := ⟨hp', h, q⟩
theorem ex_atr {x z : AV} {n : Str} {P : AV → Prop} (h : Atr D hp x n z) (q : P z) : ∃ z, Atr D hp x n z ∧ P z := ⟨z, h, q⟩
theorem ex_getM {x : AV} {n : Str} {f : Value} {P : Value → Prop} (h : GetM D hp x n f) (h2 : KeepOk K f) (q : P f) : ∃ f, GetM D hp x n f ∧ KeepOk K f ∧ P f := ⟨f, h, h2, q⟩
end Mine

namespace Mine
open PySem PySem.W PySem.Calls PyProof.Rows PySem.Spec

variable {K : Frag} {D : Wd K} {c : FC} {g : Gh} {A : Around} {Z Z' Z'' : Addr → Prop} {st st' st'' : St} {s s' s'' : Shared} {U : List Addr} {hp hp' : Hp}

/-! slices -/
noncomputable def EP (D : Wd K) (c : FC) (st : St) (e : Option Expr) (P : Option Int → St → Prop) : Prop :=
  ∀ g A Z s, Rel D c g A Z st s → TT D c g A Z st s (evalPart e (c.env g)) (fun v _ st' _ => ∃ lo, IsPart v lo ∧ P lo st')
theorem EP_none {P : Option Int → St → Prop} (h : P none st) : EP D c st none P := fun g A Z s R => TT.pure R ⟨none, .none, h⟩
theorem EP_some {e : Expr} {P : Option Int → St → Prop} (h : EV D c st e (fun x st1 => ∃ i, x = .int i ∧ P (some i) st1)) : EP D c st (some e) P := by
  intro g A Z s R
  refine TT.mono (h g A Z s R) ?_
  rintro v Z1 st1 s1 x1 ⟨x, ⟨rx, i, rfl, hP⟩⟩
  obtain ⟨t, rfl⟩ := rx
  exact ⟨some i, .int i t, hP⟩

noncomputable def Sl (D : Wd K) (hp : Hp) (x : AV) (lo hi : Option Int) (z : AV) : Prop :=
  ∀ A U Z s a sl l u, HR D Z U hp s.heap → rep Z s.heap x a → s.heap.IsSliceOf sl l u .none → IsPart l lo → IsPart u hi →
    ∃ T id, typeLookup (.type T) "__getitem__" = pure (some (.builtin id)) ∧ s.TypeIs a T ∧ Eff D A U Z hp s (getItem a (.ref sl)) (fun z' hp' => z' = z ∧ hp' = hp)
theorem EV_Slice {o : Expr} {lo hi : Option Expr} {p pos : Pos} {P : AV → St → Prop}
    (h : EV D c st o (fun x st1 => EP D c st1 lo (fun l st2 => EP D c st2 hi (fun u st3 => ∃ z, Sl D st3.hp x l u z ∧ P z st3)))) : EV D c st (.Subscript o (.Slice lo hi none p) pos) P := by
  intro g A Z s R Q E k
  refine Subscript_ (h g A Z s R _ E ?_)
  rintro a Z1 st1 s1 x1 ⟨x, rx, h1⟩
  refine wpAny_Slice (h1 g A Z1 s1 x1.rel _ E ?_)
  rintro l Z2 st2 s2 x2 ⟨lov, pl, h2⟩
  refine h2 g A Z2 s2 x2.rel _ E ?_
  rintro u Z3 st3 s3 x3 ⟨hiv, pu, z, hz, hP⟩
  have x4 : Stp D c g A Z3 st3 s3 Z3 st3 { s3 with heap := s3.heap.push { cls := .type "slice", data := .fields #[l, u, .none] }, toks := s3.toks } := Stp.ext x3.rel (push_keeps _)
  obtain ⟨T, id, hl, hT, he⟩ := hz A g.U Z3 { s3 with heap := s3.heap.push { cls := .type "slice", data := .fields #[l, u, .none] } } a s3.heap.objs.size l u x4.rel.hr (((x2.trans x3).trans x4).rep x1.rel rx) (Heap.IsSliceOf.new _ _ _ _) pl pu
  refine tail_any hT hl (Eff.tt x4.rel he Q E ?_) (ops := [.ref s3.heap.objs.size, a]) rfl
  rintro v Z5 st5 s5 x5 ⟨w, rw', hp', rfl, rfl, rfl⟩
  exact k _ _ _ _ ((((x1.trans x2).trans x3).trans x4).trans x5) ⟨_, rw', hP⟩

noncomputable def cut {α : Type} (xs : List α) (lo hi : Option Int) : List α := (xs.drop (lo.elim 0 (clipAt xs.length))).take (hi.elim xs.length (clipAt xs.length) - lo.elim 0 (clipAt xs.length))
theorem reps_drop {h : Heap} : ∀ {xs : List AV} {vs : List Value} (n : Nat), reps Z h xs vs → reps Z h (xs.drop n) (vs.drop n)
  | xs, vs, 0, r => r
  | [], vs, n + 1, r => by cases r; exact rfl
  | _ :: _, _, n + 1, ⟨v, r, e, _, q⟩ => by subst e; exact reps_drop n q
theorem reps_take {h : Heap} : ∀ {xs : List AV} {vs : List Value} (n : Nat), reps Z h xs vs → reps Z h (xs.take n) (vs.take n)
  | xs, vs, 0, r => by simp only [List.take_zero]; exact rfl
  | [], vs, n + 1, r => by cases r; exact rfl
  | _ :: _, _, n + 1, ⟨v, r, e, p, q⟩ => by subst e; exact ⟨v, _, rfl, p, reps_take n q⟩
theorem sl_bytes {b : List UInt8} {lo hi : Option Int} (hz : b.length ≤ 16777216) : Sl D hp (.bytes b) lo hi (.bytes (cut b lo hi)) := by
  rintro A U Z s _ sl l u H ⟨t, rfl⟩ hs pl pu
  refine ⟨"bytes", _, FB.slot_bytes_getitem.lookup, typeIs_bytes _ _ _, fun Q E k => of <| getItem_meets (typeIs_bytes _ _ _) (by decide) FB.slot_bytes_getitem FB.entry_bytes_getitem (FB.args_bytes_getitem_2 _ _) (KBc.meets_slice2 _ t _ pl pu)
    ⟨hs, Nat.le_trans (KBc.size_picked_le _ lo hi) (by simpa [sizeLine_eq] using hz), fun t' tk => ?_⟩⟩
  refine k _ _ Z hp _ ⟨rfl, rfl⟩ (CS.tok H) ⟨t', ?_⟩
  rw [KBc.picked_eq]
  simp [cut]
theorem sl_list {xs : List AV} {lo hi : Option Int} (hz : xs.length ≤ 16777216) : Sl D hp (.list xs) lo hi (.list (cut xs lo hi)) := by
  rintro A U Z s _ sl l u H ⟨a, its, rfl, za, hl, rr⟩ hs pl pu
  have e : its.size = xs.length := by have := reps_length rr; simpa using this
  refine ⟨"list", _, slot_list_getitem.lookup, hl.typeIs, fun Q E k => of <| wpAny_getItem_list_slice hl hs pl pu .none (by simp) ?_ (by rw [e, sizeLine_eq]; exact hz)⟩
  rw [slicePick_plain]
  refine k _ _ _ _ _ ⟨rfl, rfl⟩ (CS.push H (tk := s.toks)) (rep_newlist ?_)
  rw [e]
  exact reps_take _ (reps_drop _ rr)

/-! operators that make new things -/
theorem binN_bytes {a b : List UInt8} {P : AV → Prop} (hsz : a.length + b.length ≤ 16777216) (h : P (.bytes (a ++ b))) : BinT D .Add (.bytes a) (.bytes b) P :=
  ⟨_, fun A U Z hp s _ _ H ⟨_, e1⟩ ⟨_, e2⟩ Q E k => by
    subst e1 e2
    refine of <| KBy.add_bytes (by simpa using hsz) fun t' tk => k _ _ Z hp _ ⟨rfl, rfl⟩ (CS.tok H) ⟨t', ?_⟩
    simp, h⟩
theorem add_raw {A : PySem.Around} {prog : Program} {w : World} {E : Value → Shared → Prop} {l b : Addr} {vs ws : List Value} {Q : Value → Shared → Prop} (hl : s.heap.IsList l vs.toArray) (hb : s.heap.IsList b ws.toArray)
    (h : Q (.ref s.heap.objs.size) { s with heap := s.heap.push { cls := .type "list", data := .seq (vs ++ ws).toArray } })
    (hsz : vs.length + ws.length ≤ sizeLine) : PySem.wpAny (model prog w) A (binaryOp .Add (.ref l) (.ref b)) Q E s := by
  obtain ⟨⟨cls, dd, data, sl⟩, ho, hc, n, hd⟩ := id hl
  obtain ⟨⟨cls2, dd2, data2, sl2⟩, ho2, hc2, n2, hd2⟩ := id hb
  simp only at hc hd hc2 hd2
  subst hc hd hc2 hd2
  have e : vs.toArray ++ ws.toArray = (vs ++ ws).toArray := by simp
  refine concat_meets ⟨_, ho, rfl⟩ ⟨_, ho2, rfl⟩ noFill_list_add seq_list_add PySem.F.slot_list_add PySem.F.entry_list_add (PySem.F.args_list_add_2 _ _) (list_addW l b vs.toArray ws.toArray n n2 dd dd2 sl sl2 (by simpa using hsz)) ⟨ho, ho2, ?_⟩
  rw [e]
  exact h
theorem mul_raw {A : PySem.Around} {prog : Program} {w : World} {E : Value → Shared → Prop} {l : Addr} {vs : List Value} {x : Int} {u : Tok} {Q : Value → Shared → Prop} (hl : s.heap.IsList l vs.toArray)
    (hlo : -(2 ^ 63 : Int) ≤ x) (hhi : x < 2 ^ 63) (hsz : vs.length * x.toNat ≤ 2 ^ 24)
    (h : Q (.ref s.heap.objs.size) { s with heap := s.heap.push { cls := .type "list", data := .seq (List.replicate x.toNat vs).flatten.toArray } }) :
    PySem.wpAny (model prog w) A (binaryOp .Mult (.ref l) (.int x u)) Q E s := by
  obtain ⟨⟨cls, d, data, sl⟩, ho, hcl, k, hd⟩ := id hl
  simp only at hcl hd
  subst hcl hd
  have hsz' : vs.toArray.size * x.toNat ≤ 2 ^ 24 := by simpa using hsz
  refine wpAny_binaryOp_repeat_ref (T := "list") (U := "int") (by decide) ⟨_, ho, rfl⟩ (fun s' => typeIs_int s' x u) noFill_list_mul F.fills_int_mul F.slot_int_rmul repeat_list F.slot_int_index.lookup
    (call_meets F.slot_int_rmul (typeIs_int s x u) F.entry_int_rmul (F.args_int_rmul_2 _ _) (lm_int_rmul_list_any x u l vs.toArray k d sl)
      ⟨ho, rfl, ⟨_, ho, rfl⟩, call_meets F.slot_list_mul ⟨_, ho, rfl⟩ F.entry_list_mul (F.args_list_mul_2 _ _)
        (lm_list_mul_any l vs.toArray k d sl x u (by simp [Builtin.List.listFitsIndex]; omega) (by omega) (by simp [Builtin.List.listTooLong, sizeLine]; omega))
        ⟨ho, ?_⟩⟩)
  rw [listMul_foldl_if]
  exact h

noncomputable def BinG (D : Wd K) (hp : Hp) (op : Operator) (x y : AV) (P : AV → Hp → Prop) : Prop :=
  ∀ A U Z s a b, HR D Z U hp s.heap → rep Z s.heap x a → rep Z s.heap y b → Eff D A U Z hp s (binaryOp op a b) P
theorem EV_BinOpG {op : Operator} {l r : Expr} {pos : Pos} {P : AV → St → Prop} (h : EV D c st l (fun x st1 => EV D c st1 r (fun y st2 => BinG D st2.hp op x y (fun z hp' => P z ⟨st2.loc, hp'⟩)))) :
    EV D c st (.BinOp l op r pos) P := by
  intro g A Z s R
  rw [eval_BinOp]
  refine TT.bind (h g A Z s R) ?_
  rintro a Z1 st1 s1 x1 ⟨x, rx, h1⟩
  refine TT.bind (TT.holding (h1 g A Z1 s1 x1.rel)) ?_
  rintro b Z2 st2 s2 x2 ⟨y, ry, hz⟩
  refine TT.standAt (TT.operate ?_)
  refine TT.mono (Eff.tt x2.rel (hz A g.U Z2 s2 a b x2.rel.hr (x2.rep x1.rel rx) ry)) ?_
  rintro v Z3 st3 s3 x3 ⟨w, rw', hp', rfl, hP⟩
  exact ⟨_, rw', hP⟩
theorem bin_lists {xs ys : List AV} {P : AV → Prop} (hsz : xs.length + ys.length ≤ 16777216) (h : P (.list (xs ++ ys))) : BinT D .Add (.list xs) (.list ys) P :=
  ⟨_, fun A U Z hp s _ _ H ⟨a, its, e1, za, hl, rr⟩ ⟨b, jts, e2, zb, hm, qq⟩ Q E k => by
    subst e1 e2
    refine of <| add_raw (vs := its.toList) (ws := jts.toList) hl hm ?_ (by rw [reps_length rr, reps_length qq, sizeLine_eq]; exact hsz)
    exact k _ _ _ _ _ ⟨rfl, rfl⟩ (CS.push H (tk := s.toks)) (rep_newlist (reps_append rr qq)), h⟩

/-- a tracked thing goes, another comes in its place -/
inductive Turn : Hp → Addr → AO → Addr → AO → Hp → Prop
  | head {r a o a' o'} : Turn ((a, o) :: r) a o a' o' ((a', o') :: r)
  | tail {p r a o a' o' r'} : Turn r a o a' o' r' → Turn (p :: r) a o a' o' (p :: r')
inductive Drop : Hp → Addr → AO → Hp → Prop
  | head {r a o} : Drop ((a, o) :: r) a o r
  | tail {p r a o r'} : Drop r a o r' → Drop (p :: r) a o (p :: r')
theorem Drop.split {a : Addr} {o : AO} : ∀ {hp hp' : Hp}, Drop hp a o hp' → ∃ pre post, hp = pre ++ (a, o) :: post ∧ hp' = pre ++ post
  | _, _, .head => ⟨[], _, rfl, rfl⟩
  | _, _, .tail (p := p) h => let ⟨pre, post, e1, e2⟩ := h.split; ⟨p :: pre, post, by rw [e1]; rfl, by rw [e2]; rfl⟩
theorem Turn.split {a a' : Addr} {o o' : AO} : ∀ {hp hp' : Hp}, Turn hp a o a' o' hp' → ∃ pre post, hp = pre ++ (a, o) :: post ∧ hp' = pre ++ (a', o') :: post
  | _, _, .head => ⟨[], _, rfl, rfl⟩
  | _, _, .tail (p := p) h => let ⟨pre, post, e1, e2⟩ := h.split; ⟨p :: pre, post, by rw [e1]; rfl, by rw [e2]; rfl⟩

/-- what is tracked may be forgotten, or told in another order -/
theorem HR.sub {h : Heap} (H : HR D Z U hp h) (hm : ∀ p ∈ hp', p ∈ hp) (hn : (keys hp').Nodup) : HR D Z U hp' h :=
  ⟨H.base, fun p q => H.objs p (hm p q), hn, fun p q => H.off p (hm p q), H.zu, H.zlt, H.ult⟩
theorem CS.sub {hp'' : Hp} (C : CS D U Z hp s Z' hp' s') (hm : ∀ p ∈ hp'', p ∈ hp') (hn : (keys hp'').Nodup) : CS D U Z hp s Z' hp'' s' :=
  ⟨C.hr.sub hm hn, C.tr, fun k hk => by
    obtain ⟨p, hp, rfl⟩ := List.mem_map.mp hk
    exact C.knew _ (List.mem_map_of_mem (hm p hp)), C.sh⟩
/-- frozen -/
theorem HR.freeze {h : Heap} {a : Addr} (H : HR D Z U hp h) (hz : ∃ o, h.get? a = some o) (hk : a ∉ keys hp) (hu : a ∉ U) : HR D (ZZ Z a) U hp h :=
  ⟨H.base, fun p hp => repO_mono (fun _ z => .inl z) (fun _ _ _ e => e) (fun _ e => e) (H.objs p hp), H.nodup,
    fun p hp => ⟨fun z => z.elim (H.off p hp).1 fun (e : p.1 = a) => hk (e ▸ List.mem_map_of_mem hp), (H.off p hp).2⟩, fun b z => z.elim (H.zu b) fun (e : b = a) => e ▸ hu,
    fun b z => z.elim (H.zlt b) fun (e : b = a) => e ▸ hz, H.ult⟩
theorem keys_nodup_drop {a : Addr} {o : AO} {pre post : Hp} (h : (keys (pre ++ (a, o) :: post)).Nodup) : (keys (pre ++ post)).Nodup ∧ a ∉ keys (pre ++ post) := by
  unfold keys at h ⊢
  rw [List.map_append, List.map_cons] at h
  obtain ⟨n1, n2, n3⟩ := List.nodup_append.mp h
  obtain ⟨n4, n5⟩ := List.nodup_cons.mp n2
  rw [List.map_append]
  refine ⟨List.nodup_append.mpr ⟨n1, n5, fun x hx y hy => n3 x hx y (.tail _ hy)⟩, fun hm => ?_⟩
  rcases List.mem_append.mp hm with hm | hm
  · exact n3 _ hm _ (.head _) rfl
  · exact n4 hm
end Mine

namespace Mine
open PySem PySem.W PySem.Calls PyProof.Rows PySem.Spec

variable {K : Frag} {D : Wd K} {c : FC} {g : Gh} {A : Around} {Z Z' Z'' : Addr → Prop} {st st' st'' : St} {s s' s'' : Shared} {U : List Addr} {hp hp' : Hp} {cl : Bool} {n : Nat}

/-! freezing -/
inductive FzL (a : Addr) (v : AV) : Loc → Loc → Prop
  | nil : FzL a v [] []
  | same {p l l'} : FzL a v l l' → FzL a v (p :: l) (p :: l')
  | froze {x l l'} : FzL a v l l' → FzL a v ((x, some (.val (.ref a))) :: l) ((x, some v) :: l')
theorem FzL.locs {a : Addr} {v : AV} {h : Heap} {m : Str → Option Value} (rv : rep Z' h v (.ref a)) (hz : ∀ a, Z a → Z' a) {l l' : Loc} (F : FzL a v l l') (H : Locs c g Z h m l) : Locs c g Z' h m l' := by
  induction F with
  | nil => trivial
  | same _ ih => exact ⟨fun w q => let ⟨u, e1, e2⟩ := H.1 w q; ⟨u, e1, rep_mono hz (fun _ _ _ e => e) w e2⟩, ih H.2⟩
  | froze _ ih => exact ⟨fun w q => let ⟨u, e1, e2⟩ := H.1 _ rfl; by cases q; cases e2; exact ⟨_, e1, rv⟩, ih H.2⟩
theorem FzL.names {a : Addr} {v : AV} {l l' : Loc} (F : FzL a v l l') : l'.map (·.1) = l.map (·.1) := by
  induction F with
  | nil => rfl
  | same _ ih => simp [ih]
  | froze _ ih => simp [ih]
theorem FzL.refl {a : Addr} {v : AV} : ∀ l : Loc, FzL a v l l
  | [] => .nil
  | _ :: r => .same (FzL.refl r)
theorem TT.mono' {α : Type} {t : Sem α} {P P₂ : α → (Addr → Prop) → St → Shared → Prop} (x : TT D c g A Z st s t P) (y : ∀ a Z1 st1 s1, Stp D c g A Z st s Z1 st1 s1 → P a Z1 st1 s1 → ∃ Z' st', Stp D c g A Z st s Z' st' s1 ∧ P₂ a Z' st' s1) : TT D c g A Z st s t P₂ :=
  fun Q E k => x Q E fun a Z' st' s' x1 x2 => by obtain ⟨Z2, st2, x3, p⟩ := y a Z' st' s' x1 x2; exact k a Z2 st2 s' x3 p
noncomputable def AO.items : AO → Option (List AV)
  | .list xs => some xs
  | .plain xs => some xs
  | _ => none
theorem repO_frozen {a : Addr} {o : AO} {xs : List AV} {h : Heap} (ho : o.items = some xs) (r : repO Z h a o) : rep (ZZ Z a) h (.list xs) (.ref a) := by
  cases o with
  | list ys => cases ho; obtain ⟨its, hl, rr⟩ := r; exact ⟨a, its, rfl, .inr rfl, hl, reps_mono (fun _ z => .inl z) (fun _ _ _ e => e) _ rr⟩
  | plain ys => cases ho; obtain ⟨its, hl, rr⟩ := r; exact ⟨a, its, rfl, .inr rfl, hl.isList, reps_mono (fun _ z => .inl z) (fun _ _ _ e => e) _ rr⟩
  | bytearray _ => cases ho
  | dict _ => cases ho
theorem HR.drop {h : Heap} {a : Addr} {o : AO} (H : HR D Z U hp h) (d : Drop hp a o hp') : HR D Z U hp' h ∧ repO Z h a o ∧ a ∉ keys hp' ∧ a ∉ U ∧ ¬ Z a ∧ (∀ k ∈ keys hp', k ∈ keys hp) ∧ a ∈ keys hp := by
  obtain ⟨pre, post, rfl, rfl⟩ := d.split
  have nd := keys_nodup_drop H.nodup
  have sub : ∀ p ∈ pre ++ post, p ∈ pre ++ (a, o) :: post := fun p hp => by
    rcases List.mem_append.mp hp with q | q
    · exact List.mem_append_left _ q
    · exact List.mem_append_right _ (.tail _ q)
  have me : (a, o) ∈ pre ++ (a, o) :: post := List.mem_append_right _ (.head _)
  exact ⟨H.sub sub nd.1, H.objs _ me, nd.2, (H.off _ me).2.1, (H.off _ me).1, fun k hk => by obtain ⟨p, hp, rfl⟩ := List.mem_map.mp hk; exact List.mem_map_of_mem (sub p hp), List.mem_map_of_mem me⟩
theorem Stp.freeze (R : Rel D c g A Z st s) {a : Addr} {o : AO} {xs : List AV} {loc' : Loc} (d : Drop st.hp a o hp') (ho : o.items = some xs) (F : FzL a (.list xs) st.loc loc') :
    Stp D c g A Z st s (ZZ Z a) ⟨loc', hp'⟩ s ∧ Mine.rep (ZZ Z a) s.heap (.list xs) (.ref a) := by
  obtain ⟨H1, ro, ak, au, az, sub, amem⟩ := R.hr.drop d
  have rv := repO_frozen ho ro
  have live := repO_live ro
  have zs : ∀ b, Z b → ZZ Z a b := fun b z => .inl z
  have H2 : HR D (ZZ Z a) g.U hp' s.heap := H1.freeze live ak au
  obtain ⟨m, hn, hl⟩ := R.ns
  have aL : g.L ≠ a := fun e => R.Lk (e ▸ amem)
  refine ⟨⟨⟨H2, ⟨m, hn, F.locs rv zs hl⟩, F.names.trans R.names, fun z => z.elim R.Lz aL, fun hm => R.Lk (sub _ hm), R.L0, fun x b hx => ?_, R.dist, R.own, R.cvar, R.fu, R.good, R.ok⟩, ⟨fun _ _ _ _ e => e, fun _ _ _ o e => ⟨o.slots, e⟩, zs, fun b z => ?_, fun _ o e => ⟨o, e⟩⟩, fun k hk => .inl (sub k hk), s.heap, s.toks, rfl⟩, rv⟩
  · obtain ⟨c1, c2, c3, c4, c5⟩ := R.cell x b hx
    exact ⟨c1, fun z => z.elim c2 fun (e : b = a) => c3 (e ▸ amem), fun hm => c3 (sub _ hm), c4, c5⟩
  · rcases z with z | z
    · exact .inl z
    · exact .inr (.inl (.tail _ (List.mem_append_right _ (z ▸ amem))))

/-- from here on the list is not changed -/
theorem EV_freeze {e : Expr} {P : AV → St → Prop} (h : EV D c st e (fun x st1 => ∃ a, x = .val (.ref a) ∧ ∃ o xs hp', Drop st1.hp a o hp' ∧ o.items = some xs ∧ P (.list xs) ⟨st1.loc, hp'⟩)) : EV D c st e P := by
  intro g A Z s R
  refine TT.mono' (h g A Z s R) ?_
  rintro v Z1 st1 s1 x1 ⟨x, rx, a, rfl, o, xs, hp', d, ho, hP⟩
  cases rx
  obtain ⟨x2, rv⟩ := Stp.freeze x1.rel d ho (FzL.refl _)
  exact ⟨_, _, x1.trans x2, _, rv, hP⟩
theorem SV_freeze {ss : List Stmt} {a : Addr} {o : AO} {xs : List AV} {loc' : Loc} {P : Fl → St → Prop} (d : Drop st.hp a o hp') (ho : o.items = some xs) (F : FzL a (.list xs) st.loc loc') (h : SV D c ⟨loc', hp'⟩ ss P) : SV D c st ss P := by
  intro g A Z s R Q E k
  obtain ⟨x1, _⟩ := Stp.freeze R d ho F
  exact h g A _ s x1.rel Q E fun f Z2 st2 s2 x2 h2 => k _ _ _ _ (x1.trans x2) h2
end Mine

namespace Mine
open PySem PySem.W PySem.Calls PyProof.Rows PySem.Spec

variable {K : Frag} {D : Wd K} {c : FC} {g : Gh} {A : Around} {Z Z' Z'' : Addr → Prop} {st st' st'' : St} {s s' s'' : Shared} {U : List Addr} {hp hp' : Hp} {cl : Bool} {n : Nat}

theorem reps_ints {h : Heap} : ∀ {ns : List Int} {vs : List Value}, reps Z h (ns.map .int) vs → IntsAre vs ns
  | [], _, e => by cases e; exact .nil
  | x :: _, _, ⟨_, _, e, ⟨t, ex⟩, q⟩ => by subst e ex; exact .cons x t (reps_ints q)
theorem ints_items {h : Heap} : ∀ {ns : List Int} {vs : List Value}, reps Z h (ns.map .int) vs → ∃ l : List (Int × Tok), vs = l.map (fun p => .int p.1 p.2) ∧ l.map (·.1) = ns
  | [], _, e => by cases e; exact ⟨[], rfl, rfl⟩
  | x :: _, _, ⟨_, _, e, ⟨t, ex⟩, q⟩ => by
    obtain ⟨l, e1, e2⟩ := ints_items q
    subst e ex
    exact ⟨(x, t) :: l, by rw [e1]; rfl, by rw [← e2]; rfl⟩
theorem sum_ints {ns : List Int} : CallV cl D n (.builtin "sum") [.list (ns.map .int)] hp (.int ns.sum) := by
  intro A U Z s vs G H r Q E k
  obtain ⟨_, rfl, a, its, rfl, za, hi, rr⟩ := reps_one r
  obtain ⟨l, e1, e2⟩ := ints_items rr
  have ei : its = intItems l.toArray := by
    have : its = (its.toList).toArray := by simp
    rw [this, e1]; simp [intItems]
  rw [ei] at hi
  refine of (sum_intListG (G.hand rfl) hi fun h' tk t' hk => ?_)
  have es : preSum (numAt l.toArray) l.toArray.size = ns.sum := by rw [preSum_eq, List.take_of_length_le (by simp)]; simp [e2]
  rw [es]
  exact k _ _ Z hp _ ⟨rfl, rfl⟩ (CS.ext H hk) rep_int
theorem max_ints {a b : Int} : CallV cl D n (.builtin "max") [.int a, .int b] hp (.int (max a b)) := by
  intro A U Z s vs G H r Q E k
  obtain ⟨_, _, rfl, ⟨t, rfl⟩, ⟨u, rfl⟩⟩ := reps_two r
  refine of (max_two_ints (G.hand rfl) fun h' tk hk => k _ _ Z hp _ ⟨rfl, rfl⟩ (CS.ext H hk) ?_)
  by_cases h : b > a
  · rw [if_pos h, show max a b = b by omega]; exact rep_int
  · rw [if_neg h, show max a b = a by omega]; exact rep_int
theorem min_ints {a b : Int} : CallV cl D n (.builtin "min") [.int a, .int b] hp (.int (min a b)) := by
  intro A U Z s vs G H r Q E k
  obtain ⟨_, _, rfl, ⟨t, rfl⟩, ⟨u, rfl⟩⟩ := reps_two r
  refine of (min_two_ints (G.hand rfl) fun h' tk hk => k _ _ Z hp _ ⟨rfl, rfl⟩ (CS.ext H hk) ?_)
  by_cases h : b < a
  · rw [if_pos h, show min a b = b by omega]; exact rep_int
  · rw [if_neg h, show min a b = a by omega]; exact rep_int

noncomputable def toB (ns : List Int) : List UInt8 := ns.map fun n => n.toNat.toUInt8
theorem bytes_ints {ns : List Int} (hr : ∀ i ∈ ns, 0 ≤ i ∧ i < 256) (hz : ns.length ≤ 16777216) : CallV cl D n (.type "bytes") [.list (ns.map .int)] hp (.bytes (toB ns)) := by
  intro A U Z s vs G H r Q E k
  obtain ⟨_, rfl, a, its, rfl, za, hi, rr⟩ := reps_one r
  have hi' : s.heap.IsList a its.toList.toArray := by simpa using hi
  refine of (call_bytes_ints hi' (reps_ints rr) hr (by have := reps_length rr; rw [this, sizeLine_eq]; simpa using hz) (G.hand rfl) fun h' t tk hk => k _ _ Z hp _ ⟨rfl, rfl⟩ (CS.ext H hk) ⟨t, rfl⟩)

/-! a list's append -/
theorem getM_append {a : Addr} {xs : List AV} (hh : Has hp a (.plain xs)) : GetM D hp (.val (.ref a)) "append" (.builtin "list.append") := by
  rintro A U Z s _ pl Q E H rfl hq
  obtain ⟨its, ⟨m, ho⟩, rr⟩ := H.objs _ hh.mem
  exact of (getMethod_builtin (T := "list") ⟨_, ho, rfl⟩ PySem.F.plainAttrs_list slot_list_append type_list_append (fun b e => by cases e; exact ⟨_, ho, rfl⟩) hq)
theorem call_append {a : Addr} {xs : List AV} {x : AV} (hh : Has hp a (.plain xs)) (w : Swap hp a (.plain (xs ++ [x])) hp') (hz : xs.length ≤ 1000000) :
    CallT cl D n (.builtin "list.append") [.val (.ref a), x] hp (fun z hp2 => z = .none ∧ hp2 = hp') := by
  intro A U Z s vs G H r Q E k
  obtain ⟨_, u, rfl, rfl, ru⟩ := reps_two r
  obtain ⟨its, hl, rr⟩ := H.objs _ hh.mem
  have e : its.size = xs.length := by have := reps_length rr; simpa using this
  refine of (wpAny_list_append_plain hl (fun h' hl' hs => ?_) (by rw [e, sizeLine_eq]; omega))
  refine k .none .none Z hp' _ ⟨rfl, rfl⟩ (CS.swap (tk := s.toks) H w hs fun zne kr => ⟨_, hl', ?_⟩) rfl
  rw [Array.toList_push]
  exact reps_append (reps_mono (fun _ z => z) (fun b o z e => (hs.2 b (zne b z)).trans e) _ rr) (reps_cons (kr _ _ ru) reps_nil)
theorem EV_ListP {es : List Expr} {pos : Pos} {P : AV → St → Prop} (h : EVs D c st es (fun xs st1 => xs.length ≤ 16777216 ∧ ∀ a, P (.val (.ref a)) ⟨st1.loc, st1.hp ++ [(a, .plain xs)]⟩)) : EV D c st (.List es pos) P := by
  intro g A Z s R Q E k
  refine List_ (h g A Z s pos R _ E ?_)
  rintro vs Z1 st1 s1 x1 ⟨xs, rx, hl, hP⟩
  refine of <| PySem.wpAny_newObj_type (k _ _ _ _ (x1.trans (Stp.cs x1.rel (CS.track x1.rel.hr (tk := s1.toks) (x := .plain xs) ⟨vs.toArray, ⟨0, Heap.get?_push_size _ rfl⟩, ?_⟩))) ⟨_, rep_val, hP _⟩) ?_
  · exact reps_mono (fun _ z => z) (fun a o _ e => push_keeps _ a o e) xs (by simpa using rx)
  · show vs.toArray.size ≤ sizeLine
    rw [List.size_toArray, reps_length rx, sizeLine_eq]
    exact hl
theorem len_plain {a : Addr} {xs : List AV} (hh : Has hp a (.plain xs)) (hl : xs.length < 2 ^ 62) : CallV cl D n (.builtin "len") [.val (.ref a)] hp (.int xs.length) := by
  intro A U Z s vs G H r Q E k
  obtain ⟨_, rfl, rfl⟩ := reps_one r
  obtain ⟨its, ho, rr⟩ := H.objs _ hh.mem
  have e : its.size = xs.length := by have := reps_length rr; simpa using this
  exact of (call_len_list ho.isList (by omega) (by rw [e]; exact k _ _ _ _ _ ⟨rfl, rfl⟩ (CS.tok H) rep_int))

/-- a tracked list and a frozen one: a new tracked list takes the old one's place -/
theorem add_turn {a : Addr} {xs ys : List AV} {P : AV → Hp → Prop} (hh : Has hp a (.list xs)) (hsz : xs.length + ys.length ≤ 16777216) (h : ∀ a', ∃ hp', Turn hp a (.list xs) a' (.list (xs ++ ys)) hp' ∧ P (.val (.ref a')) hp') :
    BinG D hp .Add (.val (.ref a)) (.list ys) P := by
  rintro A U Z s _ _ H rfl ⟨b, jts, rfl, zb, hm, qq⟩ Q E k
  obtain ⟨its, hl, rr⟩ := H.objs _ hh.mem
  refine of (add_raw (vs := its.toList) (ws := jts.toList) hl hm ?_ (by rw [reps_length rr, reps_length qq, sizeLine_eq]; exact hsz))
  obtain ⟨hp', ht, hP⟩ := h s.heap.objs.size
  have C := CS.track H (tk := s.toks) (o := { cls := .type "list", data := .seq (its.toList ++ jts.toList).toArray }) (x := .list (xs ++ ys)) ⟨_, ⟨_, Heap.get?_push_size _ rfl, rfl, _, rfl⟩, by
    simpa using reps_mono (fun _ z => z) (fun a o _ e => push_keeps _ a o e) _ (reps_append rr qq)⟩
  obtain ⟨pre, post, e1, e2⟩ := ht.split
  refine k _ _ _ hp' _ hP (C.sub (fun p hp => ?_) ?_) rep_val
  · rw [e2] at hp
    rw [e1]
    rcases List.mem_append.mp hp with q | q
    · exact List.mem_append_left _ (List.mem_append_left _ q)
    rcases List.mem_cons.mp q with q | q
    · rw [q]; exact List.mem_append_right _ (.head _)
    · exact List.mem_append_left _ (List.mem_append_right _ (.tail _ q))
  · have nd := C.hr.nodup
    rw [e1] at nd
    rw [e2]
    unfold keys at nd ⊢
    simp only [List.map_append, List.map_cons, List.map_nil] at nd ⊢
    simp only [List.nodup_append, List.nodup_cons, List.mem_append, List.mem_cons, List.not_mem_nil] at nd ⊢
    grind
theorem mul_track {x : AV} {i : Int} {P : AV → Hp → Prop} (h0 : 0 ≤ i) (h1 : i ≤ 16777216) (h : ∀ a, P (.val (.ref a)) (hp ++ [(a, .list (List.replicate i.toNat x))])) : BinG D hp .Mult (.list [x]) (.int i) P := by
  rintro A U Z s _ _ H ⟨a, its, rfl, za, hl, rr⟩ ⟨t, rfl⟩ Q E k
  obtain ⟨v, e1, rv⟩ := reps_one rr
  have ei : its = [v].toArray := by rw [← e1]
  rw [ei] at hl
  have hl' : s.heap.IsList a [v].toArray := hl
  refine of (mul_raw hl' (by omega) (by omega) (by simp; omega) (k _ _ _ _ _ (h _) (CS.track H (tk := s.toks) ⟨_, ⟨_, Heap.get?_push_size _ rfl, rfl, _, rfl⟩, ?_⟩) rep_val))
  have : ∀ m : Nat, reps Z (s.heap.push { cls := .type "list", data := .seq (List.replicate i.toNat [v]).flatten.toArray }) (List.replicate m x) (List.replicate m [v]).flatten := by
    intro m
    induction m with
    | zero => exact rfl
    | succ m ih => exact reps_cons (rep_mono (fun _ z => z) (fun a o _ e => push_keeps _ a o e) _ rv) ih
  simpa using this i.toNat
end Mine

set_option linter.unusedSimpArgs false
namespace Mine
open PySem PySem.W PySem.Calls PyProof.Rows PySem.Spec

variable {K : Frag} {D : Wd K} {c : FC} {g : Gh} {A : Around} {Z Z' Z'' : Addr → Prop} {st st' st'' : St} {s s' s'' : Shared} {U : List Addr} {hp hp' : Hp} {cl : Bool} {n : Nat}

/-! a display's own frame -/
noncomputable def relab (scope : Scope) (c : FC) : Scope :=
  { scope with names := scope.names.map fun (n, k) => if (k == .free && c.scope.kind == .function && c.scope.names.lookup n == some .cell) then (n, .cell) else (n, k) }
noncomputable abbrev cFC (c : FC) (scope : Scope) (x : Str) (fr : List Str) : FC := ⟨relab scope c, c.qual, none, c.code, x :: fr, fr, c.lvl, c.hn, false⟩
noncomputable def clf (gcl : List (Str × Addr)) : List (Str × NameKind) → List (Str × Addr) → List (Str × Addr)
  | [], acc => acc
  | (n, k) :: r, acc => clf gcl r (if k == .free then (n, (gcl.lookup n).getD 0) :: acc else acc)
theorem forIn_cl {env : Env} (f : Str × NameKind → List (Str × Addr) → Sem (ForInStep (List (Str × Addr))))
    (hf : ∀ n k cs, f (n, k) cs = if k == .free then (cellOf env n >>= fun a => pure (.yield ((n, a) :: cs))) else pure (.yield cs)) :
    ∀ (names : List (Str × NameKind)) (acc : List (Str × Addr)), (∀ p ∈ names, p.2 = .free → ∃ a, env.cells.lookup p.1 = some a) → forIn names acc f = pure (clf env.cells names acc)
  | [], acc, _ => by rw [List.forIn_nil]; rfl
  | (n, k) :: r, acc, h => by
    rw [List.forIn_cons, hf]
    unfold clf
    cases hk : k == NameKind.free with
    | false =>
      simp only [Bool.false_eq_true, if_false, pure_bind]
      exact forIn_cl f hf r acc fun p hp => h p (.tail _ hp)
    | true =>
      obtain ⟨a, ha⟩ := h (n, k) (.head _) (by simpa using hk)
      have hc : cellOf env n = pure a := by unfold cellOf; rw [ha]
      simp only [if_true, hc, pure_bind]
      rw [show (env.cells.lookup n).getD 0 = a by rw [ha]; rfl]
      exact forIn_cl f hf r _ fun p hp => h p (.tail _ hp)
theorem closure_eq {scope : Scope} {env : Env} (h : ∀ p ∈ scope.names, p.2 = .free → ∃ a, env.cells.lookup p.1 = some a) : closureFor scope env = pure (clf env.cells scope.names []) := by
  unfold closureFor
  dsimp only
  rw [forIn_cl _ (fun n k cs => ?_) scope.names [] h]
  · simp only [pure_bind]
  · cases hk : k == NameKind.free <;> simp [hk]
theorem clf_mem {gcl : List (Str × Addr)} : ∀ {names : List (Str × NameKind)} {acc : List (Str × Addr)} {y : Str} {a : Addr}, (y, a) ∈ clf gcl names acc → (y, a) ∈ acc ∨ ((y, NameKind.free) ∈ names ∧ a = (gcl.lookup y).getD 0)
  | [], _, _, _, h => .inl h
  | (n, k) :: r, acc, y, a, h => by
    unfold clf at h
    rcases clf_mem h with h | h
    · split at h
      · rename_i hk
        rcases List.mem_cons.mp h with e | h
        · cases e; exact .inr ⟨by rw [show k = NameKind.free by simpa using hk]; exact .head _, rfl⟩
        · exact .inl h
      · exact .inl h
    · exact .inr ⟨.tail _ h.1, h.2⟩
theorem clf_acc {gcl : List (Str × Addr)} : ∀ {names : List (Str × NameKind)} {acc : List (Str × Addr)} {p : Str × Addr}, p ∈ acc → p ∈ clf gcl names acc
  | [], _, _, h => h
  | (n, k) :: r, acc, p, h => by
    unfold clf
    split
    · exact clf_acc (.tail _ h)
    · exact clf_acc h
theorem clf_has {gcl : List (Str × Addr)} : ∀ {names : List (Str × NameKind)} {acc : List (Str × Addr)} {y : Str}, (y, NameKind.free) ∈ names → ∃ a, (y, a) ∈ clf gcl names acc
  | (n, k) :: r, acc, y, h => by
    unfold clf
    rcases List.mem_cons.mp h with e | h
    · cases e; exact ⟨(gcl.lookup n).getD 0, clf_acc (by simp)⟩
    · exact clf_has h
theorem clf_pair {gcl : List (Str × Addr)} : ∀ {names : List (Str × NameKind)} {acc : List (Str × Addr)}, (names.map (·.1)).Nodup → (acc.Pairwise fun x y => x.1 ≠ y.1) → (∀ p ∈ acc, p.1 ∉ names.map (·.1)) → (clf gcl names acc).Pairwise fun x y => x.1 ≠ y.1
  | [], _, _, h, _ => h
  | (n, k) :: r, acc, hn, h, hd => by
    have hn' := List.nodup_cons.mp hn
    unfold clf
    refine clf_pair hn'.2 ?_ fun p hp hm => ?_
    · split
      · refine List.pairwise_cons.mpr ⟨fun y hy e => hd y hy (e ▸ .head _), h⟩
      · exact h
    · split at hp
      · rcases List.mem_cons.mp hp with rfl | hp
        · exact hn'.1 hm
        · exact hd p hp (.tail _ hm)
      · exact hd p hp (.tail _ hm)
theorem lookup_some {α : Type} : ∀ {l : List (Str × α)} {y : Str} {a : α}, (y, a) ∈ l → ∃ b, l.lookup y = some b
  | (k, v) :: r, y, a, h => by
    rw [List.lookup_cons]
    cases e : y == k with
    | true => exact ⟨_, rfl⟩
    | false =>
      rcases List.mem_cons.mp h with q | q
      · cases q; simp at e
      · exact lookup_some q
theorem cellsFrom_app : ∀ (names : List (Str × NameKind)) (n : Nat) (acc : List (Str × Addr)), cellsFrom n names acc = cellsFrom n names [] ++ acc
  | [], _, _ => rfl
  | (y, k) :: r, n, acc => by
    unfold cellsFrom
    split
    · rw [cellsFrom_app r _ ((y, n) :: acc), cellsFrom_app r _ [(y, n)]]; simp
    · exact cellsFrom_app r n acc
theorem cellsFrom_mem : ∀ {names : List (Str × NameKind)} {n : Nat} {y : Str} {a : Addr}, (y, a) ∈ cellsFrom n names [] → (y, NameKind.cell) ∈ names
  | (m, k) :: r, n, y, a, h => by
    unfold cellsFrom at h
    split at h
    · rename_i hk
      rw [cellsFrom_app] at h
      rcases List.mem_append.mp h with h | h
      · exact .tail _ (cellsFrom_mem h)
      · cases List.mem_singleton.mp h
        rw [show k = NameKind.cell by simpa using hk]; exact .head _
    · exact .tail _ (cellsFrom_mem h)

noncomputable def compOk (c : FC) (scope : Scope) (x : Str) (fr : List Str) : Bool :=
  scope.kind == .function && c.scope.kind == .function && (scope.names.all fun p => p.2 != .free || fr.contains p.1) && (fr.all fun n => c.scope.names.lookup n == some .cell) &&
  (fr.all fun n => (relab scope c).names.lookup n == some .cell) && (fr.all fun n => scope.names.all fun p => !(p.2 == .cell && p.1 == n)) && (fr.all fun n => scope.names.any fun p => p.1 == n && p.2 == .free) &&
  (scope.names.all fun p => p.2 != .local || scope.names.lookup p.1 == some .local) &&
  ((relab scope c).names.lookup x == some .local || (scope.names.lookup x == some .cell && (relab scope c).names.lookup x == some .cell)) &&
  decide (x :: fr).Nodup && ((x :: fr).all fun y => !(y == ("__debug__" : Str))) && decide (scope.names.map (·.1)).Nodup
inductive Capt (loc : Loc) : List Str → Loc → Prop
  | nil : Capt loc [] []
  | cons {n v ns fl} : Look loc n v → Capt loc ns fl → Capt loc (n :: ns) ((n, some v) :: fl)
theorem Capt.names {loc : Loc} {fr : List Str} {fl : Loc} (C : Capt loc fr fl) : fl.map (·.1) = fr := by
  induction C with
  | nil => rfl
  | cons _ _ ih => simp [ih]

theorem newEnv_comp {M : Model} {B : PySem.Around} {E : Value → Shared → Prop} {scope : Scope} {globals : Addr} {clo : List (Str × Addr)} {qual : Str} {env : Env} {Q : Env → Shared → Prop}
    (h : Q { scope := scope, locals := s.heap.objs.size, globals := globals, cells := cellsFrom (s.heap.objs.size + 1) scope.names clo, qual := qual, func := none, code := env.code, frame := env.frame, builtins := env.builtins }
      { s with heap := pushCells (s.heap.push { cls := .type "dict", data := .dict #[] }) scope.names }) :
    PySem.wpAny M B (newFunctionEnv scope globals clo [] qual none .none (some env)) Q E s := by
  simp only [newFunctionEnv, Option.isSome_some, if_true]
  refine PySem.wpAny_bind (PySem.wpAny_alloc ?_)
  refine PySem.wpAny_bind (wpAny_layCells _ (fun name kind cells => by cases hkc : kind == NameKind.cell <;> simp [hkc]) _ _ _ _ ?_)
  rw [show ({ s with heap := s.heap.push { cls := .type "dict", data := .dict #[] } } : Shared).heap.objs.size = s.heap.objs.size + 1 from Heap.size_push ..]
  exact PySem.wpAny_bind (PySem.wpAny_pure (PySem.wpAny_pure h))

theorem CS.touch (C : CS D U Z hp s Z' hp' s') {h' : Heap} {tk : Nat} {wr : List Addr} (k : ∀ b o, b ∉ wr → s'.heap.get? b = some o → h'.get? b = some o)
    (hw : ∀ b ∈ wr, s.heap.get? b = none ∧ D.h₀.get? b = none ∧ b ∉ keys hp' ∧ ¬ Z' b ∧ b ∉ U) : CS D U Z hp s Z' hp' { s' with heap := h', toks := tk } := by
  have old : ∀ b, (∃ o, s.heap.get? b = some o) → b ∉ wr := fun b e hm => dead_live (hw b hm).1 e
  have zk : ∀ a o, Z' a → s'.heap.get? a = some o → h'.get? a = some o := fun a o z e => k a o (fun hm => (hw a hm).2.2.2.1 z) e
  obtain ⟨h1, tk1, e1⟩ := C.sh
  refine ⟨⟨fun b o e => k b o (fun hm => by rw [(hw b hm).2.1] at e; cases e) (C.hr.base b o e), fun p hp => repO_mono (fun _ z => z) zk (fun o e => k _ o (fun hm => (hw _ hm).2.2.1 (List.mem_map_of_mem hp)) e) (C.hr.objs p hp), C.hr.nodup, C.hr.off, C.hr.zu,
    fun a z => let ⟨o, e⟩ := C.hr.zlt a z; ⟨o, zk a o z e⟩, fun a ha => ⟨let ⟨o, e⟩ := (C.hr.ult a ha).1; ⟨o, k a o (fun hm => (hw a hm).2.2.2.2 ha) e⟩, (C.hr.ult a ha).2⟩⟩,
    ⟨fun b o hb hu e => k b o (old b ⟨_, e⟩) (C.tr.keep b o hb hu e), fun b hu hb o e => ?_, C.tr.zsub, C.tr.znew, fun b o e => ?_⟩, C.knew, h', tk, by rw [e1]⟩
  · obtain ⟨sl, q⟩ := C.tr.ups b hu hb o e; exact ⟨sl, k b _ (old b ⟨_, e⟩) q⟩
  · obtain ⟨o', q⟩ := C.tr.live b o e
    exact ⟨o', k b _ (old b ⟨_, e⟩) q⟩
theorem CS.step {c' : FC} {g' : Gh} {A' : Around} {Z3 Z5 : Addr → Prop} {st3 st5 : St} {s3 s5 : Shared} (C : CS D U Z hp s Z3 st3.hp s3) (x : Stp D c' g' A' Z3 st3 s3 Z5 st5 s5) (hU : g'.U = U) (hw : ∀ b ∈ g'.L :: g'.own, s.heap.get? b = none) : CS D U Z hp s Z5 st5.hp s5 := by
  subst hU
  refine ⟨x.rel.hr, C.tr.trans x.tr fun b hb => ?_, fun k hk => ?_, ?_⟩
  · unfold wset at hb
    rcases List.mem_cons.mp hb with rfl | hb
    · exact .inr (hw _ (.head _))
    rcases List.mem_append.mp hb with hb | hb
    · exact .inr (hw _ (.tail _ hb))
    · exact C.knew b hb
  · rcases x.knew k hk with q | q
    · exact C.knew k q
    · exact .inr (C.tr.dead q)
  · obtain ⟨h1, t1, e1⟩ := C.sh
    obtain ⟨h2, t2, e2⟩ := x.sh
    exact ⟨h2, t2, by rw [e2, e1]⟩
theorem CS.freezeNew {a : Addr} (C : CS D U Z hp s Z' hp' s') (hd : s.heap.get? a = none) (hl : ∃ o, s'.heap.get? a = some o) (hk : a ∉ keys hp') (hu : a ∉ U) : CS D U Z hp s (ZZ Z' a) hp' s' :=
  ⟨C.hr.freeze hl hk hu, ⟨C.tr.keep, C.tr.ups, fun b z => .inl (C.tr.zsub b z), fun b z => z.elim (C.tr.znew b) fun (e : b = a) => .inr (.inr (by rw [e]; exact hd)), C.tr.live⟩, C.knew, C.sh⟩
theorem Rel.touch (R : Rel D c g A Z st s) {h' : Heap} {tk : Nat} {wr : List Addr} (k : ∀ b o, b ∉ wr → s.heap.get? b = some o → h'.get? b = some o)
    (hw : ∀ b ∈ wr, D.h₀.get? b = none ∧ b ∉ keys st.hp ∧ ¬ Z b ∧ b ∉ g.U ∧ b ≠ g.L ∧ ∀ x a, g.cl.lookup x = some a → a ≠ b) : Rel D c g A Z st { s with heap := h', toks := tk } := by
  have zk : ∀ a o, Z a → s.heap.get? a = some o → h'.get? a = some o := fun a o z e => k a o (fun hm => (hw a hm).2.2.1 z) e
  have ck : ∀ x a, g.cl.lookup x = some a → ∀ o, s.heap.get? a = some o → h'.get? a = some o := fun x a hx o e => k a o (fun hm => (hw a hm).2.2.2.2.2 x a hx rfl) e
  have uk : ∀ b ∈ g.U, ∀ o, s.heap.get? b = some o → h'.get? b = some o := fun b hb o e => k b o (fun hm => (hw b hm).2.2.2.1 hb) e
  obtain ⟨m, ⟨oL, es, ep, ho, hr⟩, hl⟩ := R.ns
  have hL : h'.get? g.L = some oL := k _ _ (fun hm => (hw _ hm).2.2.2.2.1 rfl) ho
  refine ⟨⟨fun b o e => k b o (fun hm => by rw [(hw b hm).1] at e; cases e) (R.hr.base b o e), fun p hp => repO_mono (fun _ z => z) zk (fun o e => k _ o (fun hm => (hw _ hm).2.1 (List.mem_map_of_mem hp)) e) (R.hr.objs p hp), R.hr.nodup, R.hr.off, R.hr.zu,
    fun a z => let ⟨o, e⟩ := R.hr.zlt a z; ⟨o, zk a o z e⟩, fun a ha => ⟨let ⟨o, e⟩ := (R.hr.ult a ha).1; ⟨o, uk a ha o e⟩, (R.hr.ult a ha).2⟩⟩,
    ⟨m, ⟨oL, es, ep, hL, hr⟩, hl.mono ck (fun _ z => z) zk⟩, R.names, R.Lz, R.Lk, R.L0, fun x a hx => ?_, R.dist, R.own, R.cvar, R.fu, ?_, R.ok⟩
  · obtain ⟨⟨ov, o, e1, e2⟩, r⟩ := R.cell x a hx
    exact ⟨⟨ov, o, ck x a hx o e1, e2⟩, r⟩
  · obtain ⟨envs, f1, f2, f3⟩ := R.good.fr
    exact ⟨R.good.hand, R.good.cln, R.good.gds, R.good.dep, R.good.uni, envs, f1, funFrames_ups (fun b hb o ho hd => ⟨o, uk b hb o ho, hd⟩) f2 f3, f3⟩
end Mine

set_option linter.unusedSimpArgs false
namespace Mine
open PySem PySem.W PySem.Calls PyProof.Rows PySem.Spec

variable {K : Frag} {D : Wd K} {c : FC} {g : Gh} {A : Around} {Z Z' Z'' : Addr → Prop} {st st' st'' : St} {s s' s'' : Shared} {U : List Addr} {hp hp' : Hp} {cl : Bool} {n : Nat}

noncomputable def compCl (g : Gh) (scope : Scope) (C : Addr) : List (Str × Addr) := cellsFrom (C + 1) scope.names (clf g.cl scope.names [])
noncomputable def compGh (g : Gh) (scope : Scope) (x : Str) (C : Addr) : Gh := ⟨C, g.F, compCl g scope C, ((cellsFrom (C + 1) scope.names []).lookup x).toList, g.U⟩

theorem compCl_old {g : Gh} {scope : Scope} {C : Addr} {y : Str} {a : Addr} (hfree : ∀ p ∈ scope.names, p.2 = .free → ∃ a, g.cl.lookup p.1 = some a) (hn : ∀ p ∈ scope.names, ¬ (p.2 = .cell ∧ p.1 = y)) (hf : (y, NameKind.free) ∈ scope.names) (h : g.cl.lookup y = some a) :
    (compCl g scope C).lookup y = some a := by
  unfold compCl
  rw [cellsFrom_app, List.lookup_append]
  have e1 : (cellsFrom (C + 1) scope.names []).lookup y = none := by
    cases q : (cellsFrom (C + 1) scope.names []).lookup y with
    | none => rfl
    | some b => exact absurd ⟨rfl, rfl⟩ (hn _ (cellsFrom_mem (mem_of_lookup q)))
  rw [e1]
  obtain ⟨b, hb⟩ := clf_has (gcl := g.cl) (acc := []) hf
  obtain ⟨d, hd⟩ := lookup_some hb
  rw [hd]
  rcases clf_mem (mem_of_lookup hd) with q | q
  · cases q
  · rw [q.2, h]; rfl
theorem compCl_mem {g : Gh} {scope : Scope} {C : Addr} {y : Str} {a : Addr} (hfree : ∀ p ∈ scope.names, p.2 = .free → ∃ a, g.cl.lookup p.1 = some a) (h : (y, a) ∈ compCl g scope C) :
    (y, a) ∈ cellsFrom (C + 1) scope.names [] ∨ g.cl.lookup y = some a := by
  unfold compCl at h
  rw [cellsFrom_app] at h
  rcases List.mem_append.mp h with q | q
  · exact .inl q
  · rcases clf_mem q with q | q
    · cases q
    · obtain ⟨b, hb⟩ := hfree _ q.1 rfl
      exact .inr (by rw [q.2]; rw [hb]; rfl)

/-- the display's own frame, laid -/
theorem comp_rel (R : Rel D c g A Z st s) (hcl : c.cl = false) {scope : Scope} {x : Str} {fr : List Str} {fl : Loc} (ok : compOk c scope x fr = true) (cap : Capt st.loc fr fl) {h₁ : Heap} (hk : ∀ b o, s.heap.get? b = some o → h₁.get? b = some o) {tk : Nat} :
    Rel D (cFC c scope x fr) (compGh g scope x h₁.objs.size) ⟨A.toAround, false⟩ Z ⟨(x, none) :: fl, st.hp⟩ { s with heap := pushCells (h₁.push { cls := .type "dict", data := .dict #[] }) scope.names, toks := tk } ∧
      (∀ p ∈ scope.names, p.2 = .free → ∃ a, g.cl.lookup p.1 = some a) ∧ (∀ b ∈ (compGh g scope x h₁.objs.size).L :: (compGh g scope x h₁.objs.size).own, h₁.get? b = none) := by
  unfold compOk at ok
  simp only [Bool.and_eq_true, List.all_eq_true, List.any_eq_true, Bool.or_eq_true, beq_iff_eq, bne_iff_ne, decide_eq_true_eq, Bool.not_eq_true', List.contains_iff_mem, ne_eq, beq_eq_false_iff_ne] at ok
  obtain ⟨⟨⟨⟨⟨⟨⟨⟨⟨⟨⟨o1, o2⟩, o3⟩, o4⟩, o5⟩, o6⟩, o7⟩, o8⟩, o9⟩, o10⟩, o11⟩, o12⟩ := ok
  have caps : ∀ n ∈ fr, ∃ v a u, Look st.loc n v ∧ g.cl.lookup n = some a ∧ s.heap.IsCell a (some u) ∧ rep Z s.heap v u := by
    intro n hn
    have : ∃ v, Look st.loc n v := by
      clear o3 o4 o5 o6 o7 o10 o11
      induction cap with
      | nil => cases hn
      | cons L _ ih =>
        rcases List.mem_cons.mp hn with rfl | hn
        · exact ⟨_, L⟩
        · exact ih hn
    obtain ⟨v, L⟩ := this
    obtain ⟨m, hm, hl⟩ := R.ns
    obtain ⟨u, hu, ru⟩ := L.held hl
    unfold Held at hu
    rw [if_pos (show c.isCell n = true by unfold FC.isCell; rw [o4 n hn]; rfl)] at hu
    obtain ⟨a, e1, e2⟩ := hu
    exact ⟨v, a, u, L, e1, e2, ru⟩
  have hfree : ∀ p ∈ scope.names, p.2 = .free → ∃ a, g.cl.lookup p.1 = some a := fun p hp hf => by
    rcases o3 p hp with q | q
    · exact absurd hf q
    · obtain ⟨v, a, u, _, e, _⟩ := caps p.1 q; exact ⟨a, e⟩
  let C := h₁.objs.size
  have dead : ∀ a, C ≤ a → h₁.get? a = none := fun a ha => by
    cases e : h₁.get? a with
    | none => rfl
    | some o => exact absurd (Heap.lt_size e) (Nat.not_lt.mpr ha)
  have sdead : ∀ a, h₁.get? a = none → s.heap.get? a = none := fun a e => by
    cases q : s.heap.get? a with
    | none => rfl
    | some o => rw [hk a o q] at e; cases e
  have fresh : ∀ a, C ≤ a → ¬ Z a ∧ a ∉ keys st.hp ∧ a ∉ g.U ∧ D.h₀.get? a = none := fun a ha => by
    have d := sdead a (dead a ha)
    refine ⟨fun z => dead_live d (R.hr.zlt a z), fun hm => ?_, fun hu => dead_live d (R.hr.ult a hu).1, ?_⟩
    · obtain ⟨p, hp, rfl⟩ := List.mem_map.mp hm; exact dead_live d (repO_live (R.hr.objs p hp))
    · cases q : D.h₀.get? a with
      | none => rfl
      | some o => rw [R.hr.base a o q] at d; cases d
  let h4 := pushCells (h₁.push { cls := .type "dict", data := .dict #[] }) scope.names
  have k4 : ∀ b o, s.heap.get? b = some o → h4.get? b = some o := fun b o e => pushCells_keeps _ _ b o (Heap.get?_push_of_some _ (hk b o e))
  have okc := cellsFrom_ok scope.names (h₁.push { cls := .type "dict", data := .dict #[] }) (C + 1) [] ⟨fun _ _ hm => (nomatch hm), List.Pairwise.nil⟩ (by rw [Heap.size_push]; exact Nat.le_refl _)
  rw [Heap.size_push] at okc
  have locs : ∀ {fr' : List Str} {fl' : Loc}, Capt st.loc fr' fl' → (∀ n ∈ fr', n ∈ fr) → Locs (cFC c scope x fr) (compGh g scope x C) Z h4 (fun _ => none) fl' := by
    intro fr' fl' cap'
    induction cap' with
    | nil => exact fun _ => trivial
    | @cons nm v ns fl0 L _ ih =>
      intro hin
      refine ⟨fun w hw => ?_, ih fun n hn => hin n (.tail _ hn)⟩
      cases hw
      have hn := hin nm (.head _)
      obtain ⟨m, hm, hl⟩ := R.ns
      obtain ⟨u, hu, ru⟩ := L.held hl
      unfold Held at hu
      rw [if_pos (show c.isCell nm = true by unfold FC.isCell; rw [o4 nm hn]; rfl)] at hu
      obtain ⟨a, e1, o, e2, e3⟩ := hu
      refine ⟨u, ?_, rep_mono (fun _ z => z) (fun a o _ e => k4 a o e) v ru⟩
      unfold Held
      rw [if_pos (show (cFC c scope x fr).isCell nm = true by unfold FC.isCell; rw [o5 nm hn]; rfl)]
      obtain ⟨p, hp, hp1, hp2⟩ := o7 nm hn
      refine ⟨a, compCl_old hfree (fun q hq hc => ?_) (by rw [← hp1, ← hp2]; exact hp) e1, o, k4 _ _ e2, e3⟩
      have := o6 nm hn q hq
      simp only [Bool.and_eq_false_iff, beq_eq_false_iff_ne, ne_eq] at this
      rcases this with t | t
      · exact t hc.1
      · exact t hc.2
  refine ⟨⟨R.hr.ext k4, ⟨_, (Heap.Ns.new h₁ (.type "dict")).keeps (pushCells_keeps _ _), ⟨fun v e => (nomatch e), locs cap fun _ h => h⟩⟩, by show x :: fl.map (·.1) = x :: fr; rw [cap.names], (fresh C (Nat.le_refl _)).1, (fresh C (Nat.le_refl _)).2.1, (fresh C (Nat.le_refl _)).2.2.2, fun y a hy => ?_, ?_, fun a ha => ?_, fun y hy hc => ?_, R.fu, ?_, ?_⟩, hfree, fun b hb => ?_⟩
  · rcases compCl_mem hfree (mem_of_lookup hy) with q | q
    · obtain ⟨e1, e2⟩ := okc.empty y a q
      have f := fresh a (by omega)
      exact ⟨⟨_, e1⟩, f.1, f.2.1, f.2.2.1, f.2.2.2⟩
    · obtain ⟨⟨ov, o, e1, e2⟩, r⟩ := R.cell y a q
      exact ⟨⟨ov, o, k4 _ _ e1, e2⟩, r⟩
  · show (compCl g scope C).Pairwise _
    unfold compCl
    rw [cellsFrom_app]
    refine List.pairwise_append.mpr ⟨okc.apart, ?_, fun p hp q hq e => ?_⟩
    · refine (clf_pair (gcl := g.cl) o12 List.Pairwise.nil (fun p hp => nomatch hp)).imp_of_mem ?_
      intro p q hp hq hne e
      rcases clf_mem (y := p.1) (a := p.2) hp with t | t
      · cases t
      rcases clf_mem (y := q.1) (a := q.2) hq with t' | t'
      · cases t'
      obtain ⟨a, ha⟩ := hfree _ t.1 rfl
      obtain ⟨b, hb⟩ := hfree _ t'.1 rfl
      have e1 : p.2 = a := by rw [t.2]; rw [ha]; rfl
      have e2 : q.2 = b := by rw [t'.2]; rw [hb]; rfl
      have e3 : a = b := by rw [← e1, ← e2, e]
      exact hne (name_of_addr R.dist (mem_of_lookup ha) (e3 ▸ mem_of_lookup hb))
    · obtain ⟨e1, e2⟩ := okc.empty p.1 p.2 hp
      rcases clf_mem (y := q.1) (a := q.2) hq with t | t
      · cases t
      obtain ⟨a, ha⟩ := hfree _ t.1 rfl
      have e3 : q.2 = a := by rw [t.2]; rw [ha]; rfl
      obtain ⟨⟨ov, o, e4, _⟩, _⟩ := R.cell _ _ ha
      have := Heap.lt_size (hk _ _ e4)
      have e5 : p.2 = a := e.trans e3
      exact absurd this (Nat.not_lt.mpr (Nat.le_of_succ_le (e5 ▸ e2)))
  · have ha' : (cellsFrom (C + 1) scope.names []).lookup x = some a := by
      have : a ∈ ((cellsFrom (C + 1) scope.names []).lookup x).toList := ha
      cases q : (cellsFrom (C + 1) scope.names []).lookup x with
      | none => rw [q] at this; cases this
      | some b => rw [q] at this; cases List.mem_singleton.mp this; rfl
    refine ⟨x, ?_⟩
    show (compCl g scope C).lookup x = some a
    unfold compCl
    rw [cellsFrom_app, List.lookup_append, ha']; rfl
  · rcases List.mem_cons.mp hy with rfl | hy
    · rcases o9 with q | q
      · exact absurd hc (by unfold FC.isCell; rw [show (cFC c scope y fr).scope = relab scope c from rfl, q]; decide)
      · obtain ⟨a, ha⟩ := cellsFrom_has scope.names (C + 1) [] y q.1
        refine ⟨a, ?_, fun _ => ?_⟩
        · show (compCl g scope C).lookup y = some a
          unfold compCl
          rw [cellsFrom_app, List.lookup_append, ha]; rfl
        · show a ∈ ((cellsFrom (C + 1) scope.names []).lookup y).toList
          rw [ha]; exact .head _
    · obtain ⟨v, a, u, _, e1, _⟩ := caps y hy
      obtain ⟨p, hp, hp1, hp2⟩ := o7 y hy
      refine ⟨a, compCl_old hfree (fun q hq hc => ?_) (by rw [← hp1, ← hp2]; exact hp) e1, fun hf => absurd hy hf⟩
      have := o6 y hy q hq
      simp only [Bool.and_eq_false_iff, beq_eq_false_iff_ne, ne_eq] at this
      rcases this with t | t
      · exact t hc.1
      · exact t hc.2
  · obtain ⟨envs, f1, f2, f3⟩ := R.good.fr
    exact ⟨R.good.hand, (fun e => nomatch e), R.good.gds, R.good.dep, R.good.uni, envs, f1, funFrames_ups (fun b hb o ho hd => ⟨o, k4 b o ho, hd⟩) f2 f3, f3⟩
  · refine ⟨o1, fun y hy => ?_, o10, fun y hy => by simpa using o11 y hy⟩
    rcases List.mem_cons.mp hy with rfl | hy
    · rcases o9 with q | q
      · exact .inl q
      · exact .inr q.2
    · exact .inr (o5 y hy)
  · rcases List.mem_cons.mp hb with rfl | hb
    · exact dead _ (Nat.le_refl _)
    · have hb' : b ∈ ((cellsFrom (C + 1) scope.names []).lookup x).toList := hb
      cases q : (cellsFrom (C + 1) scope.names []).lookup x with
      | none => rw [q] at hb'; cases hb'
      | some a =>
        rw [q] at hb'
        cases List.mem_singleton.mp hb'
        exact dead _ (by have := (okc.empty _ _ (mem_of_lookup q)).2; omega)
end Mine

set_option linter.unusedSimpArgs false
namespace Mine
open PySem PySem.W PySem.Calls PyProof.Rows PySem.Spec

variable {K : Frag} {D : Wd K} {c : FC} {g : Gh} {A : Around} {Z Z' Z'' : Addr → Prop} {st st' st'' : St} {s s' s'' : Shared} {U : List Addr} {hp hp' : Hp} {cl : Bool} {n : Nat}

/-- what a turn of a display does -/
noncomputable def CompI (D : Wd K) (c' : FC) (x : Str) (fl : Loc) (elt : Expr) (xs : List AV) (I : Nat → List AV → Hp → Prop) : Prop :=
  ∀ i y acc hp1, xs[i]? = some y → I i acc hp1 → EV D c' ⟨(x, some y) :: fl, hp1⟩ elt (fun z st2 => st2.loc = (x, some y) :: fl ∧ I (i + 1) (acc ++ [z]) st2.hp)

theorem comp_block (R : Rel D c g A Z st s) (hcl : c.cl = false) (hn : c.hn = true) {scope : Scope} {x : Str} {px : Pos} {iter elt : Expr} {pos : Pos} {fr : List Str} {fl : Loc} (ok : compOk c scope x fr = true) (cap : Capt st.loc fr fl) (hxf : x ∉ fr)
    {xs : List AV} (hz : xs.length ≤ 16777216) {s₂ : Shared} (hsh : ∃ h' tk, s₂ = { s with heap := h', toks := tk }) (hk2 : ∀ b o, s.heap.get? b = some o → s₂.heap.get? b = some o) {it : Value} (hit : ItAt D c g A Z s s₂ xs it)
    {I : Nat → List AV → Hp → Prop} (h0 : I 0 [] st.hp) (hI : CompI D (cFC c scope x fr) x fl elt xs I) {E : Value → Shared → Prop} {RR : Value → Addr → Result → Shared → Prop}
    (hRR : ∀ Dl C Z3 hp3 s3 acc m, CS D g.U Z st.hp s Z3 hp3 s3 → rep Z3 s3.heap (.list acc) (.ref Dl) → s.heap.get? C = none → C ∉ keys hp3 → ¬ Z3 C → C ∉ g.U → D.h₀.get? C = none → s3.heap.Ns C m → acc.length = xs.length → I xs.length acc hp3 → RR (.ref Dl) C (.ok .next) s3) :
    PySem.wpAny D.M A.toAround (newList []) (fun acc s₃ => PySem.wpAny D.M A.toAround (newFunctionEnv scope mainGlobals (clf g.cl scope.names []) [] c.qual none .none (some (c.env g))) (fun cenv s₄ =>
      PySem.codeAny D.M A.toAround (.compStart (.ListComp elt [⟨.Name x px, iter, [], 0⟩] scope pos) 0 it acc { cenv with scope := relabel scope (c.env g) }) (RR acc cenv.locals) s₄) E s₃) E s₂ := by
  obtain ⟨h₂, tk₂, rfl⟩ := hsh
  obtain ⟨II, fp, wr, PP, Stt, rfl, W, hst, hwr, hfp, hlive, hval⟩ := hit
  refine PySem.wpAny_newObj_type (newEnv_comp ?_)
  have hk3 : ∀ b o, s.heap.get? b = some o → (h₂.push { cls := .type "list", dict := none, data := .seq ([] : List Value).toArray }).get? b = some o := fun b o e => Heap.get?_push_of_some _ (hk2 b o e)
  generalize hH : h₂.push { cls := .type "list", dict := none, data := .seq ([] : List Value).toArray } = H at hk3 ⊢
  have hDl : H.IsList h₂.objs.size #[] := hH ▸ ⟨_, Heap.get?_push_size _ rfl, rfl, _, rfl⟩
  have hkH : ∀ b o, h₂.get? b = some o → H.get? b = some o := fun b o e => hH ▸ Heap.get?_push_of_some _ e
  obtain ⟨R4, hfree, hown⟩ := comp_rel R hcl ok cap hk3 (tk := tk₂)
  -- the base's facts
  have sdead : ∀ a, h₂.get? a = none → s.heap.get? a = none := fun a e => by
    cases q : s.heap.get? a with
    | none => rfl
    | some o => rw [hk2 a o q] at e; cases e
  have Hdead : ∀ a, H.get? a = none → s.heap.get? a = none := fun a e => by
    cases q : s.heap.get? a with
    | none => rfl
    | some o => rw [hk3 a o q] at e; cases e
  have b0 : ∀ a, s.heap.get? a = none → D.h₀.get? a = none := fun a d => by
    cases q : D.h₀.get? a with
    | none => rfl
    | some o => rw [R.hr.base a o q] at d; cases d
  have uoff : ∀ a, s.heap.get? a = none → a ∉ g.U := fun a d hu => dead_live d (R.hr.ult a hu).1
  have zoff : ∀ a, s.heap.get? a = none → ¬ Z a := fun a d z => dead_live d (R.hr.zlt a z)
  have koff : ∀ a, s.heap.get? a = none → a ∉ keys st.hp := fun a d hm => by
    obtain ⟨p, hp, rfl⟩ := List.mem_map.mp hm; exact dead_live d (repO_live (R.hr.objs p hp))
  let Dl := h₂.objs.size
  let C := H.objs.size
  have dDl : s.heap.get? Dl = none := sdead _ dead_size
  have dC : s.heap.get? C = none := Hdead _ dead_size
  have hDlH : ∃ o, H.get? Dl = some o := let ⟨o, e, _⟩ := hDl; ⟨o, e⟩
  have wrH : ∀ b ∈ wr, ∃ o, H.get? b = some o := fun b hb => let ⟨o, e⟩ := hlive 0 _ b hst hb; ⟨o, hkH b o e⟩
  have Dlwr : Dl ∉ wr := fun hm => dead_live dead_size (hlive 0 _ _ hst hm)
  have Dlfp : Dl ∉ fp := fun hm => (hfp _ hm).elim Dlwr (zoff _ dDl)
  -- the cells of the display lie apart from the machine's own things
  have cells : ∀ b, (∃ o, H.get? b = some o) → s.heap.get? b = none → b ≠ C ∧ ∀ y a, (compCl g scope C).lookup y = some a → a ≠ b := by
    intro b hb hd
    refine ⟨fun e => dead_live (e ▸ dead_size) hb, fun y a hy e => ?_⟩
    rcases compCl_mem hfree (mem_of_lookup hy) with q | q
    · have okc := cellsFrom_ok scope.names (H.push { cls := .type "dict", data := .dict #[] }) (C + 1) [] ⟨fun _ _ hm => (nomatch hm), List.Pairwise.nil⟩ (by rw [Heap.size_push]; exact Nat.le_refl _)
      rw [Heap.size_push] at okc
      have e2 := (okc.empty y a q).2
      obtain ⟨o, ho⟩ := hb
      have := Heap.lt_size ho
      exact absurd this (Nat.not_lt.mpr (Nat.le_of_succ_le (e ▸ e2)))
    · obtain ⟨⟨ov, o, e4, _⟩, _⟩ := R.cell _ _ q
      rw [e, hd] at e4; cases e4
  have own : ∀ b ∈ Dl :: wr, s.heap.get? b = none ∧ ∃ o, H.get? b = some o := fun b hb => by
    rcases List.mem_cons.mp hb with rfl | hb
    · exact ⟨dDl, hDlH⟩
    · exact ⟨hwr b hb, wrH b hb⟩
  have ownW : ∀ b ∈ Dl :: wr, ∀ hp1, b ∉ keys hp1 → b ∉ wset (compGh g scope x C) hp1 := fun b hb hp1 hk hm => by
    have f := own b hb
    have cc := cells b f.2 f.1
    rcases List.mem_cons.mp hm with e | hm
    · exact cc.1 e
    rcases List.mem_append.mp hm with hm | hm
    · obtain ⟨y, hy⟩ := R4.own b hm
      exact cc.2 y b hy rfl
    · exact hk hm
  let c' := cFC c scope x fr
  let g' := compGh g scope x C
  let A0 : Around := ⟨A.toAround, false⟩
  let J : Nat → Shared → Prop := fun n s' => ∃ i Z' hp1 acc its o, n = xs.length - i ∧ i ≤ xs.length ∧ acc.length = i ∧ CS D g.U Z st.hp s Z' hp1 s' ∧ Rel D c' g' A0 Z' ⟨(x, o) :: fl, hp1⟩ s' ∧ Stt i s'.heap ∧ s'.heap.IsList Dl its ∧ reps Z' s'.heap acc its.toList ∧
    (∀ b ∈ Dl :: wr, b ∉ keys hp1 ∧ ¬ Z' b) ∧ I i acc hp1
  have tooff : ∀ {hp1 : Hp} {Z1 : Addr → Prop} {wr' : List Addr}, (∀ b ∈ wr', b ∈ Dl :: wr) → (∀ b ∈ Dl :: wr, b ∉ keys hp1 ∧ ¬ Z1 b) →
      (∀ b ∈ wr', D.h₀.get? b = none ∧ b ∉ keys hp1 ∧ ¬ Z1 b ∧ b ∉ g'.U ∧ b ≠ g'.L ∧ ∀ x a, g'.cl.lookup x = some a → a ≠ b) ∧ (∀ b ∈ wr', s.heap.get? b = none ∧ D.h₀.get? b = none ∧ b ∉ keys hp1 ∧ ¬ Z1 b ∧ b ∉ g.U) := by
    intro hp1 Z1 wr' hsub ho
    refine ⟨fun b hb => ?_, fun b hb => ?_⟩
    · have f := own b (hsub b hb)
      have cc := cells b f.2 f.1
      exact ⟨b0 b f.1, (ho b (hsub b hb)).1, (ho b (hsub b hb)).2, uoff b f.1, cc.1, cc.2⟩
    · have f := own b (hsub b hb)
      exact ⟨f.1, b0 b f.1, (ho b (hsub b hb)).1, (ho b (hsub b hb)).2, uoff b f.1⟩
  have stay : ∀ {Za sta sa Zb stb sb i acc} {its : Array Value}, Rel D c' g' A0 Za sta sa → Stp D c' g' A0 Za sta sa Zb stb sb → (∀ a, Z a → Za a) → Stt i sa.heap → sa.heap.IsList Dl its → reps Za sa.heap acc its.toList → (∀ b ∈ Dl :: wr, b ∉ keys sta.hp ∧ ¬ Za b) →
      Stt i sb.heap ∧ sb.heap.IsList Dl its ∧ reps Zb sb.heap acc its.toList ∧ ∀ b ∈ Dl :: wr, b ∉ keys stb.hp ∧ ¬ Zb b := by
    intro Za sta sa Zb stb sb i acc its Ra xa hzz hS hL hr ho
    have keep : ∀ b ∈ Dl :: wr, ∀ o, sa.heap.get? b = some o → sb.heap.get? b = some o := fun b hb o e => xa.tr.keep b o (ownW b hb _ (ho b hb).1) (uoff b (own b hb).1) e
    have live : ∀ b ∈ Dl :: wr, ∃ o, sa.heap.get? b = some o := fun b hb => by
      rcases List.mem_cons.mp hb with rfl | hb
      · obtain ⟨o, e, _⟩ := hL; exact ⟨o, e⟩
      · exact hlive _ _ b hS hb
    refine ⟨W.frame _ _ _ hS fun b hb o e => ?_, ?_, xa.reps Ra hr, fun b hb => ⟨fun hm => ?_, fun z => ?_⟩⟩
    · rcases hfp b hb with q | q
      · exact keep b (.tail _ q) o e
      · exact xa.zk Ra b o (hzz b q) e
    · obtain ⟨o, e, q⟩ := hL; exact ⟨o, keep _ (.head _) o e, q⟩
    · rcases xa.knew b hm with q | q
      · exact (ho b hb).1 q
      · exact dead_live q (live b hb)
    · rcases xa.tr.znew b z with q | q | q
      · exact (ho b hb).2 q
      · exact ownW b hb _ (ho b hb).1 q
      · exact dead_live q (live b hb)
  have start : CS D g.U Z st.hp s Z st.hp { s with heap := pushCells (H.push { cls := .type "dict", data := .dict #[] }) scope.names, toks := tk₂ } :=
    CS.ext R.hr fun b o e => pushCells_keeps _ _ b o (Heap.get?_push_of_some _ (hk3 b o e))
  have k4 : ∀ b o, H.get? b = some o → (pushCells (H.push { cls := .type "dict", data := .dict #[] }) scope.names).get? b = some o := fun b o e => pushCells_keeps _ _ b o (Heap.get?_push_of_some _ e)
  have st4 : Stt 0 (pushCells (H.push { cls := .type "dict", data := .dict #[] }) scope.names) := W.frame _ _ _ hst fun b _ o e => k4 b o (hkH b o e)
  have loop : PySem.codeAny D.M A.toAround (.compLoop (.ListComp elt [⟨.Name x px, iter, [], 0⟩] scope pos) 0 (.ref II) (.ref Dl) (c'.env g')) (RR (.ref Dl) C) { s with heap := pushCells (H.push { cls := .type "dict", data := .dict #[] }) scope.names, toks := tk₂ } := by
    refine codeAny_compLoop_list J ?_ xs.length ⟨0, Z, st.hp, [], #[], none, rfl, Nat.zero_le _, rfl, start, R4, st4, ?_, rfl, fun b hb => ⟨koff b (own b hb).1, zoff b (own b hb).1⟩, h0⟩
    rotate_left
    · obtain ⟨o, e, q⟩ := hDl; exact ⟨o, k4 _ _ e, q⟩
    rintro n s3 ⟨i, Z3, hp3, acc, its, o, rfl, hle, hal, C3, R3, hst3, hL3, hr3, hoff, hI3⟩
    by_cases hlt : i < xs.length
    · refine W.item i s3 _ _ hlt hst3 fun v' h' tk' hPv hst4 hk4 => ?_
      obtain ⟨y, hy, ry⟩ := hval i v' hPv
      have T := tooff (wr' := wr) (fun b hb => .tail _ hb) hoff
      have R3' : Rel D c' g' A0 Z3 ⟨(x, o) :: fl, hp3⟩ { s3 with heap := h', toks := tk' } := R3.touch hk4 T.1
      have C3' : CS D g.U Z st.hp s Z3 hp3 { s3 with heap := h', toks := tk' } := C3.touch hk4 T.2
      have hL3' : h'.IsList Dl its := by obtain ⟨o, e, q⟩ := hL3; exact ⟨o, hk4 _ _ Dlwr e, q⟩
      have hr3' : reps Z3 h' acc its.toList := reps_mono (fun _ z => z) (fun a o z e => hk4 a o (fun hm => (hoff a (.tail _ hm)).2 z) e) _ hr3
      refine to (B := A.toAround) (wpAny_assign_Name (TT_store (x := x) (v := y) (loc' := (x, some y) :: fl) R3' .head hxf (rep_mono C3'.tr.zsub (C3'.zk R.hr) y ry) _ _ ?_))
      rintro _ Z5 st5 s5 x5 ⟨rfl, rfl⟩
      obtain ⟨hst5, hL5, hr5, hoff5⟩ := stay R3' x5 C3'.tr.zsub hst4 hL3' hr3' hoff
      have C5 := C3'.step (st3 := ⟨(x, o) :: fl, hp3⟩) x5 rfl fun b hb => Hdead b (hown b hb)
      refine to (B := A.toAround) (hI i y acc hp3 hy hI3 g' A0 _ s5 x5.rel _ _ ?_)
      rintro u Z6 st6 s6 x6 ⟨z, rz, hloc, hI6⟩
      obtain ⟨hst6, hL6, hr6, hoff6⟩ := stay x5.rel x6 C5.tr.zsub hst5 hL5 hr5 hoff5
      have C6 := C5.step x6 rfl fun b hb => Hdead b (hown b hb)
      have eits : its.size = acc.length := by have := reps_length hr6; simpa using this
      refine wpAny_list_append hL6 (fun h7 hL7 hs7 => ?_) (by rw [eits, sizeLine_eq]; omega)
      have T7 := tooff (wr' := [Dl]) (fun b hb => by rw [List.mem_singleton.mp hb]; exact .head _) hoff6
      have k7 : ∀ b o, b ∉ [Dl] → s6.heap.get? b = some o → h7.get? b = some o := fun b o hb e => (hs7.2 b fun q => hb (by rw [q]; exact .head _)).trans e
      have R7 := x6.rel.touch (tk := s6.toks) k7 T7.1
      have C7 := C6.touch (tk := s6.toks) k7 T7.2
      have zk7 : ∀ a o, Z6 a → s6.heap.get? a = some o → h7.get? a = some o := fun a o z e => k7 a o (fun hm => (hoff6 Dl (.head _)).2 (List.mem_singleton.mp hm ▸ z)) e
      refine ⟨xs.length - (i + 1), by omega, i + 1, Z6, st6.hp, acc ++ [z], _, some y, rfl, hlt, by simp [hal], C7, ?_, ?_, hL7, ?_, hoff6, hI6⟩
      · have e6 : st6 = ⟨(x, some y) :: fl, st6.hp⟩ := by rw [← hloc]
        rw [e6] at R7
        exact R7
      · exact W.frame _ _ _ hst6 fun b hb o e => k7 b o (fun hm => Dlfp (List.mem_singleton.mp hm ▸ hb)) e
      · rw [Array.toList_push]
        exact reps_append (reps_mono (fun _ z => z) zk7 _ hr6) (reps_cons (rep_mono (fun _ z => z) zk7 _ rz) reps_nil)
    · have hi' : i = xs.length := by omega
      subst hi'
      refine W.done s3 _ _ hst3 fun h' tk' hk4 => ?_
      have T := tooff (wr' := wr) (fun b hb => .tail _ hb) hoff
      have R3' : Rel D c' g' A0 Z3 ⟨(x, o) :: fl, hp3⟩ { s3 with heap := h', toks := tk' } := R3.touch hk4 T.1
      have hL3' : h'.IsList Dl its := by obtain ⟨o, e, q⟩ := hL3; exact ⟨o, hk4 _ _ Dlwr e, q⟩
      have hr3' : reps Z3 h' acc its.toList := reps_mono (fun _ z => z) (fun a o z e => hk4 a o (fun hm => (hoff a (.tail _ hm)).2 z) e) _ hr3
      have C3' : CS D g.U Z st.hp s Z3 hp3 { s3 with heap := h', toks := tk' } := C3.touch hk4 T.2
      obtain ⟨m, hm, _⟩ := R3'.ns
      have Cf := C3'.freezeNew (a := Dl) dDl (by obtain ⟨o, e, _⟩ := hL3'; exact ⟨o, e⟩) (hoff Dl (.head _)).1 (uoff _ dDl)
      have nDC : C ≠ Dl := fun e => (cells Dl hDlH dDl).1 e.symm
      exact hRR Dl C _ hp3 _ acc m Cf ⟨Dl, its, rfl, .inr rfl, hL3', reps_mono (fun _ z => .inl z) (fun _ _ _ e => e) _ hr3'⟩ dC R3'.Lk (fun z => z.elim R3'.Lz nDC) (uoff _ dC) (b0 _ dC) hm hal hI3
  exact codeAny_compStart_list loop (W.self 0 _ _ _ st4 loop)
end Mine

set_option linter.unusedSimpArgs false
namespace Mine
open PySem PySem.W PySem.Calls PyProof.Rows PySem.Spec

variable {K : Frag} {D : Wd K} {c : FC} {g : Gh} {A : Around} {Z Z' Z'' : Addr → Prop} {st st' st'' : St} {s s' s'' : Shared} {U : List Addr} {hp hp' : Hp} {cl : Bool} {n : Nat}

theorem Rel.around (R : Rel D c g A Z st s) (hcl : c.cl = false) {A' : Around} (e : A'.toAround = A.toAround) : Rel D c g A' Z st s := by
  obtain ⟨B, b⟩ := A
  obtain ⟨B', b'⟩ := A'
  cases e
  exact ⟨R.hr, R.ns, R.names, R.Lz, R.Lk, R.L0, R.cell, R.dist, R.own, R.cvar, R.fu, ⟨R.good.hand, (fun q => by rw [hcl] at q; cases q), R.good.gds, R.good.dep, R.good.uni, R.good.fr⟩, R.ok⟩
theorem Stp.around (x : Stp D c g A Z st s Z' st' s') (hcl : c.cl = false) {A' : Around} (e : A'.toAround = A.toAround) : Stp D c g A' Z st s Z' st' s' := ⟨x.rel.around hcl e, x.tr, x.knew, x.sh⟩
noncomputable def loosen (c : FC) : FC := { c with cl := false }
theorem Locs.change {c c' : FC} {h : Heap} {m : Str → Option Value} (e : c'.scope = c.scope) : ∀ {l : Loc}, Locs c g Z h m l → Locs c' g Z h m l
  | [], _ => trivial
  | _ :: _, ⟨p, r⟩ => ⟨fun v q => let ⟨u, e1, e2⟩ := p v q; ⟨u, by unfold Held FC.isCell at e1 ⊢; rw [e]; exact e1, e2⟩, Locs.change e r⟩
theorem Rel.loose (R : Rel D c g A Z st s) : Rel D (loosen c) g A Z st s :=
  ⟨R.hr, let ⟨m, a, b⟩ := R.ns; ⟨m, a, Locs.change (c := c) (c' := loosen c) rfl b⟩, R.names, R.Lz, R.Lk, R.L0, R.cell, R.dist, R.own, R.cvar, R.fu, ⟨R.good.hand, (fun e => nomatch e), R.good.gds, R.good.dep, R.good.uni, R.good.fr⟩, ⟨R.ok.kind, R.ok.vars, R.ok.nodup, R.ok.dbg⟩⟩
theorem Rel.tight (R : Rel D (loosen c) g A Z st s) (h : c.cl = true → A.cl = true) : Rel D c g A Z st s :=
  ⟨R.hr, let ⟨m, a, b⟩ := R.ns; ⟨m, a, Locs.change (c := loosen c) (c' := c) rfl b⟩, R.names, R.Lz, R.Lk, R.L0, R.cell, R.dist, R.own, R.cvar, R.fu, ⟨R.good.hand, h, R.good.gds, R.good.dep, R.good.uni, R.good.fr⟩, ⟨R.ok.kind, R.ok.vars, R.ok.nodup, R.ok.dbg⟩⟩
theorem EV_loose {e : Expr} {P : AV → St → Prop} (h : EV D (loosen c) st e P) : EV D c st e P := fun g A Z s R Q E k =>
  h g A Z s R.loose Q E fun v Z' st' s' x p => k v Z' st' s' ⟨x.rel.tight R.good.cln, x.tr, x.knew, x.sh⟩ p
theorem SV1_loose {e : Stmt} {P : Fl → St → Prop} (h : SV1 D (loosen c) st e P) : SV1 D c st e P := fun g A Z s R Q E k =>
  h g A Z s R.loose Q E fun v Z' st' s' x p => k v Z' st' s' ⟨x.rel.tight R.good.cln, x.tr, x.knew, x.sh⟩ p

theorem comp_side {scope : Scope} {x : Str} {fr : List Str} (ok : compOk c scope x fr = true) (R : Rel D c g A Z st s) (hv : ∀ n ∈ fr, n ∈ c.vars) :
    closureFor scope (c.env g) = pure (clf g.cl scope.names []) ∧ scope.kind = .function ∧ (∀ y ∈ scope.names, y.2 = .local → scope.names.lookup y.1 = some .local) := by
  unfold compOk at ok
  simp only [Bool.and_eq_true, List.all_eq_true, List.any_eq_true, Bool.or_eq_true, beq_iff_eq, bne_iff_ne, decide_eq_true_eq, Bool.not_eq_true', List.contains_iff_mem, ne_eq, beq_eq_false_iff_ne] at ok
  obtain ⟨⟨⟨⟨⟨⟨⟨⟨⟨⟨⟨o1, o2⟩, o3⟩, o4⟩, o5⟩, o6⟩, o7⟩, o8⟩, o9⟩, o10⟩, o11⟩, o12⟩ := ok
  refine ⟨closure_eq fun p hp hf => ?_, o1, fun y hy hl => ?_⟩
  · have hin : p.1 ∈ fr := (o3 p hp).elim (fun q => absurd hf q) id
    obtain ⟨a, ha, _⟩ := R.cvar p.1 (hv _ hin) (by unfold FC.isCell; rw [o4 _ hin]; rfl)
    exact ⟨a, ha⟩
  · exact (o8 y hy).elim (fun q => absurd hl q) id

theorem comp_fin {st1 : St} {s1 : Shared} {Z1 : Addr → Prop} {Z3 : Addr → Prop} {hp3 : Hp} {s3 : Shared} {C : Addr} {h' : Heap} (R1 : Rel D c g A Z1 st1 s1) (C3 : CS D g.U Z1 st1.hp s1 Z3 hp3 s3) (dC : s1.heap.get? C = none) (kC : C ∉ keys hp3) (zC : ¬ Z3 C)
    (uC : C ∉ g.U) (bC : D.h₀.get? C = none) (hs : Heap.SameBut C s3.heap h') : Stp D c g A Z1 st1 s1 Z3 ⟨st1.loc, hp3⟩ { s3 with heap := h' } :=
  Stp.cs R1 (C3.touch (wr := [C]) (tk := s3.toks) (fun b o hb e => (hs.2 b fun q => hb (by rw [q]; exact .head _)).trans e) fun b hb => by rw [List.mem_singleton.mp hb]; exact ⟨dC, bC, kC, zC, uC⟩)

theorem EV_Comp {scope : Scope} {x : Str} {px : Pos} {iter elt : Expr} {pos : Pos} (fr : List Str) {P : AV → St → Prop}
    (h : EV D c st iter (fun v st1 => ∃ xs, Iter v xs ∧ xs.length ≤ 16777216 ∧ ∃ fl, Capt st1.loc fr fl ∧ ∃ I : Nat → List AV → Hp → Prop, I 0 [] st1.hp ∧ CompI D (cFC c scope x fr) x fl elt xs I ∧ ∀ acc hp1, acc.length = xs.length → I xs.length acc hp1 → P (.list acc) ⟨st1.loc, hp1⟩))
    (ok : compOk c scope x fr = true) (hxf : x ∉ fr) (hv : ∀ n ∈ fr, n ∈ c.vars) (hcl : c.cl = false) (hn : c.hn = true) (hs : ∀ env x, foldedSetIterable iter env x = pure x := by intro _ _; rfl) :
    EV D c st (.ListComp elt [⟨.Name x px, iter, [], 0⟩] scope pos) P := by
  intro g A Z s R Q E k
  obtain ⟨hclos, hkind, hnames⟩ := comp_side ok R hv
  let A0 : Around := ⟨A.toAround, false⟩
  have R0 : Rel D c g A0 Z st s := R.around hcl rfl
  refine of ?_
  rw [eval_ListComp]
  refine wpAny_comprehension_free (use := none) rfl (hs _) hclos hkind hnames (to (B := A.toAround) (h g A0 Z s R0 _ _ ?_))
  rintro v Z1 st1 s1 x1 ⟨w, rw', xs, hi, hz, fl, cap, I, h0, hI, hfin⟩
  refine to (B := A.toAround) (iter_at hi x1.rel (x1.rel.good.hand hn) rw' fun it s₂ hsh hk hit => ?_)
  refine comp_block (A := A0) x1.rel hcl hn ok cap hxf hz hsh hk hit h0 hI ?_
  intro Dl C Z3 hp3 s3 acc m C3 rl dC kC zC uC bC hm hal hIn
  refine ⟨m, hm, fun h' hs' => ?_⟩
  have x2 := comp_fin x1.rel C3 dC kC zC uC bC hs'
  refine k _ _ _ _ ((x1.trans x2).around (A' := A) hcl rfl) ⟨_, ?_, hfin acc hp3 hal hIn⟩
  exact rep_mono (fun _ z => z) (fun a o z e => (hs'.2 a fun q => zC (q ▸ z)).trans e) _ rl
theorem SV1_assignComp {y : Str} {py spos : Pos} {scope : Scope} {x : Str} {px : Pos} {iter elt : Expr} {pos : Pos} (fr : List Str) {P : Fl → St → Prop}
    (h : EV D c st iter (fun v st1 => ∃ xs, Iter v xs ∧ xs.length ≤ 16777216 ∧ ∃ fl, Capt st1.loc fr fl ∧ ∃ I : Nat → List AV → Hp → Prop, I 0 [] st1.hp ∧ CompI D (cFC c scope x fr) x fl elt xs I ∧
      ∀ acc hp1, acc.length = xs.length → I xs.length acc hp1 → ∃ loc', Put st1.loc y (.list acc) loc' ∧ P .next ⟨loc', hp1⟩))
    (hsw : ∀ g, swapsWith (.ListComp elt [⟨.Name x px, iter, [], 0⟩] scope pos) (some (.Name y py)) spos.line (c.env g) = pure true) (hyf : y ∉ c.frees)
    (ok : compOk c scope x fr = true) (hxf : x ∉ fr) (hv : ∀ n ∈ fr, n ∈ c.vars) (hcl : c.cl = false) (hn : c.hn = true) (hs : ∀ env x, foldedSetIterable iter env x = pure x := by intro _ _; rfl) :
    SV1 D c st (.Assign [.Name y py] (.ListComp elt [⟨.Name x px, iter, [], 0⟩] scope pos) spos) P := by
  intro g A Z s R Q E k
  obtain ⟨hclos, hkind, hnames⟩ := comp_side ok R hv
  let A0 : Around := ⟨A.toAround, false⟩
  have R0 : Rel D c g A0 Z st s := R.around hcl rfl
  refine of ?_
  rw [exec_Assign_Name_used _ _ _ _ (hsw g)]
  refine PySem.wpAny_bind (PySem.wpAny_standAt (PySem.wpAny_bind ?_))
  show PySem.wpAny _ A.toAround (do let _ ← comprehension (.ListComp elt [⟨.Name x px, iter, [], 0⟩] scope pos) scope (c.env g) _ (newList []) false (eval iter (c.env g)) (some (assign (.Name y py) (c.env g)))) _ _ s
  refine PySem.wpAny_bind (PySem.wpAny_mono (wpAny_comprehension_free (use := some (assign (.Name y py) (c.env g))) (Q := fun _ s' => Q .next s') rfl (hs _) hclos hkind hnames
    (to (B := A.toAround) (h g A0 Z s R0 _ _ ?_))) (fun _ s' hq => PySem.wpAny_pure (PySem.wpAny_pure hq)) fun _ _ e => e)
  rintro v Z1 st1 s1 x1 ⟨w, rw', xs, hi, hz, fl, cap, I, h0, hI, hfin⟩
  refine to (B := A.toAround) (iter_at hi x1.rel (x1.rel.good.hand hn) rw' fun it s₂ hsh hk hit => ?_)
  refine comp_block (A := A0) x1.rel hcl hn ok cap hxf hz hsh hk hit h0 hI ?_
  intro Dl C Z3 hp3 s3 acc m C3 rl dC kC zC uC bC hm hal hIn
  have x2 := Stp.cs x1.rel C3
  obtain ⟨loc', hput, hP⟩ := hfin acc hp3 hal hIn
  show PySem.wpAny _ A.toAround (assign (.Name y py) (c.env g) (.ref Dl)) _ _ _
  refine to (B := A.toAround) (wpAny_assign_Name (TT_store x2.rel hput hyf rl _ _ ?_))
  rintro _ Z5 st5 s5 x5 ⟨rfl, rfl⟩
  have x15 := x2.trans x5
  have nC : C ∉ wset g hp3 := fun hm => by
    rcases List.mem_cons.mp hm with e | hm
    · obtain ⟨m, ⟨o, _, _, ho, _⟩, _⟩ := x1.rel.ns
      rw [← e, dC] at ho; cases ho
    rcases List.mem_append.mp hm with hm | hm
    · obtain ⟨y, hy⟩ := x1.rel.own _ hm
      obtain ⟨⟨_, o, ho, _⟩, _⟩ := x1.rel.cell y _ hy
      rw [dC] at ho; cases ho
    · exact kC hm
  refine ⟨m, hm.at' fun o e => x5.tr.keep C o nC uC e, fun h' hs' => ?_⟩
  have x6 : Stp D c g A0 Z1 st1 s1 Z5 ⟨loc', hp3⟩ { s5 with heap := h' } := x15.touch (wr := [C]) (tk := s5.toks) x1.rel (fun b o hb e => (hs'.2 b fun q => hb (by rw [q]; exact .head _)).trans e) fun b hb => by rw [List.mem_singleton.mp hb]; exact ⟨dC, kC, zC⟩
  exact k _ _ _ _ ((x1.trans x6).around (A' := A) hcl rfl) ⟨.next, rfl, hP⟩
end Mine

set_option linter.unusedSimpArgs false
namespace Mine
open PySem PySem.W PySem.Calls PyProof.Rows PySem.Spec

variable {K : Frag} {D : Wd K} {c : FC} {g : Gh} {A : Around} {Z Z' Z'' : Addr → Prop} {st st' st'' : St} {s s' s'' : Shared} {U : List Addr} {hp hp' : Hp} {cl : Bool} {n : Nat}


theorem nh_tc : (!Builtin.Bytes.decodersThatHold.contains "type.__call__") = true := by decide +kernel
theorem looksX {α : Type} {M : Model} {t : Sem α} {r : α} {Q : α → Shared → Prop} {E : Value → Shared → Prop} (x : Looks M s.heap t r) (q : Q r s) : wpAny M A t Q E s := of (x.here q)
section
variable {prog : Program} {w : World} {C : Addr} {R : Result → Shared → Prop}
theorem ite_no {α : Type} {M : Model} {c : Prop} [Decidable c] {a b : Sem α} {Q : α → Shared → Prop} {E : Value → Shared → Prop} (hc : ¬ c) (h : wpAny M A b Q E s) : wpAny M A (if c then a else b) Q E s := by rw [if_neg hc]; exact h
theorem ite_yes {α : Type} {M : Model} {c : Prop} [Decidable c] {a b : Sem α} {Q : α → Shared → Prop} {E : Value → Shared → Prop} (hc : c) (h : wpAny M A a Q E s) : wpAny M A (if c then a else b) Q E s := by rw [if_pos hc]; exact h
theorem new_obj {A : PySem.Around} {rest : List Value} {f : Addr} {Q : Value → Shared → Prop} {E : Value → Shared → Prop} (Y : Makes (model prog w) s.heap C) (hi : Looks (model prog w) s.heap (typeLookup (.ref C) "__init__") (some (.ref f)))
    (hq : Q (.ref (s.heap.objs.size + 1)) { s with heap := (s.heap.push emptyDict).push (instObj C s.heap.objs.size) }) : PySem.wpAny (model prog w) A (call (.builtin "object.__new__") (.ref C :: rest)) Q E s := by
  obtain ⟨h, g, d, t, os⟩ := s
  have hne : (some (Value.ref f) != some (Value.builtin "object.__init__")) = true := rfl
  refine PySem.wpAny_call (PySem.codeAny_mono (new_K (R := fun r s' => r = .ok (.ret (.ref (h.objs.size + 1))) ∧ s' = ⟨(h.push emptyDict).push (instObj C h.objs.size), g, d, t, os⟩) Y hi (.inl hne) ⟨rfl, rfl⟩) fun r s' e => ?_)
  obtain ⟨rfl, rfl⟩ := e
  exact hq

set_option maxHeartbeats 2000000 in
theorem make_X {rest : List Value} {f : Addr} (Y : Makes (model prog w) s.heap C) (hi : Looks (model prog w) s.heap (typeLookup (.ref C) "__init__") (some (.ref f)))
    (hb : ∀ self, Looks (model prog w) s.heap (bindSpecial (.ref f) self) (.ref f, [self]))
    (hq : wpAny (model prog w) (A.under (.builtin "type.__call__" ⟨.ref C :: rest, []⟩)) (call (.ref f) (.ref (s.heap.objs.size + 1) :: rest)) (fun v s' => v = .none ∧ R (.ok (.ret (.ref (s.heap.objs.size + 1)))) s') (fun e s' => R (.error e) s')
      { s with heap := (s.heap.push emptyDict).push (instObj C s.heap.objs.size) }) :
    codeAny (model prog w) A (.call (.ref C) ⟨rest, []⟩) R s := by
  have Y' := Y
  obtain ⟨⟨oc, od, cd, sl, hC, e1, e2, e4⟩, made, base, self, top, call, typ⟩ := Y
  refine codeAny_call_ref ?_
  unfold callAny
  refine wpAny_bind (of (PySem.wpAny_load hC ?_))
  show wpAny _ _ (callAny.viaDunder (.ref C) _) _ _ _
  unfold callAny.viaDunder
  refine wpAny_bind (looksX call ?_)
  dsimp only
  rw [tc_bind]
  refine wpAny_bind (wpAny_pure (wpAny_bind (wpAny_pure ?_)))
  refine wpAny_pure (a := Fin.again (.call (.builtin "type.__call__") ⟨.ref C :: rest, []⟩)) (And.intro rfl ?_)
  refine codeAny_call_builtin_code (Code.quiet_builtin _ (by decide +kernel)) (of (check_slot tc_kind tc_split typ (tc_args _ _ _) ?_))
  refine codeAny_builtin entry_typeCall ?_ nh_tc
  unfold Builtin.«type.__call__»
  dsimp only
  have hm : Looks (model prog w) s.heap (mroOf (.ref C)) cd.mro := ((Looks.ld (part := none) hC).andThen .now).andThen .now
  refine ite_no (fun e => nomatch e) ?_
  refine wpAny_bind (looksX hm ?_)
  refine ite_no (by rw [e4]; exact Bool.false_ne_true) ?_
  refine wpAny_bind (looksX made ?_)
  dsimp only
  refine wpAny_bind (wpAny_pure (wpAny_bind (wpAny_holding (of (new_obj Y' hi ?_)))))
  have k : ∀ b o, s.heap.get? b = some o → ((s.heap.push emptyDict).push (instObj C s.heap.objs.size)).get? b = some o := fun b o e => Heap.get?_push_of_some _ (Heap.get?_push_of_some _ e)
  have hx : ((s.heap.push emptyDict).push (instObj C s.heap.objs.size)).get? (s.heap.objs.size + 1) = some (instObj C s.heap.objs.size) := by
    have : ((s.heap.push emptyDict).push (instObj C s.heap.objs.size)).get? (s.heap.push emptyDict).objs.size = some (instObj C s.heap.objs.size) := Heap.get?_push_size _ rfl
    rwa [Heap.size_push] at this
  have t1 : Looks (model prog w) ((s.heap.push emptyDict).push (instObj C s.heap.objs.size)) (typeOf (.ref (s.heap.objs.size + 1))) (.ref C) := (Looks.ld hx).andThen .now
  have is1 : Looks (model prog w) ((s.heap.push emptyDict).push (instObj C s.heap.objs.size)) (isInstance (.ref (s.heap.objs.size + 1)) (.ref C)) true := t1.andThen (self.keeps k)
  have sp1 : Looks (model prog w) ((s.heap.push emptyDict).push (instObj C s.heap.objs.size)) (specialOf (.ref (s.heap.objs.size + 1)) "__init__") (some (.ref f)) := t1.andThen (hi.keeps k)
  refine wpAny_bind (looksX is1 ?_)
  refine ite_no (by decide) ?_
  refine wpAny_bind (wpAny_holding ?_)
  unfold callSpecial?
  refine wpAny_bind (looksX sp1 ?_)
  dsimp only
  refine wpAny_holding (wpAny_bind (looksX ((hb _).keeps k) (wpAny_bind (wpAny_mono hq (fun v s' hv => wpAny_pure ?_) fun _ _ e => e))))
  obtain ⟨rfl, hv⟩ := hv
  dsimp only
  refine ite_no (fun e => nomatch e) ?_
  exact wpAny_pure hv
end
end Mine

set_option linter.unusedSimpArgs false
namespace Mine
open PySem PySem.W PySem.Calls PyProof.Rows PySem.Spec

variable {K : Frag} {D : Wd K} {c : FC} {g : Gh} {A : Around} {Z Z' Z'' : Addr → Prop} {st st' st'' : St} {s s' s'' : Shared} {U : List Addr} {hp hp' hp'' : Hp} {cl : Bool} {n m : Nat}

theorem CS.trans (x : CS D U Z hp s Z' hp' s') (y : CS D U Z' hp' s' Z'' hp'' s'') : CS D U Z hp s Z'' hp'' s'' := by
  refine ⟨y.hr, x.tr.trans y.tr x.knew, fun k hk => ?_, ?_⟩
  · rcases y.knew k hk with q | q
    · exact x.knew k q
    · exact .inr (x.tr.dead q)
  · obtain ⟨h1, t1, e1⟩ := x.sh
    obtain ⟨h2, t2, e2⟩ := y.sh
    exact ⟨h2, t2, by rw [e2, e1]⟩
theorem Good.cs {hn : Bool} {A' : Around} (G : Good D hn cl n A' U s.heap) (C : CS D U Z hp s Z' hp' s') (H : HR D Z U hp s.heap) : Good D hn cl n A' U s'.heap :=
  G.tr C.tr fun b hb hbw => by
    obtain ⟨p, hp, rfl⟩ := List.mem_map.mp hbw
    exact absurd hb (H.off p hp).2.1

theorem make_weight (C : Addr) (vs : List Value) : (Code.builtin "type.__call__" ⟨.ref C :: vs, []⟩).weight = 1 := rfl
theorem make_units (C : Addr) (vs : List Value) : (Code.builtin "type.__call__" ⟨.ref C :: vs, []⟩).cUnits = 1 := rfl
theorem make_guards (C : Addr) (vs : List Value) : (Code.builtin "type.__call__" ⟨.ref C :: vs, []⟩).guards = [] := rfl
theorem make_envs (C : Addr) (vs : List Value) : (Code.builtin "type.__call__" ⟨.ref C :: vs, []⟩).envs = [] := rfl
theorem make_T {C f : Addr} {xs : List AV} {P : AV → Hp → Prop} (hm : makesIn K C = true) (hi : findIn K (.ref C) "__init__" = some (some (.ref f))) (hf : typeIn K (.ref f) = some (.type "function")) (hl : m < n)
    (h : ∀ d, CallT cl D m (.ref f) (.obj C d :: xs) (hp ++ [(d, .dict [])]) (fun x hp' => x = .none ∧ P (.obj C d) hp')) : CallT cl D n (.ref C) xs hp P := by
  intro A U Z s vs G H r Q E k
  have X : K.In s.heap := fun a o e => H.base a o (D.inK a o e)
  have C1 := CS.track H (o := emptyDict) (x := .dict []) (tk := s.toks) ⟨[], 0, Heap.get?_push_size _ rfl, rfl⟩
  have C2 := CS.push C1.hr (o := instObj C s.heap.objs.size) (tk := s.toks)
  have C12 := C1.trans C2
  have esz : (s.heap.push emptyDict).objs.size = s.heap.objs.size + 1 := Heap.size_push _ _
  refine wpAny_call (make_X (makes_of X hm) (looks_findIn X hi) (fun self => bind_fn X self hf) ?_)
  have hx : ((s.heap.push emptyDict).push (instObj C s.heap.objs.size)).get? (s.heap.push emptyDict).objs.size = some (instObj C s.heap.objs.size) := Heap.get?_push_size _ rfl
  have ro : rep (ZZ Z (s.heap.push emptyDict).objs.size) ((s.heap.push emptyDict).push (instObj C s.heap.objs.size)) (.obj C s.heap.objs.size) (.ref (s.heap.objs.size + 1)) :=
    ⟨_, _, by rw [← esz], .inr rfl, hx⟩
  have G' : Good D true cl m (A.under (.builtin "type.__call__" ⟨.ref C :: vs, []⟩)) U ((s.heap.push emptyDict).push (instObj C s.heap.objs.size)) := by
    have G1 := (G.cs C12 H)
    obtain ⟨envs, f1, f2, f3⟩ := G1.fr
    have w1 := make_weight C vs
    refine ⟨fun q => G.hand rfl, G.cln, ?_, ?_, ?_, envs, ?_, f2, f3⟩
    · show pushGuards (Code.builtin "type.__call__" ⟨.ref C :: vs, []⟩).guards A.guards = some []
      rw [G.gds, make_guards]; rfl
    · show A.depth + (Code.builtin "type.__call__" ⟨.ref C :: vs, []⟩).weight + m < _
      rw [w1]; have := G.dep; omega
    · show A.units + (Code.builtin "type.__call__" ⟨.ref C :: vs, []⟩).cUnits + 16 * m + 16 < _
      rw [make_units]; have := G.uni; omega
    · show pushEnvs (Code.builtin "type.__call__" ⟨.ref C :: vs, []⟩).envs A.frames = some envs
      rw [f1, make_envs]; rfl
  have := h s.heap.objs.size (A.under (.builtin "type.__call__" ⟨.ref C :: vs, []⟩)) U _ { s with heap := (s.heap.push emptyDict).push (instObj C s.heap.objs.size) } (.ref (s.heap.objs.size + 1) :: vs) G' C2.hr (reps_cons ro (C12.reps H r))
  refine this _ _ ?_
  rintro v x Z' hp' s' ⟨rfl, hP⟩ C3 rv
  cases rv
  exact ⟨rfl, k _ _ _ _ _ hP (C12.trans C3) (C3.rep C2.hr ro)⟩

/-! stores into one's own attributes -/
noncomputable def putF (name : Str) (v : AV) : List (Str × AV) → List (Str × AV)
  | [] => [(name, v)]
  | p :: r => if p.1 == name then (p.1, v) :: r else p :: putF name v r
theorem repF_put {h : Heap} {name : Str} {v : AV} {u : Value} {hsh : Int} {t : Tok} (rv : rep Z h v u) : ∀ {fs : List (Str × AV)} {es : List DictEntry}, repF Z h fs es → repF Z h (putF name v fs) (putL name hsh (.str name t) u es)
  | [], _, e => by cases e; exact ⟨_, [], t, rfl, rfl, rv, rfl⟩
  | p :: fs, _, ⟨e, r, t', rfl, hk, re, rr⟩ => by
    have hs : e.key.isStr name = (p.1 == name) := by rw [hk]; rfl
    unfold putF putL
    rw [hs]
    split
    · exact ⟨_, r, t', rfl, hk, rv, rr⟩
    · exact ⟨e, _, t', rfl, hk, re, repF_put rv rr⟩
theorem repF_some {h : Heap} (name : Str) : ∀ {fs : List (Str × AV)} {es : List DictEntry}, repF Z h fs es → (getL name es).isSome = true
  | [], _, e => by cases e; rfl
  | p :: fs, _, ⟨e, r, t', rfl, hk, re, rr⟩ => by
    have ih := repF_some name rr
    have hs : e.key.isStr name = (p.1 == name) := by rw [hk]; rfl
    have hr : e.refKey = false := by simp [DictEntry.refKey, hk]
    unfold getL at ih ⊢
    rw [List.find?_cons, List.any_cons, hs, hr]
    cases p.1 == name with
    | true => rfl
    | false => simpa using ih
theorem repF_len {h : Heap} : ∀ {fs : List (Str × AV)} {es : List DictEntry}, repF Z h fs es → es.length = fs.length
  | [], _, e => by cases e; rfl
  | _ :: _, _, ⟨_, _, _, rfl, _, _, rr⟩ => by simp [repF_len rr]

theorem set_raw {prog : Program} {w : World} {A : PySem.Around} {E : Value → Shared → Prop} {x C dx : Addr} {sl : Array (Option Value)} {es : List DictEntry} {name : Str} {v : Value} {Q : Unit → Shared → Prop} (X : K.In s.heap)
    (hx : s.heap.get? x = some ⟨.ref C, some dx, .plain, sl⟩) (hD : s.heap.get? dx = some (dictOf es n)) (hs : findIn K (.ref C) "__setattr__" = some (some (.builtin "object.__setattr__"))) (hp : plainOver K C = true) (ht : takerIn K C name = some none)
    (hh : hasDictIn K C = true) (hl : (getL name es).isSome = true) (hz : (putL name (PyData.keyHash w.params name) (.str name (s.toks + 1)) v es).length ≤ 1000)
    (h : Q () { s with heap := s.heap.update dx (Obj.putName name (PyData.keyHash w.params name) (.str name (s.toks + 1)) v), toks := s.toks + 2 }) : PySem.wpAny (model prog w) A (setAttr (.ref x) name v) Q E s := by
  have I : InstAt s.heap x ⟨.ref C, some dx, .plain, sl⟩ C (some (dictOf es n)) := inst_at hx hD
  refine set_plain X I hs (osa_open (s := { s with toks := s.toks + 1 }) X I hp ht fun b => ?_)
  obtain ⟨cd, hc, hd'⟩ := any_some (show (clsIn K C).any (fun x => x.hasDict) = true from hh)
  have D' : (s.heap.update dx (Obj.putName name (PyData.keyHash w.params name) (.str name (s.toks + 1)) v)).get? dx = some (dictOf (putL name (PyData.keyHash w.params name) (.str name (s.toks + 1)) v es) (putN name es n)) := by
    rw [← putName_dict]
    exact Heap.get?_update_self _ hD (by rw [putName_dict]; rfl)
  refine PySem.wpAny_bind (PySem.wpAny_pure (PySem.wpAny_bind (PySem.wpAny_bind (PySem.wpAny_loadPart hx (PySem.wpAny_bind ((looks_clsIn (M := model prog w) X hc) _ _ _ _ (fun _ _ e => e) ?_))))))
  rw [hd']
  refine PySem.wpAny_pure (a := some dx) (PySem.wpAny_bind (PySem.wpAny_pure (PySem.wpAny_bind ?_)))
  unfold nsSet
  refine PySem.wpAny_bind (PySem.wpAny_bind (PySem.wpAny_askSetting (PySem.wpAny_pure (PySem.wpAny_bind (PySem.wpAny_mkText (PySem.wpAny_bind (PySem.wpAny_loadPart hD ?_)))))))
  show PySem.wpAny _ _ (if aRefKeyMayBeTheName name es.toArray = true then _ else _) _ _ _
  have cc : (!es.toArray.any (·.key.isStr name) && es.toArray.any (·.refKey)) = false := by
    rw [← Array.any_toList, ← Array.any_toList]
    unfold getL at hl
    split at hl
    · rename_i en he
      rw [List.any_eq_true.mpr ⟨en, List.mem_of_find?_eq_some he, List.find?_some he⟩]; rfl
    · split at hl
      · cases hl
      · rename_i z; rw [Bool.not_eq_true] at z; rw [z, Bool.and_false]
  rw [aRefKeyMayBeTheName_at, cc]
  refine PySem.wpAny_updatePart hD ?_
  refine PySem.wpAny_bind (PySem.wpAny_lookBehind D' (pastItsLine_dict (by rw [List.size_toArray, sizeLine_eq]; omega)) ?_)
  exact PySem.wpAny_pure h

theorem setA_own {C d : Addr} {fs : List (Str × AV)} {name : Str} {v : AV} (hd : Has hp d (.dict fs)) (w : Swap hp d (.dict (putF name v fs)) hp') (hs : findIn K (.ref C) "__setattr__" = some (some (.builtin "object.__setattr__")))
    (hpl : plainOver K C = true) (ht : takerIn K C name = some none) (hh : hasDictIn K C = true) (hz : fs.length ≤ 900) : SetA D hp (.obj C d) name v hp' := by
  rintro A U Z s _ u H ⟨a, sl, rfl, z, ho⟩ rv Q E k
  obtain ⟨es, n, hdo, rf⟩ := H.objs _ hd.mem
  have X : K.In s.heap := fun a o e => H.base a o (D.inK a o e)
  have hlen : ∀ hsh t, (putL name hsh (.str name t) u es).length ≤ es.length + 1 := fun hsh t => by
    clear hdo rf
    induction es with
    | nil => exact Nat.le_refl _
    | cons e r ih =>
      unfold putL
      split
      · simp
      · simpa using ih
  refine of (set_raw X ho hdo hs hpl ht hh (repF_some name rf) (by have := hlen (PyData.keyHash D.w.params name) (s.toks + 1); have := repF_len rf; omega) ?_)
  have D' : (s.heap.update d (Obj.putName name (PyData.keyHash D.w.params name) (.str name (s.toks + 1)) u)).get? d = some (dictOf (putL name (PyData.keyHash D.w.params name) (.str name (s.toks + 1)) u es) (putN name es n)) := by
    rw [← putName_dict]
    exact Heap.get?_update_self _ hdo (by rw [putName_dict]; rfl)
  refine k _ (CS.swap H w (Heap.SameBut.update ..) fun zne kr => ⟨_, _, D', ?_⟩)
  exact repF_put (kr _ _ rv) (repF_mono (fun _ z => z) (fun b o z e => ((Heap.SameBut.update ..).2 b (zne b z)).trans e) rf)
end Mine

set_option linter.unusedSimpArgs false
set_option linter.deprecated false
namespace Mine
open PySem PySem.W PySem.Calls PyProof.Rows PySem.Spec

namespace BA
theorem slot_len : Slot "bytearray" "__len__" "bytearray.__len__" :=
  .of (owner := "bytearray") (n := "__len__") (by rw [typeLookup_type, builtinLookup_eq_fast]; kernel_rfl) (by decide +kernel) (by decide +kernel) (by decide +kernel) (by first | exact .inl (by decide +kernel) | exact .inr (by decide +kernel)) (by rw [isSubtype_type]; kernel_rfl)
theorem slot_getitem : Slot "bytearray" "__getitem__" "bytearray.__getitem__" :=
  .of (owner := "bytearray") (n := "__getitem__") (by rw [typeLookup_type, builtinLookup_eq_fast]; kernel_rfl) (by decide +kernel) (by decide +kernel) (by decide +kernel) (by first | exact .inl (by decide +kernel) | exact .inr (by decide +kernel)) (by rw [isSubtype_type]; kernel_rfl)
theorem slot_setitem : Slot "bytearray" "__setitem__" "bytearray.__setitem__" :=
  .of (owner := "bytearray") (n := "__setitem__") (by rw [typeLookup_type, builtinLookup_eq_fast]; kernel_rfl) (by decide +kernel) (by decide +kernel) (by decide +kernel) (by first | exact .inl (by decide +kernel) | exact .inr (by decide +kernel)) (by rw [isSubtype_type]; kernel_rfl)
theorem slot_init : Slot "bytearray" "__init__" "bytearray.__init__" :=
  .of (owner := "bytearray") (n := "__init__") (by rw [typeLookup_type, builtinLookup_eq_fast]; kernel_rfl) (by decide +kernel) (by decide +kernel) (by decide +kernel) (by first | exact .inl (by decide +kernel) | exact .inr (by decide +kernel)) (by rw [isSubtype_type]; kernel_rfl)
theorem slot_append : Slot "bytearray" "append" "bytearray.append" :=
  .of (owner := "bytearray") (n := "append") (by rw [typeLookup_type, builtinLookup_eq_fast]; kernel_rfl) (by decide +kernel) (by decide +kernel) (by decide +kernel) (by first | exact .inl (by decide +kernel) | exact .inr (by decide +kernel)) (by rw [isSubtype_type]; kernel_rfl)
theorem slot_extend : Slot "bytearray" "extend" "bytearray.extend" :=
  .of (owner := "bytearray") (n := "extend") (by rw [typeLookup_type, builtinLookup_eq_fast]; kernel_rfl) (by decide +kernel) (by decide +kernel) (by decide +kernel) (by first | exact .inl (by decide +kernel) | exact .inr (by decide +kernel)) (by rw [isSubtype_type]; kernel_rfl)
theorem entry_len : entryFor table "bytearray.__len__" = some Builtin.«bytearray.__len__» := entryFor_of_tree (by kernel_rfl)
theorem entry_getitem : entryFor table "bytearray.__getitem__" = some Builtin.«bytearray.__getitem__» := entryFor_of_tree (by kernel_rfl)
theorem entry_setitem : entryFor table "bytearray.__setitem__" = some Builtin.«bytearray.__setitem__» := entryFor_of_tree (by kernel_rfl)
theorem entry_init : entryFor table "bytearray.__init__" = some Builtin.«bytearray.__init__» := entryFor_of_tree (by kernel_rfl)
theorem entry_append : entryFor table "bytearray.append" = some Builtin.«bytearray.append» := entryFor_of_tree (by kernel_rfl)
theorem entry_extend : entryFor table "bytearray.extend" = some Builtin.«bytearray.extend» := entryFor_of_tree (by kernel_rfl)
theorem args_len (a : Value) : argsOk "bytearray.__len__" ⟨[a], []⟩ := by unfold argsOk; kernel_rfl
theorem args_getitem (a b : Value) : argsOk "bytearray.__getitem__" ⟨[a, b], []⟩ := by unfold argsOk; kernel_rfl
theorem args_setitem (a b c : Value) : argsOk "bytearray.__setitem__" ⟨[a, b, c], []⟩ := by unfold argsOk; kernel_rfl
theorem args_init0 (a : Value) : argsOk "bytearray.__init__" ⟨[a], []⟩ := by unfold argsOk; kernel_rfl
theorem args_init1 (a b : Value) : argsOk "bytearray.__init__" ⟨[a, b], []⟩ := by unfold argsOk; kernel_rfl
theorem args_append (a b : Value) : argsOk "bytearray.append" ⟨[a, b], []⟩ := by unfold argsOk; kernel_rfl
theorem args_extend (a b : Value) : argsOk "bytearray.extend" ⟨[a, b], []⟩ := by unfold argsOk; kernel_rfl
theorem type_append : typeOf (.builtin "bytearray.append") = pure (.type "method_descriptor") := by show builtinType _ = _; rw [builtinType_eq_fast]; kernel_rfl
theorem type_extend : typeOf (.builtin "bytearray.extend") = pure (.type "method_descriptor") := by show builtinType _ = _; rw [builtinType_eq_fast]; kernel_rfl
theorem attrs : PlainAttrs "bytearray" :=
  ⟨⟨"bytearray.__getattribute__", by rw [typeLookup_type, builtinLookup_eq_fast]; kernel_rfl, by decide +kernel⟩, by rw [typeLookup_type, builtinLookup_eq_fast]; kernel_rfl⟩
theorem mro : mroOf (.type "bytearray") = pure [.type "bytearray", .type "object"] := by rw [mroOf_type]; kernel_rfl
theorem lookup_new : typeLookup (.type "bytearray") "__new__" = pure (some (.builtin "bytearray.__new__")) := by rw [typeLookup_type, builtinLookup_eq_fast]; kernel_rfl
theorem called : TypeCalled "bytearray" "bytearray.__new__" "bytearray.__init__" :=
  ⟨by decide +kernel, by decide +kernel, ⟨_, _, mro⟩, madeBy_type mro lookup_new (by decide +kernel), by decide +kernel, by rw [isSubtype_type]; kernel_rfl, slot_init⟩
theorem typeCall0 : checkTypeCall "bytearray" ⟨[], []⟩ = pure () := by kernel_rfl
theorem typeCall1 (a : Value) : checkTypeCall "bytearray" ⟨[a], []⟩ = pure () := by kernel_rfl
theorem newCall0 : checkBuiltinCall "bytearray.__new__" ⟨[.type "bytearray"], []⟩ = pure () := by kernel_rfl
theorem newCall1 (a : Value) : checkBuiltinCall "bytearray.__new__" ⟨[.type "bytearray", a], []⟩ = pure () := by kernel_rfl
theorem entry_new : entryFor table "bytearray.__new__" = some Builtin.«list.__new__» := entryFor_alias (id' := "list.__new__") (by kernel_rfl) (by first | rfl | decide +kernel) (by decide +kernel) (by kernel_rfl)
theorem plain_new : plainId "bytearray.__new__" = true := by decide +kernel
theorem sub_self : isSubtype (.type "bytearray") (.type "bytearray") = pure true := by rw [isSubtype_type]; kernel_rfl
theorem lk_release : typeLookup (.type "bytearray") "__release_buffer__" = pure (some (.builtin "bytearray.__release_buffer__")) := by rw [typeLookup_type, builtinLookup_eq_fast]; kernel_rfl
theorem lk_buffer : typeLookup (.type "bytearray") "__buffer__" = pure (some (.builtin "bytearray.__buffer__")) := by rw [typeLookup_type, builtinLookup_eq_fast]; kernel_rfl
theorem lk_bytes : typeLookup (.type "bytearray") "__bytes__" = pure none := by rw [typeLookup_type, builtinLookup_eq_fast]; kernel_rfl
theorem lk_index : typeLookup (.type "bytearray") "__index__" = pure none := by rw [typeLookup_type, builtinLookup_eq_fast]; kernel_rfl
theorem bkb_buffer : typeLookup (.type "bytes") "__buffer__" = pure (some (.builtin "bytes.__buffer__")) := by rw [typeLookup_type, builtinLookup_eq_fast]; kernel_rfl
theorem bkb_release : typeLookup (.type "bytes") "__release_buffer__" = pure none := by rw [typeLookup_type, builtinLookup_eq_fast]; kernel_rfl
theorem bkb_bytes : typeLookup (.type "bytes") "__bytes__" = pure (some (.builtin "bytes.__bytes__")) := by rw [typeLookup_type, builtinLookup_eq_fast]; kernel_rfl
theorem nh_append : (!Builtin.Bytes.decodersThatHold.contains "bytearray.append") = true := by decide +kernel
theorem nh_extend : (!Builtin.Bytes.decodersThatHold.contains "bytearray.extend") = true := by decide +kernel
theorem nh_init : (!Builtin.Bytes.decodersThatHold.contains "bytearray.__init__") = true := by decide +kernel
theorem bind0 : Builtin.Bytes.bindOptional "bytearray.__init__" "bytearray" ["source", "encoding", "errors"] [] [] = pure [none, none, none] := by kernel_rfl
theorem bind1 (v : Value) : Builtin.Bytes.bindOptional "bytearray.__init__" "bytearray" ["source", "encoding", "errors"] [v] [] = pure [some v, none, none] := by kernel_rfl
theorem ends_release : ("bytearray.__release_buffer__" : String).endsWith ("." ++ "__release_buffer__") = true := by decide +kernel
theorem drop_release : ("bytearray.__release_buffer__" : String).dropRight ("__release_buffer__".length + 1) = "bytearray" := by decide +kernel
theorem ends_buffer : ("bytearray.__buffer__" : String).endsWith ("." ++ "__buffer__") = true := by decide +kernel
theorem drop_buffer : ("bytearray.__buffer__" : String).dropRight ("__buffer__".length + 1) = "bytearray" := by decide +kernel
theorem ends_bbuffer : ("bytes.__buffer__" : String).endsWith ("." ++ "__buffer__") = true := by decide +kernel
theorem drop_bbuffer : ("bytes.__buffer__" : String).dropRight ("__buffer__".length + 1) = "bytes" := by decide +kernel
end BA
set_option maxHeartbeats 4000000 in
theorem BA.owner_new : ("bytearray.__new__".splitOn ".__new__").headD "" = "bytearray" := by simp +decide [String.splitOn, String.splitOnAux]
end Mine

set_option linter.unusedSimpArgs false
set_option linter.deprecated false
namespace Mine
open PySem PySem.W PySem.Calls PyProof.Rows PySem.Spec

variable {K : Frag} {D : Wd K} {c : FC} {g : Gh} {A : Around} {Z Z' Z'' : Addr → Prop} {st st' st'' : St} {s s' s'' : Shared} {U : List Addr} {hp hp' hp'' : Hp} {cl : Bool} {n m : Nat}

section
variable {prog : Program} {w : World} {E : Value → Shared → Prop}
theorem under_plain {id : String} (h : plainId id = true) (args : Args) : A.under (.builtin id args) = A.in1 := by
  unfold Around.under Around.in1
  rw [PySem.Around.under_plainId h args]
theorem call_entryX {T : String} {name : Str} {id : String} {b : Builtin} {self : Value} {rest : List Value} {Q : Value → Shared → Prop} (h : Slot T name id) (hT : s.TypeIs self T) (hb : entryFor table id = some b) (ha : argsOk id ⟨self :: rest, []⟩)
    (hn : (!Builtin.Bytes.decodersThatHold.contains id) = true) (hc : wpAny (model prog w) A.in1 (b ⟨self :: rest, []⟩) (fun fin s' => ∃ v, fin = .done (.ret v) ∧ Q v s') E s) : wpAny (model prog w) A (call (.builtin id) (self :: rest)) Q E s := by
  refine wpAny_call (codeAny_call_builtin_code (plainId_quiet h.plain _) (of (h.check _ _ _ _ _ _ _ _ hT ha (codeAny_builtin hb ?_ hn))))
  rw [under_plain h.plain]
  refine wpAny_mono hc (fun fin s' h' => ?_) fun _ _ e => e
  obtain ⟨v, rfl, hv⟩ := h'
  exact hv

/-- nobody holds it -/
theorem not_held {Γ : PySem.Ctx} {B : PySem.Around} {p : Pos} (hΓ : Γ.In B) (hg : B.guards = some []) (hc : noHold Γ.code = true ∧ CleanB Γ.below) : ∀ x ∈ (Γ.code, p) :: Γ.below, x.1.isGuard = false ∧ noHold x.1 = true := by
  have e := hΓ.2.2.2.1 [] hg
  obtain ⟨e1, e2⟩ := List.append_eq_nil_iff.mp e
  intro x hx
  rcases List.mem_cons.mp hx with rfl | hx
  · refine ⟨?_, hc.1⟩
    unfold Code.guards at e1
    cases q : Γ.code.isGuard with
    | false => rfl
    | true => rw [q] at e1; cases e1
  · refine ⟨?_, hc.2 x hx⟩
    have : x.1 ∉ guardsOf Γ.below := by rw [e2]; exact fun h => nomatch h
    unfold guardsOf at this
    rw [List.mem_filter] at this
    cases q : x.1.isGuard with
    | false => rfl
    | true => exact absurd ⟨List.mem_map_of_mem hx, q⟩ this
theorem exported_no {v : Value} {Q : Bool → Shared → Prop} (hcl : A.cl = true) (hg : A.guards = some []) (q : Q false s) : wpAny (model prog w) A (Builtin.Bytes.exported v) Q E s := fun Γ p hΓ hc => by
  have hno := not_held (p := p) hΓ hg (hc hcl)
  unfold Builtin.Bytes.exported
  rw [Sem.wp_bind']
  unfold stack
  rw [Sem.wp_stack]
  show Sem.wp _ Γ (pure _) _ _ p s
  rw [Sem.wp_pure']
  suffices h : ((Γ.code, p) :: Γ.below).any _ = false by rw [h]; exact q
  rw [List.any_eq_false]
  intro x hx
  obtain ⟨h1, h2⟩ := hno x hx
  obtain ⟨c, p'⟩ := x
  dsimp only at h1 h2 ⊢
  have g1 : (guardIds.contains "bytearray.__contains__") = true := by decide +kernel
  have g2 : (guardIds.contains "bytearray.__mod__") = true := by decide +kernel
  have g3 : (guardIds.contains "bytearray.__rmod__") = true := by decide +kernel
  have g4 : (guardIds.contains "_struct.pack_into.held") = true := by decide +kernel
  have g5 : (guardIds.contains "bytearray.find.held") = true := by decide +kernel
  split
  · rename_i heq; cases heq; exact absurd (g1.symm.trans h1) (fun e => nomatch e)
  · rename_i heq; cases heq; exact absurd (g2.symm.trans h1) (fun e => nomatch e)
  · rename_i heq; cases heq; exact absurd (g3.symm.trans h1) (fun e => nomatch e)
  · rename_i heq; cases heq; exact absurd (g4.symm.trans h1) (fun e => nomatch e)
  · rename_i heq; cases heq; exact absurd (g5.symm.trans h1) (fun e => nomatch e)
  · rename_i heq
    cases heq
    have h3 : (!Builtin.Bytes.decodersThatHold.contains _) = true := h2
    rw [Bool.not_eq_true'] at h3
    rw [h3, Bool.and_false]
    exact fun e => nomatch e
  · exact fun e => nomatch e
theorem checkResize_no {a : Addr} {b : Array UInt8} {Q : Unit → Shared → Prop} (hcl : A.cl = true) (hg : A.guards = some []) (ho : s.heap.get? a = some { cls := .type "bytearray", data := .bytearray b }) (q : Q () s) :
    wpAny (model prog w) A (Builtin.Bytes.checkResize (.ref a)) Q E s := by
  unfold Builtin.Bytes.checkResize
  refine wpAny_bind (wpAny_bind (exported_no hcl hg ?_))
  show wpAny _ _ (Builtin.Bytes.exportsOf (.ref a) >>= fun n => pure (decide (n > 0))) _ _ _
  refine wpAny_bind ?_
  unfold Builtin.Bytes.exportsOf
  refine wpAny_bind (of (PySem.wpAny_load ho ?_))
  show wpAny _ _ (pure 0) _ _ _
  exact wpAny_pure (wpAny_pure (wpAny_pure q))
theorem write_ba {a : Addr} {b : Array UInt8} {f : Array UInt8 → Array UInt8} {Q : Unit → Shared → Prop} {B : PySem.Around} (ho : s.heap.get? a = some { cls := .type "bytearray", data := .bytearray b }) (hz : (f b).size ≤ 16777216)
    (q : ∀ h', Heap.SameBut a s.heap h' → h'.get? a = some { cls := .type "bytearray", data := .bytearray (f b) } → Q () { s with heap := h' }) : PySem.wpAny (model prog w) B (Builtin.Bytes.write (.ref a) f) Q E s := by
  show PySem.wpAny _ _ (updateBytearray a f) _ _ _
  unfold updateBytearray
  refine PySem.wpAny_bind (PySem.wpAny_load ho ?_)
  show PySem.wpAny _ _ (update a (Obj.mapBytearray f) >>= fun _ => lookBehind a) _ _ _
  refine PySem.wpAny_bind (PySem.wpAny_update ho ?_)
  have h2 : (s.heap.update a (Obj.mapBytearray f)).get? a = some { cls := .type "bytearray", data := .bytearray (f b) } := Heap.get?_update_self (Obj.mapBytearray f) ho rfl
  refine PySem.wpAny_lookBehind h2 ?_ (q _ (Heap.SameBut.update ..) h2)
  show (if (f b).size > sizeLine then some "bytearray:memory" else none) = none
  rw [if_neg]
  rw [sizeLine_eq]; omega
theorem byteValue_eq {i : Int} {t : Tok} (h0 : 0 ≤ i) (h1 : i < 256) : Builtin.Bytes.byteValue (.int i t) = pure i.toNat.toUInt8 := by
  unfold Builtin.Bytes.byteValue
  show (pure i >>= fun i => _) = _
  rw [pure_bind]
  have : (decide (i < 0) || decide (i ≥ 256)) = false := by simp only [Bool.or_eq_false_iff, decide_eq_false_iff_not]; omega
  rw [this]; rfl
theorem append_ba {a : Addr} {b : Array UInt8} {i : Int} {t : Tok} {Q : Value → Shared → Prop} (hcl : A.cl = true) (hg : A.guards = some []) (ho : s.heap.get? a = some { cls := .type "bytearray", data := .bytearray b }) (h0 : 0 ≤ i) (h1 : i < 256) (hz : b.size < 16777216)
    (q : ∀ h', Heap.SameBut a s.heap h' → h'.get? a = some { cls := .type "bytearray", data := .bytearray (b.push i.toNat.toUInt8) } → Q .none { s with heap := h' }) :
    wpAny (model prog w) A (call (.builtin "bytearray.append") [.ref a, .int i t]) Q E s := by
  refine call_entryX BA.slot_append ⟨_, ho, rfl⟩ BA.entry_append (BA.args_append _ _) BA.nh_append ?_
  show wpAny _ _ (Builtin.Bytes.byteValue (.int i t) >>= fun c => Builtin.Bytes.checkResize (.ref a) >>= fun _ => Builtin.Bytes.write (.ref a) (·.push c) >>= fun _ => ret .none) _ _ _
  rw [byteValue_eq h0 h1]
  refine wpAny_bind (wpAny_pure (wpAny_bind (checkResize_no hcl hg ho (wpAny_bind (of (write_ba ho (by rw [Array.size_push]; omega) fun h' hs hh => ?_))))))
  exact wpAny_pure ⟨_, rfl, q h' hs hh⟩

theorem slotIsOwn_ba_release {a : Addr} {b : Array UInt8} {B : PySem.Around} {Q : Bool → Shared → Prop} (ho : s.heap.get? a = some { cls := .type "bytearray", data := .bytearray b }) (q : Q true s) : PySem.wpAny (model prog w) B (Builtin.Bytes.slotIsOwn (.ref a) "__release_buffer__") Q E s := by
  have hT : s.TypeIs (.ref a) "bytearray" := ⟨_, ho, rfl⟩
  unfold Builtin.Bytes.slotIsOwn
  refine PySem.wpAny_bind (wpAny_specialOf hT BA.lk_release ?_)
  try dsimp only
  rw [BA.ends_release]
  show PySem.wpAny _ _ (isInstance (.ref a) (.type (("bytearray.__release_buffer__" : String).dropRight ("__release_buffer__".length + 1)))) _ _ _
  rw [BA.drop_release]
  exact wpAny_isInstance hT BA.sub_self q
theorem ownRelease_ba {a : Addr} {b : Array UInt8} {B : PySem.Around} {Q : Bool → Shared → Prop} (ho : s.heap.get? a = some { cls := .type "bytearray", data := .bytearray b }) (q : Q false s) : PySem.wpAny (model prog w) B (Builtin.Bytes.ownRelease (.ref a)) Q E s := by
  unfold Builtin.Bytes.ownRelease
  exact PySem.wpAny_bind (slotIsOwn_ba_release ho (PySem.wpAny_pure q))
theorem slotIsOwn_ba_buffer {a : Addr} {b : Array UInt8} {B : PySem.Around} {Q : Bool → Shared → Prop} (ho : s.heap.get? a = some { cls := .type "bytearray", data := .bytearray b }) (q : Q true s) : PySem.wpAny (model prog w) B (Builtin.Bytes.slotIsOwn (.ref a) "__buffer__") Q E s := by
  have hT : s.TypeIs (.ref a) "bytearray" := ⟨_, ho, rfl⟩
  unfold Builtin.Bytes.slotIsOwn
  refine PySem.wpAny_bind (wpAny_specialOf hT BA.lk_buffer ?_)
  try dsimp only
  rw [BA.ends_buffer]
  show PySem.wpAny _ _ (isInstance (.ref a) (.type (("bytearray.__buffer__" : String).dropRight ("__buffer__".length + 1)))) _ _ _
  rw [BA.drop_buffer]
  exact wpAny_isInstance hT BA.sub_self q
theorem slotIsOwn_by_buffer {b : Array UInt8} {t : Tok} {B : PySem.Around} {Q : Bool → Shared → Prop} (q : Q true s) : PySem.wpAny (model prog w) B (Builtin.Bytes.slotIsOwn (.bytes b t) "__buffer__") Q E s := by
  have hT : s.TypeIs (.bytes b t) "bytes" := typeIs_bytes _ _ _
  unfold Builtin.Bytes.slotIsOwn
  refine PySem.wpAny_bind (wpAny_specialOf hT BA.bkb_buffer ?_)
  try dsimp only
  rw [BA.ends_bbuffer]
  show PySem.wpAny _ _ (isInstance (.bytes b t) (.type (("bytes.__buffer__" : String).dropRight ("__buffer__".length + 1)))) _ _ _
  rw [BA.drop_bbuffer]
  exact wpAny_isInstance hT F.bm_sub q
theorem ownRelease_by {b : Array UInt8} {t : Tok} {B : PySem.Around} {Q : Bool → Shared → Prop} (q : Q false s) : PySem.wpAny (model prog w) B (Builtin.Bytes.ownRelease (.bytes b t)) Q E s := by
  unfold Builtin.Bytes.ownRelease Builtin.Bytes.slotIsOwn
  exact PySem.wpAny_bind (PySem.wpAny_bind (wpAny_specialOf (typeIs_bytes _ _ _) BA.bkb_release (PySem.wpAny_pure (PySem.wpAny_pure q))))
theorem buffer_ba {id : String} {a : Addr} {b : Array UInt8} {B : PySem.Around} {f : Bool} {Q : Option (Array UInt8) → Shared → Prop} (ho : s.heap.get? a = some { cls := .type "bytearray", data := .bytearray b }) (q : Q (some b) s) : PySem.wpAny (model prog w) B (Builtin.Bytes.buffer? id (.ref a) f) Q E s := by
  have hT : s.TypeIs (.ref a) "bytearray" := ⟨_, ho, rfl⟩
  unfold Builtin.Bytes.buffer?
  refine PySem.wpAny_bind (wpAny_specialOf hT BA.lk_buffer ?_)
  try dsimp only
  refine PySem.wpAny_bind (slotIsOwn_ba_buffer ho ?_)
  show PySem.wpAny _ _ (specialOf (.ref a) "__buffer__" >>= _) _ _ _
  refine PySem.wpAny_bind (wpAny_specialOf hT BA.lk_buffer ?_)
  try dsimp only
  refine PySem.wpAny_bind (ownRelease_ba ho ?_)
  show PySem.wpAny _ _ (Builtin.Bytes.payload (.ref a) >>= fun b => pure (some b)) _ _ _
  unfold Builtin.Bytes.payload Builtin.Bytes.payload?
  refine PySem.wpAny_bind (PySem.wpAny_bind (PySem.wpAny_bind (PySem.wpAny_load ho ?_)))
  exact PySem.wpAny_pure (PySem.wpAny_pure (PySem.wpAny_pure q))
theorem buffer_by {id : String} {b : Array UInt8} {t : Tok} {B : PySem.Around} {f : Bool} {Q : Option (Array UInt8) → Shared → Prop} (q : Q (some b) s) : PySem.wpAny (model prog w) B (Builtin.Bytes.buffer? id (.bytes b t) f) Q E s := by
  have hT : s.TypeIs (.bytes b t) "bytes" := typeIs_bytes _ _ _
  unfold Builtin.Bytes.buffer?
  refine PySem.wpAny_bind (wpAny_specialOf hT BA.bkb_buffer ?_)
  try dsimp only
  refine PySem.wpAny_bind (slotIsOwn_by_buffer ?_)
  show PySem.wpAny _ _ (specialOf (.bytes b t) "__buffer__" >>= _) _ _ _
  refine PySem.wpAny_bind (wpAny_specialOf hT BA.bkb_buffer ?_)
  try dsimp only
  refine PySem.wpAny_bind (ownRelease_by ?_)
  exact PySem.wpAny_bind (PySem.wpAny_pure (PySem.wpAny_pure q))
theorem payload_ba {a : Addr} {b : Array UInt8} {B : PySem.Around} {Q : Array UInt8 → Shared → Prop} (ho : s.heap.get? a = some { cls := .type "bytearray", data := .bytearray b }) (q : Q b s) : PySem.wpAny (model prog w) B (Builtin.Bytes.payload (.ref a)) Q E s := by
  unfold Builtin.Bytes.payload Builtin.Bytes.payload?
  exact PySem.wpAny_bind (PySem.wpAny_bind (PySem.wpAny_load ho (PySem.wpAny_pure (PySem.wpAny_pure q))))
theorem extend_ba {a : Addr} {b c : Array UInt8} {t : Tok} {Q : Value → Shared → Prop} (hcl : A.cl = true) (hg : A.guards = some []) (ho : s.heap.get? a = some { cls := .type "bytearray", data := .bytearray b }) (hz : b.size + c.size ≤ 16777216)
    (q : ∀ h', Heap.SameBut a s.heap h' → h'.get? a = some { cls := .type "bytearray", data := .bytearray (b ++ c) } → Q .none { s with heap := h' }) :
    wpAny (model prog w) A (call (.builtin "bytearray.extend") [.ref a, .bytes c t]) Q E s := by
  have hT : s.TypeIs (.bytes c t) "bytes" := typeIs_bytes _ _ _
  refine call_entryX BA.slot_extend ⟨_, ho, rfl⟩ BA.entry_extend (BA.args_extend _ _) BA.nh_extend ?_
  unfold Builtin.«bytearray.extend»
  refine wpAny_bind (wpAny_of_eq (a := (Value.ref a, Value.bytes c t)) rfl ?_)
  try dsimp only
  refine wpAny_bind (of (wpAny_specialOf hT BA.bkb_buffer ?_))
  refine ite_yes rfl ?_
  refine wpAny_bind (wpAny_rule (wpAny_bind (of (payload_ba ho ?_))))
  refine wpAny_bind (of ?_)
  unfold Builtin.Bytes.takeBufferQuiet?
  refine PySem.wpAny_bind (PySem.wpAny_attempt ?_)
  unfold Builtin.Bytes.takeBuffer?
  refine PySem.wpAny_bind (wpAny_specialOf hT BA.bkb_buffer ?_)
  try dsimp only
  refine PySem.wpAny_bind (slotIsOwn_by_buffer ?_)
  show PySem.wpAny _ _ (specialOf (.bytes c t) "__buffer__" >>= _) _ _ _
  refine PySem.wpAny_bind (wpAny_specialOf hT BA.bkb_buffer ?_)
  try dsimp only
  refine PySem.wpAny_bind (buffer_by (PySem.wpAny_pure (PySem.wpAny_pure ?_)))
  have fin : wpAny (model prog w) A.in1 (Builtin.Bytes.write (.ref a) (· ++ c) >>= fun _ => ret .none) (fun fin s' => ∃ v, fin = Fin.done (Flow.ret v) ∧ Q v s') E s :=
    wpAny_bind (of (write_ba ho (by rw [Array.size_append]; exact hz) fun h' hs hh => wpAny_pure ⟨_, rfl, q h' hs hh⟩))
  show wpAny _ _ (if (!c.isEmpty) = true then (Builtin.Bytes.checkResize (.ref a) >>= fun _ => Builtin.Bytes.write (.ref a) (· ++ c) >>= fun _ => ret .none) else (Builtin.Bytes.write (.ref a) (· ++ c) >>= fun _ => ret .none)) _ _ _
  by_cases hc : (!c.isEmpty) = true
  · exact ite_yes hc (wpAny_bind (checkResize_no hcl hg ho fin))
  · exact ite_no hc fin

theorem new_ba {rest : List Value} {B : PySem.Around} {Q : Value → Shared → Prop} (hr : checkBuiltinCall "bytearray.__new__" ⟨.type "bytearray" :: rest, []⟩ = pure ())
    (h : Q (.ref s.heap.objs.size) { s with heap := s.heap.push { cls := .type "bytearray", data := .bytearray #[] } }) : PySem.wpAny (model prog w) B (call (.builtin "bytearray.__new__") (.type "bytearray" :: rest)) Q E s := by
  refine PySem.wpAny_call (PySem.codeAny_call_builtin_code (plainId_quiet BA.plain_new _) (PySem.wpAny_of_eq hr (codeAny_builtin_stack BA.entry_new rfl fun p st => ?_)))
  rw [PySem.Around.under_plainId BA.plain_new _]
  have hsub := BA.sub_self
  have hown := BA.owner_new
  obtain ⟨hp, g, d, tk, os⟩ := s
  simp only [hown]
  wp_walk
  exact h

theorem init_ba0 {a : Addr} {Q : Value → Shared → Prop} (hcl : A.cl = true) (hg : A.guards = some []) (ho : s.heap.get? a = some { cls := .type "bytearray", data := .bytearray #[] })
    (q : ∀ h', Heap.SameBut a s.heap h' → h'.get? a = some { cls := .type "bytearray", data := .bytearray #[] } → Q .none { s with heap := h' }) : wpAny (model prog w) A (call (.builtin "bytearray.__init__") [.ref a]) Q E s := by
  refine call_entryX BA.slot_init ⟨_, ho, rfl⟩ BA.entry_init (BA.args_init0 _) BA.nh_init ?_
  unfold Builtin.«bytearray.__init__»
  dsimp only
  refine wpAny_bind (of (ownRelease_ba ho ?_))
  refine ite_no (fun e => nomatch e) ?_
  rw [BA.bind0]
  refine wpAny_bind (wpAny_pure ?_)
  dsimp only
  refine wpAny_bind (wpAny_of_eq (a := ()) rfl (wpAny_bind (wpAny_of_eq (a := ()) rfl ?_)))
  refine wpAny_bind (wpAny_bind (exported_no hcl hg ?_))
  show wpAny _ _ (Builtin.Bytes.exportsOf (.ref a) >>= fun n => pure (decide (n > 0))) _ _ _
  refine wpAny_bind ?_
  unfold Builtin.Bytes.exportsOf
  refine wpAny_bind (of (PySem.wpAny_load ho ?_))
  show wpAny _ _ (pure 0) _ _ _
  refine wpAny_pure (wpAny_pure (ite_no (fun e => nomatch e) ?_))
  refine wpAny_bind (of (write_ba ho (Nat.zero_le _) fun h1 hs1 hh1 => ?_))
  exact wpAny_bind (wpAny_of_eq (a := ()) rfl (wpAny_pure ⟨_, rfl, q h1 hs1 hh1⟩))
theorem init_baN {a : Addr} {i : Int} {t : Tok} {Q : Value → Shared → Prop} (hcl : A.cl = true) (hg : A.guards = some []) (ho : s.heap.get? a = some { cls := .type "bytearray", data := .bytearray #[] }) (h0 : 0 < i) (hi : i ≤ 16777216)
    (q : ∀ h', Heap.SameBut a s.heap h' → h'.get? a = some { cls := .type "bytearray", data := .bytearray (Array.replicate i.toNat 0) } → Q .none { s with heap := h' }) : wpAny (model prog w) A (call (.builtin "bytearray.__init__") [.ref a, .int i t]) Q E s := by
  refine call_entryX BA.slot_init ⟨_, ho, rfl⟩ BA.entry_init (BA.args_init1 _ _) BA.nh_init ?_
  unfold Builtin.«bytearray.__init__»
  dsimp only
  refine wpAny_bind (of (ownRelease_ba ho ?_))
  refine ite_no (fun e => nomatch e) ?_
  rw [BA.bind1]
  refine wpAny_bind (wpAny_pure ?_)
  dsimp only
  refine wpAny_bind (wpAny_of_eq (a := ()) rfl (wpAny_bind (wpAny_of_eq (a := ()) rfl ?_)))
  refine wpAny_bind (wpAny_bind (exported_no hcl hg ?_))
  show wpAny _ _ (Builtin.Bytes.exportsOf (.ref a) >>= fun n => pure (decide (n > 0))) _ _ _
  refine wpAny_bind ?_
  unfold Builtin.Bytes.exportsOf
  refine wpAny_bind (of (PySem.wpAny_load ho ?_))
  show wpAny _ _ (pure 0) _ _ _
  refine wpAny_pure (wpAny_pure (ite_no (fun e => nomatch e) ?_))
  refine wpAny_bind (of (write_ba ho (Nat.zero_le _) fun h1 hs1 hh1 => ?_))
  refine wpAny_bind (wpAny_of_eq (a := none) rfl ?_)
  refine ite_no (fun e => nomatch e) ?_
  refine wpAny_bind (wpAny_of_eq (a := ()) rfl ?_)
  refine wpAny_bind (of (wpAny_specialOf (typeIs_int _ _ _) F.slot_int_index.lookup ?_))
  refine ite_yes rfl ?_
  refine wpAny_bind (wpAny_attempt ?_)
  refine wpAny_of_eq (a := i) rfl ?_
  dsimp only
  have f1 : (!Builtin.Bytes.fitsIndex i) = false := by unfold Builtin.Bytes.fitsIndex; simp; omega
  refine ite_no (by rw [f1]; exact fun e => nomatch e) (ite_no (by omega) (ite_no (by simp; omega) (ite_no (by unfold Builtin.Bytes.tooLong; simp [sizeLine]; omega) ?_)))
  refine wpAny_bind (wpAny_rule (ite_yes h0 ?_))
  refine wpAny_bind (of (write_ba hh1 (by rw [Array.size_replicate]; omega) fun h2 hs2 hh2 => ?_))
  exact wpAny_pure ⟨_, rfl, q h2 (hs1.trans hs2) hh2⟩
theorem init_baB {a d : Addr} {b : Array UInt8} {Q : Value → Shared → Prop} (hcl : A.cl = true) (hg : A.guards = some []) (ho : s.heap.get? a = some { cls := .type "bytearray", data := .bytearray #[] }) (hd : s.heap.get? d = some { cls := .type "bytearray", data := .bytearray b }) (hda : d ≠ a) (hz : b.size ≤ 16777216)
    (q : ∀ h', Heap.SameBut a s.heap h' → h'.get? a = some { cls := .type "bytearray", data := .bytearray b } → Q .none { s with heap := h' }) : wpAny (model prog w) A (call (.builtin "bytearray.__init__") [.ref a, .ref d]) Q E s := by
  refine call_entryX BA.slot_init ⟨_, ho, rfl⟩ BA.entry_init (BA.args_init1 _ _) BA.nh_init ?_
  unfold Builtin.«bytearray.__init__»
  dsimp only
  refine wpAny_bind (of (ownRelease_ba ho ?_))
  refine ite_no (fun e => nomatch e) ?_
  rw [BA.bind1]
  refine wpAny_bind (wpAny_pure ?_)
  dsimp only
  refine wpAny_bind (wpAny_of_eq (a := ()) rfl (wpAny_bind (wpAny_of_eq (a := ()) rfl ?_)))
  refine wpAny_bind (wpAny_bind (exported_no hcl hg ?_))
  show wpAny _ _ (Builtin.Bytes.exportsOf (.ref a) >>= fun n => pure (decide (n > 0))) _ _ _
  refine wpAny_bind ?_
  unfold Builtin.Bytes.exportsOf
  refine wpAny_bind (of (PySem.wpAny_load ho ?_))
  show wpAny _ _ (pure 0) _ _ _
  refine wpAny_pure (wpAny_pure (ite_no (fun e => nomatch e) ?_))
  refine wpAny_bind (of (write_ba ho (Nat.zero_le _) fun h1 hs1 hh1 => ?_))
  have hd1 : h1.get? d = some { cls := .type "bytearray", data := .bytearray b } := (hs1.2 d hda).trans hd
  refine wpAny_bind (wpAny_bind (of (PySem.wpAny_load hd1 ?_)))
  refine wpAny_pure (ite_no (fun e => nomatch e) ?_)
  refine wpAny_bind (wpAny_of_eq (a := ()) rfl ?_)
  refine wpAny_bind (of (wpAny_specialOf (T := "bytearray") ⟨_, hd1, rfl⟩ BA.lk_index ?_))
  refine ite_no (fun e => nomatch e) ?_
  refine wpAny_bind (of (buffer_ba hd1 ?_))
  dsimp only
  refine wpAny_bind (wpAny_rule (wpAny_bind (of (write_ba hh1 hz fun h2 hs2 hh2 => ?_))))
  exact wpAny_pure ⟨_, rfl, q h2 (hs1.trans hs2) hh2⟩

theorem make_ba {rest : List Value} {Q : Value → Shared → Prop} (hct : checkTypeCall "bytearray" ⟨rest, []⟩ = pure ()) (hcn : checkBuiltinCall "bytearray.__new__" ⟨.type "bytearray" :: rest, []⟩ = pure ())
    (hi : wpAny (model prog w) A.in1 (call (.builtin "bytearray.__init__") (.ref s.heap.objs.size :: rest)) (fun v s' => v = .none ∧ Q (.ref s.heap.objs.size) s') E { s with heap := s.heap.push { cls := .type "bytearray", data := .bytearray #[] } }) :
    wpAny (model prog w) A (call (.type "bytearray") rest) Q E s := by
  obtain ⟨cm, tl, hmro⟩ := BA.called.mro
  refine wpAny_call (codeAny_call_type (codeAny_builtin entry_typeCall ?_ nh_tc) (Code.quiet_builtin _ (by decide +kernel)))
  have eu : A.under (.builtin "type.__call__" ⟨.type "bytearray" :: rest, []⟩) = A.in1 := by
    unfold Around.under Around.in1
    rw [PySem.Around.under_plain (weight_type_call_type "bytearray" rest []) (units_type_call_type "bytearray" rest [])]
  rw [eu]
  unfold Builtin.«type.__call__»
  dsimp only
  refine ite_no (by rw [BA.called.notType]; exact fun e => nomatch e) ?_
  refine ite_no (by rw [BA.called.canCreate]; exact fun e => nomatch e) ?_
  rw [hct]
  refine wpAny_bind (wpAny_pure ?_)
  rw [hmro]
  refine wpAny_bind (wpAny_pure (ite_no (fun e => nomatch e) ?_))
  rw [BA.called.made]
  refine wpAny_bind (wpAny_pure ?_)
  dsimp only
  refine wpAny_bind (wpAny_pure (wpAny_bind (wpAny_holding (of (new_ba hcn ?_)))))
  have ho : (s.heap.push { cls := .type "bytearray", data := .bytearray #[] }).get? s.heap.objs.size = some { cls := .type "bytearray", data := .bytearray #[] } := Heap.get?_push_size _ rfl
  have hT : ({ s with heap := s.heap.push { cls := .type "bytearray", data := .bytearray #[] } } : Shared).TypeIs (.ref s.heap.objs.size) "bytearray" := ⟨_, ho, rfl⟩
  refine wpAny_bind (of (wpAny_isInstance hT BA.sub_self ?_))
  refine ite_no (fun e => nomatch e) ?_
  refine wpAny_bind (wpAny_holding ?_)
  unfold callSpecial?
  refine wpAny_bind (of (wpAny_specialOf hT BA.slot_init.lookup ?_))
  dsimp only
  rw [BA.slot_init.bind]
  refine wpAny_holding (wpAny_bind (wpAny_pure (wpAny_bind (wpAny_mono hi (fun v s' hv => wpAny_pure ?_) fun _ _ e => e))))
  obtain ⟨rfl, hv⟩ := hv
  dsimp only
  exact ite_no (fun e => nomatch e) (wpAny_pure hv)
end
end Mine

set_option linter.unusedSimpArgs false
set_option linter.deprecated false
namespace Mine
open PySem PySem.W PySem.Calls PyProof.Rows PySem.Spec

variable {K : Frag} {D : Wd K} {c : FC} {g : Gh} {A : Around} {Z Z' Z'' : Addr → Prop} {st st' st'' : St} {s s' s'' : Shared} {U : List Addr} {hp hp' hp'' : Hp} {cl : Bool} {n m : Nat}

theorem swap_of_snoc {a : Addr} {o o' : AO} : ∀ hp : Hp, Swap (hp ++ [(a, o)]) a o' (hp ++ [(a, o')])
  | [] => .head
  | _ :: r => .tail (swap_of_snoc r)
theorem has_of_snoc {a : Addr} {o : AO} : ∀ hp : Hp, Has (hp ++ [(a, o)]) a o
  | [] => .head
  | _ :: r => .tail (has_of_snoc r)
/-- a new bytearray, filled by its init -/
theorem ba_new {vs : List Value} {b : List UInt8} {P : AV → Hp → Prop} {E : Value → Shared → Prop} {Q : Value → Shared → Prop} (H : HR D Z U hp s.heap) (hct : checkTypeCall "bytearray" ⟨vs, []⟩ = pure ()) (hcn : checkBuiltinCall "bytearray.__new__" ⟨.type "bytearray" :: vs, []⟩ = pure ())
    (hi : ∀ Q', (∀ h', Heap.SameBut s.heap.objs.size (s.heap.push { cls := .type "bytearray", data := .bytearray #[] }) h' → h'.get? s.heap.objs.size = some { cls := .type "bytearray", data := .bytearray b.toArray } → Q' Value.none { s with heap := h' }) →
      wpAny D.M A.in1 (call (.builtin "bytearray.__init__") (.ref s.heap.objs.size :: vs)) Q' E { s with heap := s.heap.push { cls := .type "bytearray", data := .bytearray #[] } })
    (k : ∀ s', CS D U Z hp s Z (hp ++ [(s.heap.objs.size, .bytearray b)]) s' → Q (.ref s.heap.objs.size) s') : wpAny D.M A (call (.type "bytearray") vs) Q E s := by
  refine make_ba hct hcn (hi _ fun h' hs hh => ⟨rfl, ?_⟩)
  have C1 := CS.track H (o := { cls := .type "bytearray", data := .bytearray #[] }) (x := .bytearray []) (tk := s.toks) (Heap.get?_push_size _ rfl)
  exact k _ (C1.trans (CS.swap (tk := s.toks) C1.hr (swap_of_snoc hp) hs fun _ _ => hh))
theorem call_ba0 {P : AV → Hp → Prop} (h : ∀ a, P (.val (.ref a)) (hp ++ [(a, .bytearray [])])) : CallT true D n (.type "bytearray") [] hp P := by
  intro A U Z s vs G H r Q E k
  cases r
  refine ba_new (b := []) (P := P) H BA.typeCall0 BA.newCall0 (fun Q' hq => init_ba0 (G.cln rfl) G.gds (Heap.get?_push_size _ rfl) hq) fun s' C => k _ _ _ _ _ (h _) C rep_val
theorem call_baN {i : Int} {P : AV → Hp → Prop} (h0 : 0 < i) (hi : i ≤ 16777216) (h : ∀ a, P (.val (.ref a)) (hp ++ [(a, .bytearray (List.replicate i.toNat 0))])) : CallT true D n (.type "bytearray") [.int i] hp P := by
  intro A U Z s vs G H r Q E k
  obtain ⟨_, rfl, t, rfl⟩ := reps_one r
  refine ba_new (b := List.replicate i.toNat 0) (P := P) H (BA.typeCall1 _) (BA.newCall1 _) (fun Q' hq => init_baN (G.cln rfl) G.gds (Heap.get?_push_size _ rfl) h0 hi fun h' hs hh => hq h' hs (by rw [hh]; simp)) fun s' C => k _ _ _ _ _ (h _) C rep_val
theorem call_baB {d : Addr} {b : List UInt8} {P : AV → Hp → Prop} (hd : Has hp d (.bytearray b)) (hz : b.length ≤ 16777216) (h : ∀ a, P (.val (.ref a)) (hp ++ [(a, .bytearray b)])) : CallT true D n (.type "bytearray") [.val (.ref d)] hp P := by
  intro A U Z s vs G H r Q E k
  obtain ⟨_, rfl, rfl⟩ := reps_one r
  have ho : s.heap.get? d = some _ := H.objs _ hd.mem
  refine ba_new (b := b) (P := P) H (BA.typeCall1 _) (BA.newCall1 _) (fun Q' hq => init_baB (G.cln rfl) G.gds (Heap.get?_push_size _ rfl) (Heap.get?_push_of_some _ ho) (fun e => dead_live (e ▸ dead_size) ⟨_, ho⟩) (by simpa using hz) hq) fun s' C => k _ _ _ _ _ (h _) C rep_val

theorem getM_ba {a : Addr} {b : List UInt8} {name : Str} {id : String} (slot : Slot "bytearray" name id) (hty : typeOf (.builtin id) = pure (.type "method_descriptor")) (hh : Has hp a (.bytearray b)) : GetM D hp (.val (.ref a)) name (.builtin id) := by
  rintro A U Z s _ pl Q E H rfl hq
  have ho : s.heap.get? a = some _ := H.objs _ hh.mem
  exact of (getMethod_builtin (T := "bytearray") ⟨_, ho, rfl⟩ BA.attrs slot hty (fun b e => by cases e; exact ⟨_, ho, rfl⟩) hq)
theorem getM_ba_append {a : Addr} {b : List UInt8} (hh : Has hp a (.bytearray b)) : GetM D hp (.val (.ref a)) "append" (.builtin "bytearray.append") := getM_ba BA.slot_append BA.type_append hh
theorem getM_ba_extend {a : Addr} {b : List UInt8} (hh : Has hp a (.bytearray b)) : GetM D hp (.val (.ref a)) "extend" (.builtin "bytearray.extend") := getM_ba BA.slot_extend BA.type_extend hh
theorem call_ba_append {a : Addr} {b : List UInt8} {i : Int} (hh : Has hp a (.bytearray b)) (h0 : 0 ≤ i) (h1 : i < 256) (hz : b.length < 16777216) (w : Swap hp a (.bytearray (b ++ [i.toNat.toUInt8])) hp') :
    CallT true D n (.builtin "bytearray.append") [.val (.ref a), .int i] hp (fun x hp2 => x = .none ∧ hp2 = hp') := by
  intro A U Z s vs G H r Q E k
  obtain ⟨_, _, rfl, rfl, t, rfl⟩ := reps_two r
  refine append_ba (G.cln rfl) G.gds (H.objs _ hh.mem) h0 h1 (by simpa using hz) fun h' hs hq => ?_
  exact k .none .none Z hp' _ ⟨rfl, rfl⟩ (CS.swap (tk := s.toks) H w hs fun _ _ => by show h'.get? a = _; rw [hq]; simp) rfl
theorem call_ba_extend {a : Addr} {b c : List UInt8} (hh : Has hp a (.bytearray b)) (hz : b.length + c.length ≤ 16777216) (w : Swap hp a (.bytearray (b ++ c)) hp') :
    CallT true D n (.builtin "bytearray.extend") [.val (.ref a), .bytes c] hp (fun x hp2 => x = .none ∧ hp2 = hp') := by
  intro A U Z s vs G H r Q E k
  obtain ⟨_, _, rfl, rfl, t, rfl⟩ := reps_two r
  refine extend_ba (G.cln rfl) G.gds (H.objs _ hh.mem) (by simpa using hz) fun h' hs hq => ?_
  exact k .none .none Z hp' _ ⟨rfl, rfl⟩ (CS.swap (tk := s.toks) H w hs fun _ _ => by show h'.get? a = _; rw [hq]; simp) rfl

theorem subscript_int {prog : Program} {w : World} {B : PySem.Around} {E : Value → Shared → Prop} {i : Int} {t : Tok} {Q : Option Int → Shared → Prop} (h0 : 0 ≤ i) (h1 : i < 2 ^ 62) (q : Q (some i) s) : PySem.wpAny (model prog w) B (Builtin.Bytes.subscript? (.int i t)) Q E s := by
  unfold Builtin.Bytes.subscript?
  refine PySem.wpAny_bind (wpAny_specialOf (typeIs_int _ _ _) F.slot_int_index.lookup ?_)
  show PySem.wpAny _ _ (pure i >>= fun k => _) _ _ _
  refine PySem.wpAny_bind (PySem.wpAny_pure ?_)
  have f1 : (!Builtin.Bytes.fitsIndex i) = false := by unfold Builtin.Bytes.fitsIndex; simp; omega
  show PySem.wpAny _ _ (if (!Builtin.Bytes.fitsIndex i) = true then _ else _) _ _ _
  rw [if_neg (by rw [f1]; exact fun e => nomatch e)]
  exact PySem.wpAny_pure q
theorem sub_ba {a : Addr} {b : List UInt8} {i : Int} (hh : Has hp a (.bytearray b)) (h0 : 0 ≤ i) (hb : i < 2 ^ 62) (hi : i < b.length) : Sub D hp (.val (.ref a)) (.int i) (.int (b.getD i.toNat 0).toNat) := by
  rintro A U Z s _ _ H rfl ⟨t, rfl⟩
  have ho : s.heap.get? a = some _ := H.objs _ hh.mem
  have hT : s.TypeIs (.ref a) "bytearray" := ⟨_, ho, rfl⟩
  refine ⟨"bytearray", _, BA.slot_getitem.lookup, hT, fun Q E k => of (wpAny_getItem_slot hT (by decide) BA.slot_getitem (wpAny_call_entry BA.slot_getitem hT BA.entry_getitem ?_ (BA.args_getitem _ _)))⟩
  unfold Builtin.«bytearray.__getitem__»
  refine PySem.wpAny_bind (PySem.wpAny_of_eq (a := (Value.ref a, [Value.int i t])) rfl ?_)
  dsimp only
  refine PySem.wpAny_bind (subscript_int h0 hb ?_)
  dsimp only
  refine PySem.wpAny_bind (payload_ba ho ?_)
  have hl : i.toNat < b.length := by omega
  have e : seqIndex? i b.toArray.size = some i.toNat := seqIndex_pos h0 (by simpa using hi)
  have e2 : ((some i.toNat).bind fun x => b.toArray[x]?) = some (b.getD i.toNat 0) := by simp [hl]
  rw [e, e2]
  show PySem.wpAny _ _ (retInt (b.getD i.toNat 0).toNat) _ _ _
  exact PySem.wpAny_bind (PySem.wpAny_mkInt (PySem.wpAny_pure ⟨_, rfl, k _ _ Z hp _ ⟨rfl, rfl⟩ (CS.tok H) rep_int⟩))
theorem setI_ba {a : Addr} {b : List UInt8} {i v : Int} (hh : Has hp a (.bytearray b)) (h0 : 0 ≤ i) (hb : i < 2 ^ 62) (hi : i < b.length) (v0 : 0 ≤ v) (v1 : v < 256) (hz : b.length ≤ 16777216) (w : Swap hp a (.bytearray (b.set i.toNat v.toNat.toUInt8)) hp') :
    SetI D hp (.val (.ref a)) (.int i) (.int v) hp' := by
  rintro A U Z s _ _ _ H rfl ⟨t, rfl⟩ ⟨u, rfl⟩ Q E k
  have ho : s.heap.get? a = some _ := H.objs _ hh.mem
  have hT : s.TypeIs (.ref a) "bytearray" := ⟨_, ho, rfl⟩
  refine of ?_
  unfold setItem
  refine PySem.wpAny_holding (PySem.wpAny_bind (wpAny_sequenceKey hT (by decide) (PySem.wpAny_bind (wpAny_callSpecial?_slot (name := Str.ofString "__setitem__") hT BA.slot_setitem (wpAny_call_entry BA.slot_setitem hT BA.entry_setitem ?_ (BA.args_setitem _ _ _))))))
  unfold Builtin.«bytearray.__setitem__»
  refine (show PySem.wpAny _ _ (Builtin.Bytes.subscript? (.int i t) >>= fun r => _) _ _ _ from PySem.wpAny_bind (subscript_int h0 hb ?_))
  dsimp only
  rw [byteValue_eq v0 v1]
  refine PySem.wpAny_bind (PySem.wpAny_pure (PySem.wpAny_bind (payload_ba ho ?_)))
  have e : seqIndex? i b.toArray.size = some i.toNat := seqIndex_pos h0 (by simpa using hi)
  rw [e]
  dsimp only
  refine PySem.wpAny_bind (write_ba ho (by simpa using hz) fun h' hs hq => PySem.wpAny_pure ⟨_, rfl, ?_⟩)
  exact PySem.wpAny_pure (k _ (CS.swap (tk := s.toks) H w hs fun _ _ => by show h'.get? a = _; rw [hq]; simp))
theorem meets_len (a : Addr) (b : Array UInt8) : Meets (Builtin.«bytearray.__len__» ⟨[.ref a], []⟩) (fun _ R s => s.heap.get? a = some { cls := .type "bytearray", data := .bytearray b } ∧ R (.ok (.ret (.int b.size s.toks))) { s with toks := s.toks + 1 }) := by
  refine .of_wp fun prog w A R s hS => ?_
  obtain ⟨ho, h⟩ := hS
  show PySem.wpAny _ _ (Builtin.Bytes.payload (.ref a) >>= fun b => retInt b.size) _ _ s
  refine PySem.wpAny_bind (payload_ba ho ?_)
  exact PySem.wpAny_bind (PySem.wpAny_mkInt (PySem.wpAny_pure ⟨_, rfl, h⟩))
theorem len_ba {a : Addr} {b : List UInt8} (hh : Has hp a (.bytearray b)) (hl : b.length < 2 ^ 62) : CallV cl D n (.builtin "len") [.val (.ref a)] hp (.int b.length) := by
  intro A U Z s vs G H r Q E k
  obtain ⟨_, rfl, rfl⟩ := reps_one r
  have ho : s.heap.get? a = some _ := H.objs _ hh.mem
  refine of (call_len_meets (T := "bytearray") (n := ((b.toArray.size : Nat) : Int)) ⟨_, ho, rfl⟩ BA.slot_len BA.entry_len (BA.args_len _) (meets_len a b.toArray) (by simp) (by simp; omega) (fun Q' q => ⟨ho, q⟩) ?_)
  have e : ((b.toArray.size : Nat) : Int) = b.length := by simp
  rw [e]
  exact k _ _ Z hp _ ⟨rfl, rfl⟩ (CS.tok H) rep_int

section
variable {prog : Program} {w : World} {E : Value → Shared → Prop}
theorem bytes_start {B : PySem.Around} {v : Value} {Q : Value → Shared → Prop} (h : PySem.wpAny (model prog w) B.in1.in1 (Builtin.«bytes.__new__» ⟨[.type "bytes", v], []⟩) (fun fin s' => ∃ r, fin = .done (.ret r) ∧ s'.TypeIs r "bytes" ∧ Q r s') E s) : PySem.wpAny (model prog w) B (call (.type "bytes") [v]) Q E s := by
  refine callType_codes (Q₁ := fun obj s₁ => s₁.TypeIs obj "bytes" ∧ Q obj s₁) F.bm_called (F.bm_typeCall _) F.entry_object_init (PySem.codeAny_call_builtin_code (plainId_quiet F.bm_plain _) (PySem.wpAny_of_eq (F.bm_newCall _) (PySem.codeAny_builtin F.bm_entry ?_))) fun obj s₁ h₁ => ?_
  · rw [PySem.Around.under_plainId F.bm_plain _]
    refine PySem.wpAny_mono h (fun fin s' hf => ?_) fun _ _ e => e
    obtain ⟨r, rfl, hr⟩ := hf
    exact hr
  · exact ⟨h₁.1, F.args_object_init_2 obj _, object_init_meets F.bm_called.init.lookup F.bm_called.made (by decide) prog w B.in1 _ s₁ ⟨h₁.1, rfl, h₁.2⟩⟩
theorem bytes_of_ba {B : PySem.Around} {a : Addr} {b : Array UInt8} {Q : Value → Shared → Prop} (ho : s.heap.get? a = some { cls := .type "bytearray", data := .bytearray b }) (hz : b.size ≤ 16777216) (q : Q (.bytes b s.toks) { s with toks := s.toks + 1 }) :
    PySem.wpAny (model prog w) B (call (.type "bytes") [.ref a]) Q E s := by
  have hT : s.TypeIs (.ref a) "bytearray" := ⟨_, ho, rfl⟩
  refine bytes_start ?_
  unfold Builtin.«bytes.__new__»
  refine PySem.wpAny_bind (PySem.wpAny_of_eq (a := true) rfl ?_)
  refine bm_if_false rfl ?_
  refine PySem.wpAny_bind (PySem.wpAny_of_eq F.bm_sub ?_)
  refine bm_if_false rfl ?_
  refine PySem.wpAny_bind (PySem.wpAny_of_eq (F.bm_bind _) ?_)
  refine PySem.wpAny_bind (PySem.wpAny_of_eq (a := ()) rfl ?_)
  refine PySem.wpAny_bind (PySem.wpAny_of_eq (a := ()) rfl ?_)
  refine bm_if_false rfl ?_
  refine PySem.wpAny_bind (wpAny_specialOf hT BA.lk_bytes ?_)
  refine PySem.wpAny_bind (PySem.wpAny_bind ?_)
  show PySem.wpAny _ _ (load a >>= _) _ _ _
  refine PySem.wpAny_bind (PySem.wpAny_load ho ?_)
  refine PySem.wpAny_pure (PySem.wpAny_pure ?_)
  refine bm_if_false rfl ?_
  refine PySem.wpAny_bind (wpAny_specialOf hT BA.lk_index ?_)
  refine bm_if_true rfl ?_
  refine PySem.wpAny_bind ?_
  refine (buffer_ba ho ?_)
  dsimp only
  refine PySem.wpAny_bind (PySem.wpAny_rule (PySem.wpAny_bind (wpAny_mkBytes ?_ (by rw [sizeLine_eq]; exact hz))))
  show PySem.wpAny _ _ (if (Value.type "bytes" == Value.type "bytes") = true then (ret (.bytes b s.toks) >>= fun r => pure r) else _) _ _ _
  refine bm_if_true (by decide) ?_
  exact PySem.wpAny_bind (PySem.wpAny_pure (PySem.wpAny_pure ⟨_, rfl, typeIs_bytes _ _ _, q⟩))
theorem bytes_of_by {B : PySem.Around} {b : Array UInt8} {t : Tok} {Q : Value → Shared → Prop} (q : Q (.bytes b t) s) : PySem.wpAny (model prog w) B (call (.type "bytes") [.bytes b t]) Q E s := by
  have hT : s.TypeIs (.bytes b t) "bytes" := typeIs_bytes _ _ _
  refine bytes_start ?_
  unfold Builtin.«bytes.__new__»
  refine PySem.wpAny_bind (PySem.wpAny_of_eq (a := true) rfl ?_)
  refine bm_if_false rfl ?_
  refine PySem.wpAny_bind (PySem.wpAny_of_eq F.bm_sub ?_)
  refine bm_if_false rfl ?_
  refine PySem.wpAny_bind (PySem.wpAny_of_eq (F.bm_bind _) ?_)
  refine PySem.wpAny_bind (PySem.wpAny_of_eq (a := ()) rfl ?_)
  refine PySem.wpAny_bind (PySem.wpAny_of_eq (a := ()) rfl ?_)
  refine bm_if_false rfl ?_
  refine PySem.wpAny_bind (wpAny_specialOf hT BA.bkb_bytes ?_)
  refine PySem.wpAny_bind (PySem.wpAny_rule ?_)
  refine PySem.wpAny_bind (PySem.wpAny_typeOf hT ?_)
  refine bm_if_true (by decide) ?_
  show PySem.wpAny _ _ (if (Value.type "bytes" == Value.type "bytes") = true then (ret (.bytes b t) >>= fun r => pure r) else _) _ _ _
  refine bm_if_true (by decide) ?_
  exact PySem.wpAny_bind (PySem.wpAny_pure (PySem.wpAny_pure ⟨_, rfl, typeIs_bytes _ _ _, q⟩))
end

theorem bytes_ba {a : Addr} {b : List UInt8} (hh : Has hp a (.bytearray b)) (hz : b.length ≤ 16777216) : CallV cl D n (.type "bytes") [.val (.ref a)] hp (.bytes b) := by
  intro A U Z s vs G H r Q E k
  obtain ⟨_, rfl, rfl⟩ := reps_one r
  have ho : s.heap.get? a = some _ := H.objs _ hh.mem
  exact of (bytes_of_ba ho (by simpa using hz) (k _ _ Z hp _ ⟨rfl, rfl⟩ (CS.tok H) ⟨_, rfl⟩))
theorem bytes_by {b : List UInt8} : CallV cl D n (.type "bytes") [.bytes b] hp (.bytes b) := by
  intro A U Z s vs G H r Q E k
  obtain ⟨_, rfl, t, rfl⟩ := reps_one r
  exact of (bytes_of_by (k _ _ Z hp _ ⟨rfl, rfl⟩ (CS.refl H) ⟨t, rfl⟩))

theorem ex_int {i : Int} {P : Int → Prop} (h : P i) : ∃ j, AV.int i = .int j ∧ P j := ⟨i, rfl, h⟩
theorem ex_bool {i : Bool} {P : Bool → Prop} (h : P i) : ∃ j, AV.bool i = .bool j ∧ P j := ⟨i, rfl, h⟩
theorem ex_sl {x z : AV} {l u : Option Int} {P : AV → Prop} (h : Sl D hp x l u z) (q : P z) : ∃ z, Sl D hp x l u z ∧ P z := ⟨z, h, q⟩

section
variable {p : Prop} [Decidable p] {X Y : Prop} {b : Bool}
theorem dno (h : ¬ p) (q : Y) : if decide p = true then X else Y := by rw [if_neg (by simpa using h)]; exact q
theorem dyes (h : p) (q : X) : if decide p = true then X else Y := by rw [if_pos (by simpa using h)]; exact q
theorem dsplit (q : p → X) (r : ¬ p → Y) : if decide p = true then X else Y := by
  by_cases h : p
  · exact dyes h (q h)
  · exact dno h (r h)
theorem bsplit (q : b = true → X) (r : b = false → Y) : if b = true then X else Y := by cases b with | true => exact q rfl | false => rw [if_neg (fun e => nomatch e)]; exact r rfl
theorem bno (h : b = false) (q : Y) : if b = true then X else Y := by rw [h, if_neg (fun e => nomatch e)]; exact q
theorem byes (h : b = true) (q : X) : if b = true then X else Y := by rw [if_pos h]; exact q
theorem ifTT (q : X) : if true = true then X else Y := by rw [if_pos rfl]; exact q
theorem ifFT (q : Y) : if false = true then X else Y := by rw [if_neg (fun e => nomatch e)]; exact q
end
end Mine

namespace Mine
open PySem PySem.W PySem.Calls PyProof.Rows PySem.Spec

variable {K : Frag} {D : Wd K} {c : FC} {g : Gh} {A : Around} {Z Z' Z'' : Addr → Prop} {st st' st'' : St} {s s' s'' : Shared} {U : List Addr} {hp hp' : Hp}

/-! certain raises -/
noncomputable def Flies (C : Addr) (A : Around) (h h' : Heap) (e : Addr) : Prop :=
  ∃ envs B a0, A.frames = some envs ∧ (∀ b o, h.get? b = some o → b ∉ envs.filterMap (·.frame) → B.get? b = some o) ∧ Heap.FlyingW B envs e (.ref C) a0 h' ∧ h.UpToSlots h'
noncomputable def MadeX (C : Addr) (_ : Around) (h h' : Heap) (e : Addr) : Prop := ∃ vs, Heap.MadeExcOf h h' e (.ref C) vs

noncomputable def SVX (D : Wd K) (c : FC) (st : St) (ss : List Stmt) (κ : Around → Heap → Heap → Addr → Prop) (PR : St → Prop) : Prop :=
  ∀ g A Z s, Rel D c g A Z st s → ∀ Q E, (∀ e Z' st' s1 h', Stp D c g A Z st s Z' st' s1 → PR st' → κ A s1.heap h' e → E (.ref e) { s1 with heap := h' }) → wpAny D.M A (execs ss (c.env g)) Q E s
noncomputable def SV1X (D : Wd K) (c : FC) (st : St) (x : Stmt) (κ : Around → Heap → Heap → Addr → Prop) (PR : St → Prop) : Prop :=
  ∀ g A Z s, Rel D c g A Z st s → ∀ Q E, (∀ e Z' st' s1 h', Stp D c g A Z st s Z' st' s1 → PR st' → κ A s1.heap h' e → E (.ref e) { s1 with heap := h' }) → wpAny D.M A (exec x (c.env g)) Q E s
noncomputable def EVX (D : Wd K) (c : FC) (st : St) (x : Expr) (κ : Around → Heap → Heap → Addr → Prop) (PR : St → Prop) : Prop :=
  ∀ g A Z s, Rel D c g A Z st s → ∀ Q E, (∀ e Z' st' s1 h', Stp D c g A Z st s Z' st' s1 → PR st' → κ A s1.heap h' e → E (.ref e) { s1 with heap := h' }) → wpAny D.M A (eval x (c.env g)) Q E s
noncomputable def CallX (cl : Bool) (D : Wd K) (n : Nat) (f : Value) (xs : List AV) (hp : Hp) (C : Addr) (PR : Hp → Prop) : Prop :=
  ∀ A U Z s vs, Good D true cl n A U s.heap → HR D Z U hp s.heap → reps Z s.heap xs vs → ∀ Q E,
    (∀ e Z' hp' s1 h', CS D U Z hp s Z' hp' s1 → PR hp' → Flies C A s1.heap h' e → E (.ref e) { s1 with heap := h' }) → wpAny D.M A (call f vs) Q E s

variable {κ : Around → Heap → Heap → Addr → Prop} {PR : St → Prop}

theorem SVX_cons {x : Stmt} {rest : List Stmt} (h : SV1 D c st x (fun f st1 => match f with | .next => SVX D c st1 rest κ PR | _ => False)) : SVX D c st (x :: rest) κ PR := by
  intro g A Z s R Q E k
  refine wpAny_execs_cons (h g A Z s R _ _ ?_)
  rintro f Z1 st1 s1 x1 ⟨fl, rf, hP⟩
  cases fl with
  | next =>
    cases rf
    exact hP g A Z1 s1 x1.rel _ _ fun e Z2 st2 s2 h' x2 p q => k e Z2 st2 s2 h' (x1.trans x2) p q
  | brk => exact hP.elim
  | cont => exact hP.elim
  | ret _ => exact hP.elim
theorem SVX_head {x : Stmt} {rest : List Stmt} (h : SV1X D c st x κ PR) : SVX D c st (x :: rest) κ PR := by
  intro g A Z s R Q E k
  exact wpAny_execs_cons (h g A Z s R _ _ k)
theorem SV1X_if {t : Expr} {b o : List Stmt} {pos : Pos} (h : BV D c st t (fun v st1 => if v then SVX D c st1 b κ PR else SVX D c st1 o κ PR)) : SV1X D c st (.If t b o pos) κ PR := by
  intro g A Z s R Q E k
  refine wpAny_If (h g A Z s R _ _ ?_)
  intro v Z1 st1 s1 x1 hP
  cases v with
  | true => exact (show SVX D c st1 b κ PR from hP) g A Z1 s1 x1.rel _ _ fun e Z2 st2 s2 h' x2 p q => k e Z2 st2 s2 h' (x1.trans x2) p q
  | false => exact (show SVX D c st1 o κ PR from hP) g A Z1 s1 x1.rel _ _ fun e Z2 st2 s2 h' x2 p q => k e Z2 st2 s2 h' (x1.trans x2) p q
theorem SV1X_expr {e : Expr} {pos : Pos} (h : EVX D c st e κ PR) (hc : noComp e = true := by rfl) : SV1X D c st (.Expr e pos) κ PR := by
  intro g A Z s R Q E k
  exact wpAny_Expr_any (h g A Z s R _ E k) (by show (c.scope.kind == .module && _) = false; rw [R.ok.kind]; rfl) (swapsWith_plain hc)

/-- a class of one's own exceptions, as it was written -/
noncomputable def ExcK (K : Frag) (C : Addr) : Prop := ∃ nm q N bs bm hdct sn sub ab col dd k0 k1 k2 k3 k5, K.lookup C = some (excClassObj nm q C N bs bm hdct sn sub ab col dd k0 k1 k2 k3 k5 "Exception.__new__") ∧
  nsOkIn K N = true ∧ nsIn K N "__init__" = some none ∧ tailIn K [.type "Exception", .type "BaseException", .type "object"] bm = true

theorem SV1X_raise {x : Str} {C : Addr} {t : Str} {kk : Nat} {np p cpos pos : Pos} (hx : c.scope.names.lookup x = some .globalImplicit) (hd : (x == ("__debug__" : Str)) = false)
    (e : nsIn K mainGlobals x = some (some (.ref C))) (Y : ExcK K C) (hn : c.hn = true) (h : PR st) : SV1X D c st (.Raise (some (.Call (.Name x np) [.Constant (.str t) kk p] [] cpos)) none pos) (MadeX C) PR := by
  intro g A Z s R Q E k
  obtain ⟨nm, q, N, bs, bm, hdct, sn, sub, ab, col, dd, k0, k1, k2, k3, k5, y1, y2, y3, y4⟩ := Y
  have X : K.In s.heap := fun a o e => R.hr.base a o (D.inK a o e)
  have hg : s.heap.Ns mainGlobals D.mg := D.g.keeps R.hr.base
  have T := tail_of_in X y4
  refine of (wpAny_Raise_call_subU (nm := nm) (q := q) (bs := bs) (bm := bm) (hdct := hdct) (sn := sn) (sub := sub) (ab := ab) (col := col) (dd := dd) (k0 := k0) (k1 := k1) (k2 := k2) (k3 := k3) (k5 := k5) (C := C) (N := N) (mN := s.heap.nsMap N) (bmB := [.type "Exception", .type "BaseException", .type "object"]) PySem.F.excBase_Exception (by decide +kernel) PySem.F.excBase_Exception (T.hasType (by decide +kernel))
    (R.good.hand hn) rfl (nsMap_none_of_in X y2 y3) ?_)
  refine Calls.Name_function_global R.ok.kind hx (Calls.loadGlobal_global hg (mg_of D.inK D.g e) ⟨rfl, ?_⟩) hd
  refine Calls.evalArgs_plain ?_
  show PySem.wpAny D.M A.toAround (spliced ((false, eval (.Constant (.str t) kk p) (c.env g)) :: [])) _ _ s
  rw [spliced]
  refine PySem.wpAny_bind (show PySem.wpAny D.M A.toAround (mkText t) _ _ _ from PySem.wpAny_mkText ?_)
  refine PySem.wpAny_bind (PySem.wpAny_pure ?_)
  refine PySem.wpAny_bind (PySem.wpAny_holding ?_)
  rw [spliced]
  refine PySem.wpAny_pure (PySem.wpAny_pure ⟨rfl, (by rw [sizeLine_eq]; show 1 ≤ _; omega), X _ _ y1, .of_isNs (isNs_of_in X y2), T, fun h' e hm => ?_⟩)
  exact k e Z st { s with toks := s.toks + 1 } h' (Stp.tok R) h ⟨_, hm⟩
end Mine

namespace Mine
open PySem PySem.W PySem.Calls PyProof.Rows PySem.Spec

variable {K : Frag} {D : Wd K} {c : FC} {g : Gh} {A : Around} {Z Z' Z'' : Addr → Prop} {st st' st'' : St} {s s' s'' : Shared} {U : List Addr} {hp hp' : Hp}
variable {κ : Around → Heap → Heap → Addr → Prop} {PR : St → Prop}

theorem CS.hide (X : CS D U Z hp s Z' hp' s') (H : HR D Z U hp s.heap) {L : Addr} (dead : s.heap.get? L = none) (hz : ¬ Z' L) (hk : L ∉ keys hp') : CS D U Z hp s Z' hp' { s' with heap := s'.heap.hide L } := by
  have ne : ∀ {b : Addr}, b ≠ L → (s'.heap.hide L).get? b = s'.heap.get? b := fun hb => Heap.hide_ne _ hb
  have al : ∀ {b : Addr} {o : Obj}, s.heap.get? b = some o → b ≠ L := fun e q => by rw [q, dead] at e; cases e
  have h0 : ∀ {b : Addr} {o : Obj}, D.h₀.get? b = some o → b ≠ L := fun e => al (H.base _ _ e)
  have zn : ∀ {b : Addr}, Z' b → b ≠ L := fun z q => hz (q ▸ z)
  have kn : ∀ {p : Addr × AO}, p ∈ hp' → p.1 ≠ L := fun hp q => hk (q ▸ List.mem_map_of_mem hp)
  have un : ∀ {b : Addr}, b ∈ U → b ≠ L := fun hu => by obtain ⟨o, e⟩ := (H.ult _ hu).1; exact al e
  obtain ⟨hr, tr, knew, sh⟩ := X
  refine ⟨⟨fun b o e => (ne (h0 e)).trans (hr.base b o e), fun p hp => repO_mono (fun _ z => z) (fun a o z e => (ne (zn z)).trans e) (fun o e => (ne (kn hp)).trans e) (hr.objs p hp), hr.nodup, hr.off, hr.zu,
    fun a z => ?_, fun a ha => ⟨?_, (hr.ult a ha).2⟩⟩, ⟨fun b o hb hu e => (ne (al e)).trans (tr.keep b o hb hu e), fun b hu hb o e => ?_, tr.zsub, tr.znew, fun b o e => ?_⟩, knew, ?_⟩
  · obtain ⟨o, e⟩ := hr.zlt a z; exact ⟨o, (ne (zn z)).trans e⟩
  · obtain ⟨o, e⟩ := (hr.ult a ha).1; exact ⟨o, (ne (un ha)).trans e⟩
  · obtain ⟨sl, q⟩ := tr.ups b hu hb o e; exact ⟨sl, (ne (un hu)).trans q⟩
  · obtain ⟨o', q⟩ := tr.live b o e; exact ⟨o', (ne (al e)).trans q⟩
  · obtain ⟨h', tk, rfl⟩ := sh; exact ⟨_, tk, rfl⟩

theorem CallX.enter {cl : Bool} {n : Nat} {f : Addr} {oc : Value} {od : Option Addr} {osl : Array (Option Value)} {name qual : Str} {params : Arguments} {body : List Stmt} {scope : Scope} {dV kV doc pm cdv ct : Value} {an : Option Addr}
    {xs : List AV} {C : Addr} {PR : Hp → Prop} (lvl : Nat) (ps rest : List Str)
    (ho : K.lookup f = some ⟨oc, od, .func (fnOf name qual params body scope dV kV doc pm an cdv ct), osl⟩) (hcd : codeIn K cdv qual = true)
    (e7 : lvl < n) (ok : okB scope (ps ++ rest) = true)
    (hlen : ps.length = xs.length)
    (hbind : ∀ vs : List Value, vs.length = ps.length → bindArgs (fnOf name qual params body scope dV kV doc pm an cdv ct) ⟨vs, []⟩ = pure (ps.zip vs))
    (hco : scope.isCoroutine = false) (hgen : scope.isGenerator = false)
    (h : SVX D (mkFC scope qual f cdv (ps ++ rest) lvl cl) ⟨locOf ps xs rest, hp⟩ body (MadeX C) (fun st' => PR st'.hp)) : CallX cl D n (.ref f) xs hp C PR := by
  intro A U Z s vs G H rv Q E k
  refine enter_go (mkFC scope qual f cdv (ps ++ rest) lvl cl) ps rest ho hcd rfl rfl rfl rfl rfl rfl e7 rfl (okB_ok ok) hlen hbind hco hgen G H rv fun g s₁ Hd eU eF dL R toC => ?_
  refine h g _ Z s₁ R _ _ fun e Z2 st2 s2 h' x2 hP hm => ?_
  obtain ⟨vs', hx⟩ := hm
  obtain ⟨outer, ho'⟩ := Hd
  obtain ⟨envs, f1, f2, f3⟩ := x2.rel.good.fr
  obtain rfl : envs = (mkFC scope qual f cdv (ps ++ rest) lvl cl).env g :: outer := by rw [ho'] at f1; exact (Option.some.inj f1).symm
  have hA : A.frames = some outer := by
    have q : A.frames.map ((mkFC scope qual f cdv (ps ++ rest) lvl cl).env g :: ·) = some ((mkFC scope qual f cdv (ps ++ rest) lvl cl).env g :: outer) := ho'
    obtain ⟨o, e1, e2⟩ := Option.map_eq_some_iff.mp q
    rw [e1, (List.cons.inj e2).2]
  refine of (wpAny_leaves_madeW (base := hideAll s2.heap (((mkFC scope qual f cdv (ps ++ rest) lvl cl).env g :: outer).filterMap (·.frame))) ho' rfl (fun b o q => of_hideAll _ q) (funFrames_hide f2 fun env he a ha => List.mem_filterMap.mpr ⟨env, he, ha⟩) hx fun h'' t x1 _ _ x4 => ?_)
  refine k e Z2 st2.hp { s2 with heap := s2.heap.hide g.L } h'' ((toC Z2 st2 s2 x2).hide H dL x2.rel.Lz x2.rel.Lk) hP ⟨outer, _, _, hA, fun b o q hb => hideAll_get _ (Heap.of_hide q) fun hm => ?_, x1, ?_⟩
  · rw [List.filterMap_cons] at hm
    rcases List.mem_cons.mp (show b ∈ g.F :: outer.filterMap (·.frame) from hm) with q' | q'
    · rw [q', eF, Heap.hide_self] at q; cases q
    · exact hb q'
  · have u1 : s2.heap.UpToSlots h'' := (Heap.UpToSlots.of_keeps hx.keeps).trans x4
    exact fun b o q hn => u1 b o (Heap.of_hide q) hn

/-- what flies past a frame leaves it as it was -/
theorem stp_fly {C e : Addr} {h' : Heap} (R : Rel D c g A Z st s) (F : Flies C A s.heap h' e) : Stp D c g A Z st s Z st { s with heap := h' } := by
  obtain ⟨envs, B, a0, f1, f2, f3, f4⟩ := F
  obtain ⟨envs', g1, g2, g3⟩ := R.good.fr
  obtain rfl : envs' = envs := by rw [f1] at g1; exact (Option.some.inj g1).symm
  have inU : ∀ b, b ∈ envs'.filterMap (·.frame) → b ∈ g.U := fun b hb => by obtain ⟨env, he, hf⟩ := List.mem_filterMap.mp hb; exact g3 env he b hf
  have keep : ∀ b o, b ∉ g.U → s.heap.get? b = some o → h'.get? b = some o := fun b o hb e => f3.1 b o (f2 b o e fun hm => hb (inU b hm))
  have ups : ∀ b o, s.heap.get? b = some o → ∃ sl, h'.get? b = some { o with slots := sl } := fun b o e => by
    by_cases hm : b ∈ envs'.filterMap (·.frame)
    · obtain ⟨_, o', e', hn⟩ := g2.mem hm
      rw [e] at e'; cases e'
      exact f4 b o e hn
    · exact ⟨o.slots, f3.1 b o (f2 b o e hm)⟩
  have T : Tr (keys st.hp) g.U Z s.heap Z h' := ⟨fun b o _ hu e => keep b o hu e, fun b _ _ o e => ups b o e, fun _ z => z, fun _ z => .inl z, fun b o e => let ⟨_, q⟩ := ups b o e; ⟨_, q⟩⟩
  have Hr := R.hr
  have H : HR D Z g.U st.hp h' := by
    refine ⟨fun b o e => keep b o (fun hu => by rw [(Hr.ult b hu).2] at e; cases e) (Hr.base b o e), fun p hp => repO_mono (fun _ z => z) (fun a o z e => keep a o (Hr.zu a z) e) (fun o e => keep _ o (Hr.off p hp).2.1 e) (Hr.objs p hp), Hr.nodup, Hr.off, Hr.zu, fun a z => ?_, fun a ha => ⟨?_, (Hr.ult a ha).2⟩⟩
    · obtain ⟨o, e⟩ := Hr.zlt a z; exact ⟨o, keep a o (Hr.zu a z) e⟩
    · obtain ⟨o, e⟩ := (Hr.ult a ha).1; obtain ⟨sl, q⟩ := ups a o e; exact ⟨_, q⟩
  exact Stp.of_heap (s' := { s with heap := h' }) R T H (fun _ h => .inl h) ⟨h', s.toks, rfl⟩

/-- calls that are sure to raise -/
noncomputable def CallXE (D : Wd K) (c : FC) (f : Value) (xs : List AV) (st : St) (C : Addr) (PR : St → Prop) : Prop :=
  ∃ Q, CallX c.cl D c.lvl f xs st.hp C Q ∧ c.hn = true ∧ ∀ hp', Q hp' → PR ⟨st.loc, hp'⟩

theorem XX_call {C : Addr} {f : Value} {first : List Value} {fx : List AV} {pos : Pos} {es : List Expr} (R : Rel D c g A Z st s) (hk : KeepOk K f) (hs : noStar es = true) (hf : reps Z s.heap fx first)
    (h : EVs D c st es (fun xs st1 => CallXE D c f (fx ++ xs) st1 C PR)) {Q E : Value → Shared → Prop}
    (k : ∀ e Z' st' s1 h', Stp D c g A Z st s Z' st' s1 → PR st' → Flies C A s1.heap h' e → E (.ref e) { s1 with heap := h' }) :
    wpAny D.M A (callWith pos f first (backTo pos (starEach es (c.env g))) []) Q E s := by
  refine callWith_of (P := K.In) (by show (((backTo pos (starEach es (c.env g))).any (·.1)) || false) = false; rw [star_any hs]; rfl) (fun h X => hk _ h X) ?_
  refine TT_args R hs h _ E ?_
  rintro ⟨vs, kw⟩ Z1 st1 s1 x1 ⟨hkw, xs, rx, QQ, hc, hn, hP⟩
  subst hkw
  have R1 := x1.rel
  refine ⟨fun a o e => R1.hr.base a o (D.inK a o e), ?_⟩
  have hg : Good D true c.cl c.lvl A g.U s1.heap := hn ▸ R1.good
  refine hc A g.U Z1 s1 (first ++ vs) hg R1.hr (reps_append (x1.reps R hf) rx) _ _ fun e Z2 hp2 s2 h' C2 hq hfl => ?_
  exact k e Z2 ⟨st1.loc, hp2⟩ s2 h' (x1.trans (Stp.of_heap R1 C2.tr C2.hr C2.knew C2.sh)) (hP _ hq) hfl

theorem EVX_Call {C : Addr} {f : Expr} {args : List Expr} {pos : Pos}
    (h : EV D c st f (fun fv st1 => ∃ u, fv = .val u ∧ KeepOk K u ∧ EVs D c st1 args (fun xs st2 => CallXE D c u xs st2 C PR)))
    (hp : plainCallee f = true := by rfl) (hs : noStar args = true := by rfl) : EVX D c st (.Call f args [] pos) (Flies C) PR := by
  intro g A Z s R Q E k
  rw [eval_Call f args pos _ hp]
  refine wpAny_bind (h g A Z s R _ _ ?_)
  rintro v Z1 st1 s1 x1 ⟨x, rx, u, rfl, hk, h1⟩
  cases rx
  exact XX_call x1.rel hk hs reps_nil h1 fun e Z2 st2 s2 h' x2 p q => k e Z2 st2 s2 h' (x1.trans x2) p q

theorem EVX_Method {C : Addr} {o : Expr} {name : Str} {apos pos : Pos} {args : List Expr} {pl : Env → Sem Bool}
    (h : EV D c st o (fun x st1 => ∃ f, GetM D st1.hp x name f ∧ KeepOk K f ∧ EVs D c st1 args (fun xs st2 => CallXE D c f (x :: xs) st2 C PR)))
    (he : ∀ env, eval (.Call (.Attribute o name apos) args [] pos) env = (do
      let ov ← eval o env
      standAt apos.atName
      let (f, first) ← holding [ov] (getMethod ov name (pl env))
      callWith pos f first (backTo pos (starEach args env)) []) := by intro _; rfl)
    (hs : noStar args = true := by rfl) : EVX D c st (.Call (.Attribute o name apos) args [] pos) (Flies C) PR := by
  intro g A Z s R Q E k
  rw [he]
  refine wpAny_bind (h g A Z s R _ _ ?_)
  rintro v Z1 st1 s1 x1 ⟨x, rx, f, hg, hk, h1⟩
  refine wpAny_bind (wpAny_standAt (wpAny_bind (wpAny_holding (hg A g.U Z1 s1 v _ _ _ x1.rel.hr rx ?_))))
  exact XX_call x1.rel hk hs (fx := [x]) (reps_cons rx reps_nil) h1 fun e Z2 st2 s2 h' x2 p q => k e Z2 st2 s2 h' (x1.trans x2) p q
end Mine

namespace Mine
open PySem PySem.W PySem.Calls PyProof.Rows PySem.Spec

variable {K : Frag} {D : Wd K} {c : FC} {g : Gh} {A : Around} {Z Z' Z'' : Addr → Prop} {st st' st'' : St} {s s' s'' : Shared} {U : List Addr} {hp hp' : Hp}
variable {κ : Around → Heap → Heap → Addr → Prop} {PR : St → Prop}

/-- statements of a frame that is on top of the stack -/
noncomputable def SVF (D : Wd K) (c : FC) (st : St) (ss : List Stmt) (P : Fl → St → Prop) : Prop :=
  ∀ g A Z s, Head c g A → Rel D c g A Z st s → TT D c g A Z st s (execs ss (c.env g)) (fun f Z' st' s' => ∃ fl, repFl Z' s'.heap fl f ∧ P fl st')
noncomputable def SV1F (D : Wd K) (c : FC) (st : St) (x : Stmt) (P : Fl → St → Prop) : Prop :=
  ∀ g A Z s, Head c g A → Rel D c g A Z st s → TT D c g A Z st s (exec x (c.env g)) (fun f Z' st' s' => ∃ fl, repFl Z' s'.heap fl f ∧ P fl st')
theorem SVF_of {ss : List Stmt} {P : Fl → St → Prop} (h : SV D c st ss P) : SVF D c st ss P := fun g A Z s _ R => h g A Z s R
theorem SV1F_of {x : Stmt} {P : Fl → St → Prop} (h : SV1 D c st x P) : SV1F D c st x P := fun g A Z s _ R => h g A Z s R
theorem SVF_cons {x : Stmt} {rest : List Stmt} {P : Fl → St → Prop} (h : SV1F D c st x (fun f st1 => match f with | .next => SVF D c st1 rest P | f => P f st1)) : SVF D c st (x :: rest) P := by
  intro g A Z s Hd R Q E k
  refine wpAny_execs_cons (h g A Z s Hd R _ E ?_)
  rintro f Z1 st1 s1 x1 ⟨fl, rf, hP⟩
  cases fl with
  | next =>
    cases rf
    exact (show SVF D c st1 rest P from hP) g A Z1 s1 Hd x1.rel _ E fun a Z2 st2 s2 x2 p => k a Z2 st2 s2 (x1.trans x2) p
  | brk => cases rf; exact k _ _ _ _ x1 ⟨.brk, rfl, hP⟩
  | cont => cases rf; exact k _ _ _ _ x1 ⟨.cont, rfl, hP⟩
  | ret y => obtain ⟨v, rfl, r⟩ := rf; exact k _ _ _ _ x1 ⟨.ret y, ⟨v, rfl, r⟩, hP⟩

theorem CallT.enterF {cl : Bool} {n : Nat} {f : Addr} {oc : Value} {od : Option Addr} {osl : Array (Option Value)} {name qual : Str} {params : Arguments} {body : List Stmt} {scope : Scope} {dV kV doc pm cdv ct : Value} {an : Option Addr}
    {xs : List AV} {P : AV → Hp → Prop} (lvl : Nat) (ps rest : List Str)
    (ho : K.lookup f = some ⟨oc, od, .func (fnOf name qual params body scope dV kV doc pm an cdv ct), osl⟩) (hcd : codeIn K cdv qual = true)
    (e7 : lvl < n) (ok : okB scope (ps ++ rest) = true)
    (hlen : ps.length = xs.length)
    (hbind : ∀ vs : List Value, vs.length = ps.length → bindArgs (fnOf name qual params body scope dV kV doc pm an cdv ct) ⟨vs, []⟩ = pure (ps.zip vs))
    (hco : scope.isCoroutine = false) (hgen : scope.isGenerator = false)
    (h : SVF D (mkFC scope qual f cdv (ps ++ rest) lvl cl) ⟨locOf ps xs rest, hp⟩ body (fun fl st' => match fl with | .ret x => P x st'.hp | _ => P .none st'.hp)) : CallT cl D n (.ref f) xs hp P := by
  intro A U Z s vs G H rv Q E k
  refine enter_go (mkFC scope qual f cdv (ps ++ rest) lvl cl) ps rest ho hcd rfl rfl rfl rfl rfl rfl e7 rfl (okB_ok ok) hlen hbind hco hgen G H rv fun g s₁ Hd eU eF dL R toC => ?_
  refine h g _ Z s₁ Hd R _ _ ?_
  rintro fl Z2 st2 s2 x2 ⟨w, rw', hP⟩
  have C := toC Z2 st2 s2 x2
  cases w with
  | next => cases rw'; exact k _ _ _ _ _ hP C rep_none
  | brk => cases rw'; exact k _ _ _ _ _ hP C rep_none
  | cont => cases rw'; exact k _ _ _ _ _ hP C rep_none
  | ret y => obtain ⟨v, rfl, r⟩ := rw'; exact k _ _ _ _ _ hP C r

/-- a frame while an exception is handled: it calls nothing -/
noncomputable def quiet (c : FC) : FC := { c with hn := false, cl := false }
theorem Rel.quiet {e : Option Value} (R : Rel D c g A Z st s) : Rel D (quiet c) g (A.mark e) Z st s :=
  ⟨R.hr, let ⟨m, a, b⟩ := R.ns; ⟨m, a, Locs.change (c := c) (c' := Mine.quiet c) rfl b⟩, R.names, R.Lz, R.Lk, R.L0, R.cell, R.dist, R.own, R.cvar, R.fu, ⟨(fun e => nomatch e), (fun e => nomatch e), R.good.gds, R.good.dep, R.good.uni, R.good.fr⟩, ⟨R.ok.kind, R.ok.vars, R.ok.nodup, R.ok.dbg⟩⟩
theorem Rel.loud {e : Option Value} (R : Rel D (Mine.quiet c) g (A.mark e) Z st s) (G : Good D c.hn c.cl c.lvl A U s''.heap) : Rel D c g A Z st s :=
  ⟨R.hr, let ⟨m, a, b⟩ := R.ns; ⟨m, a, Locs.change (c := Mine.quiet c) (c' := c) rfl b⟩, R.names, R.Lz, R.Lk, R.L0, R.cell, R.dist, R.own, R.cvar, R.fu, ⟨G.hand, G.cln, G.gds, G.dep, G.uni, R.good.fr⟩, ⟨R.ok.kind, R.ok.vars, R.ok.nodup, R.ok.dbg⟩⟩

section
variable {M : Model} {E : Value → Shared → Prop} {env : Env} {R : Result → Shared → Prop}
theorem wpAny_runOwn_of {cd : Code} {h : Option Value} {Q : Flow → Shared → Prop}
    (hc : codeAny M (A.mark h) cd (fun r s' => match r with | .ok f => Q f s' | .error _ => False) s) (hnb : h ≠ some byPass := by intro x; cases x) :
    wpAny M A (runOwn cd env h) Q E s := by
  unfold runOwn
  refine wpAny_onRaise (wpAny_run (codeAny_mono (A := A.mark h) hc fun r s' h => ?_) hnb)
  cases r with
  | ok f => exact h
  | error e => exact h.elim
theorem tryStmt_except {body orelse : Sem Flow} {h₀ : ExceptHandler} {hs : List ExceptHandler} {Q : Flow → Shared → Prop}
    (h : wpAny M A body (fun f s₁ => match f with | .next => wpAny M A orelse Q E s₁ | f => Q f s₁)
      (fun e s₁ => wpAny M A (noteFrame e env) (fun _ s₂ => wpAny M A (setFlight e none) (fun _ s₃ => wpAny M A (handleBy e env (h₀ :: hs)) Q E s₃) E s₂) E s₁) s) :
    wpAny M A (tryStmt false body (h₀ :: hs) orelse [] env) Q E s := by
  unfold tryStmt
  simp only [List.isEmpty_nil, if_true, List.isEmpty_cons, Bool.false_and, Bool.false_eq_true, if_false]
  refine wpAny_bind (wpAny_attempt (wpAny_mono h (fun f s₁ h₁ => ?_) fun e s₁ h₁ => ?_))
  · cases f <;> first | exact h₁ | exact wpAny_pure h₁
  · exact wpAny_bind (wpAny_mono h₁ (fun _ _ h₂ => wpAny_bind h₂) fun _ _ x => x)
theorem handleBy_hit {e : Value} {t : Expr} {body : List Stmt} {pos : Pos} {rest : List ExceptHandler} {Q : Flow → Shared → Prop}
    (h : codeAny M (A.mark (some e)) (.handlers e [.ExceptHandler (some t) none [] pos] env) (fun r s₁ => match r with
      | .ok .brk => codeAny M (A.mark (some e)) (.handlers e [.ExceptHandler none none body pos] env) (fun r s₂ => match r with
          | .ok f => Q f s₂
          | .error _ => False) s₁
      | _ => False) s) (hnb : e ≠ byPass) :
    wpAny M A (handleBy e env (.ExceptHandler (some t) none body pos :: rest)) Q E s := by
  rw [handleBy]
  have hnb' : (some e : Option Value) ≠ some byPass := fun x => hnb (Option.some.inj x)
  refine wpAny_bind (wpAny_holding (wpAny_runOwn_of (codeAny_mono h (fun r s₁ h₁ => ?_)) hnb'))
  cases r with
  | error x => exact h₁
  | ok f =>
    cases f with
    | brk =>
      refine wpAny_bind (wpAny_pure ?_)
      simp only [Bool.not_true, Bool.false_eq_true, if_false]
      refine wpAny_bind (wpAny_holding (wpAny_runOwn_of (codeAny_mono h₁ (fun r s₂ h₂ => ?_)) hnb'))
      cases r with
      | error x => exact h₂
      | ok f => exact wpAny_pure h₂
    | _ => exact h₁.elim
end
section
variable {prog : Program} {w : World} {E : Value → Shared → Prop} {env : Env} {R : Result → Shared → Prop}
theorem handlers_test {e : Value} {t : Expr} {pos : Pos}
    (h : wpAny (model prog w) A (eval t env) (fun cv s₁ => wpAny (model prog w) A (excMatches e cv) (fun b s₂ => R (.ok (if b then .brk else .next)) s₂) (fun _ _ => False) s₁) (fun _ _ => False) s) :
    codeAny (model prog w) A (.handlers e [.ExceptHandler (some t) none [] pos] env) R s := by
  refine codeAny_of_tree ?_ fun _ => rfl
  show wpAny _ A (do return Fin.done (← (handleWith e env [.ExceptHandler (some t) none [] pos]).onRaise (fun x => do noteFrame x env; theTreesLotGoes x))) _ _ s
  refine wpAny_bind (wpAny_onRaise (wpAny_mono (E := fun _ _ => False) (Q := fun f s' => R (.ok f) s') ?_ (fun f s' q => wpAny_pure q) fun _ _ e => e.elim))
  unfold handleWith
  refine wpAny_bind (wpAny_standAt (wpAny_bind (wpAny_mono h (fun c s₁ h₁ => wpAny_bind (wpAny_standAt (wpAny_bind (wpAny_mono h₁ (fun b s₂ h₂ => wpAny_pure ?_) fun _ _ x => x)))) fun _ _ x => x)))
  exact h₂
theorem handlers_suite {e : Value} {b₀ : Stmt} {body : List Stmt} {pos : Pos}
    (h : wpAny (model prog w) A (setFlight e none) (fun _ s₁ => wpAny (model prog w) A (execs (b₀ :: body) env) (fun f s₂ => R (.ok f) s₂) (fun _ _ => False) s₁) (fun _ _ => False) s) :
    codeAny (model prog w) A (.handlers e [.ExceptHandler none none (b₀ :: body) pos] env) R s := by
  refine codeAny_of_tree ?_ fun _ => rfl
  show wpAny _ A (do return Fin.done (← (handleWith e env [.ExceptHandler none none (b₀ :: body) pos]).onRaise (fun x => do noteFrame x env; theTreesLotGoes x))) _ _ s
  refine wpAny_bind (wpAny_onRaise (wpAny_mono (E := fun _ _ => False) (Q := fun f s' => R (.ok f) s') ?_ (fun f s' q => wpAny_pure q) fun _ _ e => e.elim))
  unfold handleWith
  exact wpAny_bind (wpAny_standAt (wpAny_bind (wpAny_mono h (fun _ s₁ h₁ => wpAny_mono h₁ (fun f s₂ h₂ => h₂) fun _ _ x => x) fun _ _ x => x)))
end

theorem SV1F_tryX {C : Addr} {body : List Stmt} {x : Str} {np hpos pos : Pos} {b₀ : Stmt} {suite : List Stmt} {P : Fl → St → Prop} (hb : SVX D c st body (Flies C) (fun st1 => SV D (quiet c) st1 (b₀ :: suite) P))
    (hx : c.scope.names.lookup x = some .globalImplicit) (hd : (x == ("__debug__" : Str)) = false) (e : nsIn K mainGlobals x = some (some (.ref C))) (Y : ExcK K C) :
    SV1F D c st (.Try body [.ExceptHandler (some (.Name x np)) none (b₀ :: suite) hpos] [] [] pos) P := by
  intro g A Z s Hd R Q E k
  rw [arm_exec_Try]
  refine wpAny_bind (wpAny_standAt (tryStmt_except ?_))
  refine hb g A Z s R _ _ ?_
  intro ex Z1 st1 s1 h1 x1 hS F
  obtain ⟨outer, ho⟩ := Hd
  have x2 : Stp D c g A Z1 st1 s1 Z1 st1 { s1 with heap := h1 } := stp_fly x1.rel F
  obtain ⟨envs, B, a0, f1, f2, f3, f4⟩ := F
  obtain rfl : envs = c.env g :: outer := by rw [ho] at f1; exact (Option.some.inj f1).symm
  refine of (wpAny_looks_onW ho rfl f3 fun h2 held u2 => of (wpAny_landsW held fun h3 fl3 u3 => ?_))
  have u13 : h1.UpToSlots h3 := u2.trans u3
  have x3 : Stp D c g A Z1 st1 s1 Z1 st1 { s1 with heap := h3 } := stp_fly x1.rel ⟨_, B, a0, ho, f2, fl3, f4.trans u13⟩
  obtain ⟨nm, q, N, bs, bm, hdct, sn, sub, ab, col, dd, k0, k1, k2, k3, k5, y1, y2, y3, y4⟩ := Y
  have X : K.In h3 := fun a o e => x3.rel.hr.base a o (D.inK a o e)
  have hg : h3.Ns mainGlobals D.mg := D.g.keeps x3.rel.hr.base
  have T := tail_of_in X y4
  refine handleBy_hit (handlers_test ?_) (by intro q; cases q)
  refine of (Calls.Name_function_global x1.rel.ok.kind hx (Calls.loadGlobal_global hg (mg_of D.inK D.g e) ?_) hd)
  obtain ⟨ob, hob, hcls⟩ := fl3.there
  refine of (wpAny_excMatches_sub_self (nm := nm) (q := q) (bs := bs) (bm := bm) (hdct := hdct) (sn := sn) (sub := sub) (ab := ab) (col := col) (dd := dd) (k0 := k0) (k1 := k1) (k2 := k2) (k3 := k3) (k5 := k5) (C := C) (N := N) (X _ _ y1) hob hcls (T.hasType (by decide +kernel)) ?_)
  refine handlers_suite (of (lands_againW fl3 fun h4 fl4 u4 => ?_))
  have x4 : Stp D c g A Z1 st1 s1 Z1 st1 { s1 with heap := h4 } := stp_fly x1.rel ⟨_, B, a0, ho, f2, fl4, (f4.trans u13).trans u4⟩
  refine hS g (A.mark (some (.ref ex))) Z1 { s1 with heap := h4 } x4.rel.quiet _ _ ?_
  rintro f Z5 st5 s5 x5 hp5
  exact k f Z5 st5 s5 ((x1.trans x4).trans ⟨x5.rel.loud x4.rel.good, x5.tr, x5.knew, x5.sh⟩) hp5

theorem SV1F_try {body : List Stmt} {h₀ : ExceptHandler} {pos : Pos} {P : Fl → St → Prop} (hb : SV D c st body P) : SV1F D c st (.Try body [h₀] [] [] pos) P := by
  intro g A Z s Hd R Q E k
  rw [arm_exec_Try]
  refine wpAny_bind (wpAny_standAt (tryStmt_except ?_))
  refine hb g A Z s R _ _ ?_
  rintro f Z1 st1 s1 x1 ⟨fl, rf, hP⟩
  cases fl with
  | next => cases rf; exact wpAny_pure (k _ _ _ _ x1 ⟨.next, rfl, hP⟩)
  | brk => cases rf; exact k _ _ _ _ x1 ⟨.brk, rfl, hP⟩
  | cont => cases rf; exact k _ _ _ _ x1 ⟨.cont, rfl, hP⟩
  | ret y => obtain ⟨v, rfl, r⟩ := rf; exact k _ _ _ _ x1 ⟨.ret y, ⟨v, rfl, r⟩, hP⟩
end Mine

namespace Mine
open PySem PySem.W PySem.Calls PyProof.Rows PySem.Spec

variable {K : Frag} {D : Wd K} {c : FC} {g : Gh} {A : Around} {Z Z' Z'' : Addr → Prop} {st st' st'' : St} {s s' s'' : Shared} {U : List Addr} {hp hp' : Hp} {cl : Bool} {n m : Nat}

theorem under_frames {C : Addr} {vs : List Value} : (A.under (.builtin "type.__call__" ⟨.ref C :: vs, []⟩)).frames = A.frames := by
  show pushEnvs (Code.builtin "type.__call__" ⟨.ref C :: vs, []⟩).envs A.frames = A.frames
  rw [make_envs]
  cases A.frames <;> rfl
theorem make_TX {C f X : Addr} {xs : List AV} (hm : makesIn K C = true) (hi : findIn K (.ref C) "__init__" = some (some (.ref f))) (hf : typeIn K (.ref f) = some (.type "function")) (hl : m < n)
    (h : ∀ d, CallX cl D m (.ref f) (.obj C d :: xs) (hp ++ [(d, .dict [])]) X (fun hp' => ∃ r, hp' = hp ++ r)) : CallX cl D n (.ref C) xs hp X (fun hp' => hp' = hp) := by
  intro A U Z s vs G H r Q E k
  have XK : K.In s.heap := fun a o e => H.base a o (D.inK a o e)
  have C1 := CS.track H (o := emptyDict) (x := .dict []) (tk := s.toks) ⟨[], 0, Heap.get?_push_size _ rfl, rfl⟩
  have C2 := CS.push C1.hr (o := instObj C s.heap.objs.size) (tk := s.toks)
  have C12 := C1.trans C2
  have esz : (s.heap.push emptyDict).objs.size = s.heap.objs.size + 1 := Heap.size_push _ _
  refine wpAny_call (make_X (makes_of XK hm) (looks_findIn XK hi) (fun self => bind_fn XK self hf) ?_)
  have hx : ((s.heap.push emptyDict).push (instObj C s.heap.objs.size)).get? (s.heap.push emptyDict).objs.size = some (instObj C s.heap.objs.size) := Heap.get?_push_size _ rfl
  have ro : rep (ZZ Z (s.heap.push emptyDict).objs.size) ((s.heap.push emptyDict).push (instObj C s.heap.objs.size)) (.obj C s.heap.objs.size) (.ref (s.heap.objs.size + 1)) :=
    ⟨_, _, by rw [← esz], .inr rfl, hx⟩
  have G' : Good D true cl m (A.under (.builtin "type.__call__" ⟨.ref C :: vs, []⟩)) U ((s.heap.push emptyDict).push (instObj C s.heap.objs.size)) := by
    have G1 := (G.cs C12 H)
    obtain ⟨envs, f1, f2, f3⟩ := G1.fr
    have w1 := make_weight C vs
    refine ⟨fun q => G.hand rfl, G.cln, ?_, ?_, ?_, envs, under_frames.trans f1, f2, f3⟩
    · show pushGuards (Code.builtin "type.__call__" ⟨.ref C :: vs, []⟩).guards A.guards = some []
      rw [G.gds, make_guards]; rfl
    · show A.depth + (Code.builtin "type.__call__" ⟨.ref C :: vs, []⟩).weight + m < _
      rw [w1]; have := G.dep; omega
    · show A.units + (Code.builtin "type.__call__" ⟨.ref C :: vs, []⟩).cUnits + 16 * m + 16 < _
      rw [make_units]; have := G.uni; omega
  have := h s.heap.objs.size (A.under (.builtin "type.__call__" ⟨.ref C :: vs, []⟩)) U _ { s with heap := (s.heap.push emptyDict).push (instObj C s.heap.objs.size) } (.ref (s.heap.objs.size + 1) :: vs) G' C2.hr (reps_cons ro (C12.reps H r))
  refine this _ _ ?_
  rintro e Z' hp' s1 h' C3 ⟨r, rfl⟩ ⟨envs, B, a0, f1, f2, f3, f4⟩
  have C4 := C12.trans C3
  refine k e Z' hp s1 h' ⟨(show HR D Z' U ([] ++ (hp ++ r)) s1.heap from C4.hr).part, C4.tr, fun q hq => .inl hq, C4.sh⟩ rfl ⟨envs, B, a0, under_frames.symm.trans f1, f2, f3, f4⟩

theorem CallX.mono {f : Value} {xs : List AV} {C : Addr} {PR PR' : Hp → Prop} (h : CallX cl D n f xs hp C PR) (hn : n ≤ m) (hpp : ∀ hp, PR hp → PR' hp) : CallX cl D m f xs hp C PR' :=
  fun A U Z s vs G H r Q E k => h A U Z s vs (G.mono hn) H r Q E fun e Z' hp' s1 h' C q F => k e Z' hp' s1 h' C (hpp _ q) F
theorem CallX.up {f : Value} {xs : List AV} {C : Addr} {PR : Hp → Prop} (h : CallX false D n f xs hp C PR) : CallX cl D n f xs hp C PR :=
  fun A U Z s vs G H r => h A U Z s vs ⟨G.hand, (fun e => nomatch e), G.gds, G.dep, G.uni, G.fr⟩ H r
theorem CallX.part {f : Value} {xs : List AV} {C : Addr} {pre mid post : Hp} {PR : Hp → Prop} (h : CallX cl D n f xs mid C PR) : CallX cl D n f xs (pre ++ (mid ++ post)) C (fun hp' => ∃ mid', PR mid' ∧ hp' = pre ++ (mid' ++ post)) :=
  fun A U Z s vs G H r Q E k => h A U Z s vs G H.part r Q E fun e Z' hp' s1 h' C q F => k e Z' _ s1 h' (CS.part H C) ⟨_, q, rfl⟩ F
theorem CallXE_c {b : Bool} {n : Nat} {f : Value} {xs : List AV} {C : Addr} {R : Hp → Prop} {P : St → Prop} (h : CallX b D n f xs st.hp C R) (hP : ∀ hp', R hp' → P ⟨st.loc, hp'⟩) (hl : n ≤ c.lvl := by decide) (hn : c.hn = true := by rfl)
    (hb : b = true → c.cl = true := by first | exact fun _ => rfl | exact fun e => nomatch e) : CallXE D c f xs st C P := by
  refine ⟨R, ?_, hn, hP⟩
  cases b with
  | false => exact (h.mono hl (fun _ q => q)).up
  | true => rw [hb rfl]; exact h.mono hl (fun _ q => q)
end Mine

namespace Mine
open PySem PySem.W PySem.Calls PyProof.Rows PySem.Spec

/-- a call at the caller alone: nothing holds a buffer -/
noncomputable abbrev WalkC (q : Program) (loose : List Str) (XP : (Str → Option Value) → Heap → Prop) (YP : World → Heap → Prop) (r : RowW) (d : DefRec) (kwd : List (Str × Expr)) (run : Value → List Value → Sem Value) : Prop :=
  ∀ (w : World) (s₀ s₁ : Shared) (mg mb : Str → Option Value), Ground q loose r.records XP w s₀ mg mb s₁.heap → YP w s₁.heap → ∀ (a : Addr) (o : Obj) (pm cd doc dV kV : Value), s₁.heap.get? a = some o →
    o.data = .func { docDef d.name d.params d.body d.scope pm cd doc with defaults := dV, kwdefaults := kV } → s₁.heap.CodeRec cd d.name → Dflts mg s₁.heap d.params kwd dV kV → mg d.name = some (.ref a) → s₁.gens = #[] →
    ∀ (args : List WData) (vals : List Value) (as : List Addr), r.claim.pre args = true → WData.layableAll args = true → ReadsAllW r.records (classAt s₀.heap) s₁.heap vals args as → WellAll w.params s₁.heap vals args → (∀ a ∈ as, (a == sysModules) = false) →
      wpAny (model r.prog w) ⟨callerA, true⟩ (run (.ref a) vals) (fun v s' => GoodWG r.claim (classAt s₀.heap) (ExcName.means s₀.heap) args s₁ (.ok (.ret v)) s')
        (fun e s' => GoodWG r.claim (classAt s₀.heap) (ExcName.means s₀.heap) args s₁ (.error e) s') s₁

theorem caller_clean : noHold (.builtin "claim.caller" {}) = true ∧ CleanB [] := ⟨by decide, fun _ h => nomatch h⟩
theorem thread_ends {prog : Program} {w : World} {t : Sem Fin} {s : Shared} {R : Result → Shared → Prop} (hreg : s.asleep)
    (h : wpAny (model prog w) ⟨callerA, true⟩ t (fun fin s' => ∃ f, fin = .done f ∧ (R (.ok f) s' ∧ leftWithCleanup s'.gens = false)) (fun e s' => R (.error e) s' ∧ leftWithCleanup s'.gens = false) s) :
    ∃ n r s' s'', runN (denote table) prog w n s ⟨t, .builtin "claim.caller" {}, default, []⟩ = .halted (outcomeOf r) s' ∧ schedN (denote table) prog w n (.single s ⟨t, .builtin "claim.caller" {}, default, []⟩) = .halted (outcomeOf r) s' ∧ s'.forget = s''.forget ∧ R r s'' := by
  have h0 : Sem.wp (model prog w) ⟨.builtin "claim.caller" {}, none, none, [], none⟩ t (Sem.finPost (model prog w) ⟨.builtin "claim.caller" {}, none, none, [], none⟩ fun r s' => R r s' ∧ leftWithCleanup s'.gens = false)
      (fun e _ s' => R (.error e) s' ∧ leftWithCleanup s'.gens = false) default s := by
    refine Sem.wp_mono _ _ t (fun fin p' s' h' => ?_) (fun _ _ _ h' => h') default s (h _ _ caller_in fun _ => caller_clean)
    obtain ⟨f, rfl, hf⟩ := h'
    exact hf
  obtain ⟨n, r, s₁, s₂, hs, hn, hfo, hR⟩ := wp_halts_full (M := model prog w) (R := R) hreg h0
  exact ⟨n, r, s₂, s₁, hn, hs, hfo, hR⟩

theorem callFrom_of {c : ClaimW} {tree : List Value → Sem Fin} {w : World} {s : Shared} {free : Addr → Prop} {gens : Prop} {kept : Heap → Prop} (hz : s.asleep) (hgens : s.gens = #[])
    (hspec : ∀ args, c.pre args = true → WData.layableAll args = true → ∀ ord : List DictEntry → List DictEntry, (∀ l, (ord l).Perm l) →
      ∃ vs s₁, layAllW c.records (classAt s.heap) w.params ord args s = some (vs, s₁) ∧
        wpAny (model c.prog w) ⟨callerA, true⟩ (tree vs) (fun fin s' => ∃ f, fin = .done f ∧ (c.Ends s args vs s₁ (.ok f) s' ∧ s'.os = s.os ∧ AllBare s'.gens ∧ kept s'.heap))
          (fun e s' => c.Ends s args vs s₁ (.error e) s' ∧ s'.os = s.os ∧ AllBare s'.gens ∧ kept s'.heap) s₁) :
    c.CallFrom (fun vs => ⟨tree vs, .builtin "claim.caller" {}, default, []⟩) w free gens kept s := by
  intro args hpre hlay ord hord
  obtain ⟨vs, s₁, hlaid, hcode⟩ := hspec args hpre hlay ord hord
  have hal := layAllW_rest _ _ _ hlaid
  obtain ⟨k, r, s', s'', hrun, hsched, hfo, hcase, hos, hkp⟩ := thread_ends (prog := c.prog) (w := w) (t := tree vs) (s := s₁) (R := fun r s' => c.Ends s args vs s₁ r s' ∧ s'.os = s.os ∧ kept s'.heap)
    (Shared.asleep_of_life hal.2.2.2 hz)
    (wpAny_mono hcode (fun fin s' ⟨f, e, h1, h2, h3, h4⟩ => ⟨f, e, ⟨h1, h2, h4⟩, leftWithCleanup_false_of_bare h3⟩) fun e s' ⟨h1, h2, h3, h4⟩ => ⟨⟨h1, h2, h4⟩, leftWithCleanup_false_of_bare h3⟩)
  obtain ⟨eh, _, _, eo, _⟩ := Shared.forget_eq hfo
  have hcase := hcase.congr eh
  rw [← eh] at hkp
  rw [← eo] at hos
  have hlife : s'.heap.life = s.heap.life := (runN_life _ _ _ hrun).trans hal.2.2.2
  refine ⟨vs, s₁, hlaid, k, _, s', hsched, ?_, (fun _ i x hx => by rw [hgens] at hx; simp at hx), hkp, by rw [hlife], Shared.rest_eq hos⟩
  rcases hcase with ⟨v, rfl, d1, d2, d3, d4, d5⟩ | ⟨e, ob, cls, rfl, d1, d2, d3, d4, d5⟩
  · exact .inl ⟨v, rfl, d1, d2, d3, fun b o y _ => d4 b o y, d5⟩
  · exact .inr ⟨e, ob, cls, rfl, d1, d2, d3, d4, fun b o y _ => d5 b o y⟩

theorem open_clean {r : RowW} {tree : List Value → Sem Fin} {q : Program} {loose defs kps : List Str} {writes : Bool} {Xt : Shared → Bool} {XP : (Str → Option Value) → Heap → Prop} {α : Type} {Yf : Shared → α} {Ya : World → α} {YP : World → Heap → Prop} {N : Nat}
    (left : LeftO r.prog q loose Xt Yf Ya N) (hY : ∀ w s, Yf s = Ya w → YP w s.heap) (hYk : ∀ w h h', YP w h → (∀ b o, h.get? b = some o → h'.get? b = some o) → YP w h') (hX : ∀ s, Xt s = true → XP (s.heap.nsMap mainGlobals) s.heap) (hXk : ∀ mg h h', XP mg h → (∀ b o, h.get? b = some o → h'.get? b = some o) → XP mg h')
    (hRf : ∀ s, Xt s = true → RecFacts r.records s.heap) (hwr : (!writes || r.records.isEmpty) = true) (ok : (chainsOk q && opensWell r.prog && (frees r && r.within.isEmpty)) = true) (hb : r.prog.bare) (hw : r.promised)
    (pin : ∀ w s, s.heap.isNs mainGlobals = true → Ground q loose [] XP w s (s.heap.nsMap mainGlobals) (s.heap.nsMap builtinsNs) s.heap → ∀ n ∈ defs, isTheDefsW r.prog s.heap n)
    (call : ∀ (w : World) (s₀ s₁ : Shared) (mg mb : Str → Option Value), Ground q loose r.records XP w s₀ mg mb s₁.heap → YP w s₁.heap → ∀ (args : List WData) (vs : List Value) (as : List Addr),
      r.claim.pre args = true → WData.layableAll args = true → Laid r.records w s₀ s₁ args vs as → sysModules < s₀.heap.objs.size →
        wpAny (model r.prog w) ⟨callerA, true⟩ (tree vs) (fun fin s' => ∃ v, fin = .done (.ret v) ∧ GoodWG r.claim (classAt s₀.heap) (ExcName.means s₀.heap) args s₁ (.ok (.ret v)) s')
          (fun e s' => GoodWG r.claim (classAt s₀.heap) (ExcName.means s₀.heap) args s₁ (.error e) s') s₁) : r.claim.HoldsOpenBy (fun vs => ⟨tree vs, .builtin "claim.caller" {}, default, []⟩) defs kps writes := by
  obtain ⟨ok1, k5⟩ := Bool.and_eq_true_iff.mp ok
  obtain ⟨hch, o1⟩ := Bool.and_eq_true_iff.mp ok1
  obtain ⟨k5, k6⟩ := Bool.and_eq_true_iff.mp k5
  obtain ⟨hsame, hu, ha, hap, hm⟩ := frees_parts k5
  have hwi : r.claim.within = [] := List.isEmpty_iff.mp k6
  have both := fun w => left.behind (XP := fun mg h => XP mg h ∧ RecFacts r.records h) (fun s hs => ⟨hX s hs, hRf s hs⟩) hch w
  refine ⟨⟨hb, o1, by show r.makers.map _ = []; rw [hm]; rfl⟩, hw.witness, fun w => ⟨(both w).1, fun s' hs' => ?_⟩⟩
  obtain ⟨s₀, hf, hg0, s, hT, hz, hgens, hg, G2, y⟩ := (both w).2 s' hs'
  have RF := G2.X.2
  have G0 : Ground q loose [] XP w s (s.heap.nsMap mainGlobals) (s.heap.nsMap builtinsNs) s.heap := ⟨G2.T, G2.B, G2.D, G2.TE, G2.TD, G2.W, G2.X.1, G2.cls, G2.has, G2.apart, G2.once, G2.K⟩
  have hgens : s.gens = #[] := Array.eq_empty_of_size_eq_zero (beq_iff_eq.mp hgens)
  have G : Ground q loose r.records XP w s _ _ s.heap := RF.ground G0
  refine ⟨s₀, hf, hg0, s, hT, pin w s hg G0, RF.1, RF.2.1, callFrom_of (c := r.claim) hz hgens fun args hpre hlay ord hord => ?_⟩
  obtain ⟨⟨vs, s₁⟩, hlaid⟩ := Option.isSome_iff_exists.mp (layAllW_isSome (P := w.params) (ord := ord) G.has args r.args s (pre_splitW hpre).1)
  have keeps := layAllW_keeps _ _ _ hlaid
  have hal := layAllW_rest _ _ _ hlaid
  obtain ⟨as, hrd, hin, hold⟩ := reads_layAllW hord _ _ _ hlaid hlay s₁.heap (fun _ _ e => e)
  have L : Laid r.records w s s₁ args vs as := ⟨⟨ord, hord, hlaid⟩, hrd, hin, hold, keeps, hal.1.trans hgens, hal.2.2.1⟩
  have fin : ∀ (x : Result) (s' : Shared), GoodWG r.claim (classAt s.heap) (ExcName.means s.heap) args s₁ x s' → r.claim.Ends s args vs s₁ x s' ∧ s'.os = s.os ∧ AllBare s'.gens ∧
      (writes = true → namesKept r.claim.prog kps s.heap s'.heap ∧ ∀ x ∈ r.claim.records, ∀ a, classAt s.heap x.1 = some a → recordClass s'.heap a x.1 (x.2.map (·.1)) = true) := fun x s' g =>
    have z := g.laid (c := r.claim) hsame hwi (ident_freeW hu ha hap) L
    ⟨z.1, z.2.1, z.2.2, fun q => ⟨namesKept_of hT hg kps keeps g.2.1.old, noTable hwr q⟩⟩
  refine ⟨vs, s₁, hlaid, wpAny_mono (call w s s₁ _ _ (G.keeps hXk keeps) (hYk _ _ _ (hY w s y) keeps) args vs as hpre hlay L G.low) (fun f s' h => ?_) fun e s' g => fin _ _ g⟩
  obtain ⟨v, rfl, g⟩ := h
  exact ⟨_, rfl, fin _ _ g⟩

/-- the head, with the call at the caller alone -/
theorem PySem.W.holds_open {r : OpenRow} {q : Program} {loose : List Str} {Xt : Shared → Bool} {XP : (Str → Option Value) → Heap → Prop} {α : Type} {Yf : Shared → α} {Ya : World → α} {YP : World → Heap → Prop} {d : DefRec} {kwd : List (Str × Expr)} {N : Nat}
    (left : LeftO r.prog q loose Xt Yf Ya N) (hY : ∀ w s, Yf s = Ya w → YP w s.heap) (hYk : ∀ w h h', YP w h → (∀ b o, h.get? b = some o → h'.get? b = some o) → YP w h')
    (hX : ∀ s, Xt s = true → XP (s.heap.nsMap mainGlobals) s.heap) (hXk : ∀ mg h h', XP mg h → (∀ b o, h.get? b = some o → h'.get? b = some o) → XP mg h')
    (hdef : defOf q r.name = some (d, kwd)) (hp : r.prog.theDef r.name = some (d.params, d.body, d.scope)) (hk : kwWritten? d.params.kwonlyargs d.params.kw_defaults = some kwd) (hRf : ∀ s, Xt s = true → RecFacts r.records s.heap) (hwr : (!r.writes || r.records.isEmpty) = true)
    (k1 : r.wellSaid = true) (ok : (chainsOk q && opensWell r.prog && (frees r.toRowW && r.within.isEmpty)) = true) (hb : r.prog.bare) (hw : r.toRowW.promised)
    (call : WalkC q loose XP YP r.toRowW d kwd fun f vs => _root_.PySem.call f vs) : r.Holds := by
  refine ⟨k1, hw, open_clean (r := r.toRowW) (tree := fun vs => do match ← nsGet mainNs r.name with
      | some f => do ret (← _root_.PySem.call f vs)
      | none => unsupported "claim.caller:no-such-global") left hY hYk hX hXk hRf hwr ok hb hw (fun w s hg G n hn => ?_) fun w s₀ s₁ mg mb G Y args vs as hpre hlay L low => ?_⟩
  · obtain rfl : n = r.name := by split at hn <;> simp_all
    exact pinned_of_view hg G hdef hp hk
  · obtain ⟨a, o, pm, cd, doc, dV, kV, h1, h2, h3, h4, h5⟩ := G.fn hdef
    refine wpAny_bind (of (wpAny_nsGet G.T.g ?_))
    rw [h1]
    exact wpAny_bind (wpAny_mono (call w s₀ s₁ mg mb G Y a o pm cd doc dV kV h2 h3 h4 h5 (defOf_name hdef ▸ h1) L.gens args vs as hpre hlay L.reads L.well (L.low low)) (fun v s' g => wpAny_pure ⟨v, rfl, g⟩) fun _ _ g => g)

/-! what the text writes: its classes and defs, found by their places in the row -/
noncomputable abbrev pw : Program := _root_.PySem.Challenge.pw_no0400_01
noncomputable def stP (i : Nat) : Stmt := pw.main.body.getD i (.Pass ⟨0, 0, 0, 0⟩)
noncomputable def fA : Stmt → Arguments
  | .FunctionDef _ a _ _ _ _ _ _ _ _ => a
  | _ => ⟨[], [], none, [], [], none, []⟩
noncomputable def fB : Stmt → List Stmt
  | .FunctionDef _ _ b _ _ _ _ _ _ _ => b
  | .ClassDef _ _ _ b _ _ _ _ _ _ _ => b
  | _ => []
noncomputable def fS : Stmt → Scope
  | .FunctionDef _ _ _ _ _ _ s _ _ _ => s
  | _ => ⟨.function, [], false, false, []⟩
noncomputable def stC (i j : Nat) : Stmt := (fB (stP i)).getD j (.Pass ⟨0, 0, 0, 0⟩)
noncomputable abbrev fnO (name qual : Str) (s : Stmt) (pm cd : Value) : Obj := ⟨.type "function", none, .func (fnOf name qual (fA s) (fB s) (fS s) .none .none .none pm none cd .none), #[]⟩
noncomputable abbrev kv (P : Params) (x : Str) (t : Tok) (v : Value) : DictEntry := { hash := PyData.keyHash P x, key := .str x t, val := v }
noncomputable def KFm (P : Params) : Frag := [
(2, { cls := .none, data := .dict #[kv P "type.__subclasses__.Exception.0" 205 (.int 24 0), kv P "type.__subclasses__.Exception.n" 206 (.int 1 0)] 2 }),
(3, { cls := .type "dict", data := .dict #[kv P "__name__" 165 (.str "law_no0400_01" 513), kv P "__doc__" 166 (.none), kv P "__package__" 167 (.none), kv P "__loader__" 168 (.builtin "__main__.__loader__#opaque"), kv P "__spec__" 169 (.none), kv P "__annotations__" 170 (.ref 6), kv P "__builtins__" 171 (.ref 4), kv P "__file__" 173 (.str "/claim/cut.py" 172), kv P "__cached__" 174 (.none), kv P "KeepError" 208 (.ref 24), kv P "StoreError" 224 (.ref 37), kv P "Corrupt" 240 (.ref 49), kv P "ShortOctets" 256 (.ref 61), kv P "BadOption" 272 (.ref 73), kv P "BuildOrder" 288 (.ref 85), kv P "MAX_32" 292 (.int 4294967295 291), kv P "HASH_SEED" 294 (.int 3164544308 293), kv P "HASH_MUL" 296 (.int 3332679571 295), kv P "HASH_SHIFT" 298 (.int 24 297), kv P "put_fixed32" 305 (.ref 94), kv P "read_fixed32" 313 (.ref 101), kv P "bloom_hash" 324 (.ref 108), kv P "MOST_PROBES" 328 (.int 30 327), kv P "LEAST_FILTER_BITS" 330 (.int 64 329), kv P "WORD" 332 (.int 4294967295 331), kv P "Bloom" 395 (.ref 139), kv P "FilterBuilder" 463 (.ref 188), kv P "FilterReader" 512 (.ref 216), kv P "_law_take" 524 (.ref 227), kv P "_law_word" 530 (.ref 232), kv P "_law_fix" 536 (.ref 237), kv P "_law_num" 542 (.ref 242), kv P "_law_lamps" 548 (.ref 247), kv P "_law_one" 554 (.ref 252), kv P "_law_body" 567 (.ref 259), kv P "_law_lit" 577 (.ref 266), kv P "_law_says" 592 (.ref 273), kv P "_law_refused" 601 (.ref 280), kv P "_law_bad" 610 (.ref 287), kv P "_law_altered" 616 (.ref 292), kv P "law" 622 (.ref 297)] 41 }),
(15, { cls := .type "tuple", data := .seq #[.type "Exception"] }),
(22, { cls := .type "tuple", data := .seq #[] }),
(23, { cls := .type "dict", data := .dict #[kv P "__module__" 196 (.str "raftkeep.errors" 187), kv P "__firstlineno__" 200 (.int 2 199), kv P "__static_attributes__" 201 (.ref 22), kv P "__weakref__" 203 (.ref 25), kv P "__doc__" 204 (.none)] 3 }),
(24, { cls := .type "type", data := .cls { name := "KeepError", bases := [.type "Exception"], mro := [.ref 24, .type "Exception", .type "BaseException", .type "object"], ns := 23, qualname := "KeepError", subclasses := [.ref 37] }, slots := #[some (.ref 15), none, some (.str "KeepError" 189), some (.str "KeepError" 197), some (.builtin "Exception.__new__"), some (.bool true)] }),
(25, { cls := .type "getset_descriptor", data := .fields #[.str "__weakref__" 202, .ref 24, .builtin "ExceptionGroup.__weakref__", .none] }),
(28, { cls := .type "tuple", data := .seq #[.ref 24] }),
(35, { cls := .type "tuple", data := .seq #[] }),
(36, { cls := .type "dict", data := .dict #[kv P "__module__" 216 (.str "raftkeep.errors" 187), kv P "__firstlineno__" 220 (.int 4 219), kv P "__static_attributes__" 221 (.ref 35), kv P "__doc__" 222 (.none)] 2 }),
(37, { cls := .type "type", data := .cls { name := "StoreError", bases := [.ref 24], mro := [.ref 37, .ref 24, .type "Exception", .type "BaseException", .type "object"], ns := 36, qualname := "StoreError", subclasses := [.ref 49, .ref 73, .ref 85] }, slots := #[some (.ref 28), none, some (.str "StoreError" 209), some (.str "StoreError" 217), some (.builtin "Exception.__new__"), some (.bool true)] }),
(40, { cls := .type "tuple", data := .seq #[.ref 37] }),
(47, { cls := .type "tuple", data := .seq #[] }),
(48, { cls := .type "dict", data := .dict #[kv P "__module__" 232 (.str "raftkeep.errors" 187), kv P "__firstlineno__" 236 (.int 6 235), kv P "__static_attributes__" 237 (.ref 47), kv P "__doc__" 238 (.none)] 2 }),
(49, { cls := .type "type", data := .cls { name := "Corrupt", bases := [.ref 37], mro := [.ref 49, .ref 37, .ref 24, .type "Exception", .type "BaseException", .type "object"], ns := 48, qualname := "Corrupt", subclasses := [.ref 61] }, slots := #[some (.ref 40), none, some (.str "Corrupt" 225), some (.str "Corrupt" 233), some (.builtin "Exception.__new__"), some (.bool true)] }),
(52, { cls := .type "tuple", data := .seq #[.ref 49] }),
(59, { cls := .type "tuple", data := .seq #[] }),
(60, { cls := .type "dict", data := .dict #[kv P "__module__" 248 (.str "raftkeep.errors" 187), kv P "__firstlineno__" 252 (.int 8 251), kv P "__static_attributes__" 253 (.ref 59), kv P "__doc__" 254 (.none)] 2 }),
(61, { cls := .type "type", data := .cls { name := "ShortOctets", bases := [.ref 49], mro := [.ref 61, .ref 49, .ref 37, .ref 24, .type "Exception", .type "BaseException", .type "object"], ns := 60, qualname := "ShortOctets" }, slots := #[some (.ref 52), none, some (.str "ShortOctets" 241), some (.str "ShortOctets" 249), some (.builtin "Exception.__new__"), some (.bool true)] }),
(64, { cls := .type "tuple", data := .seq #[.ref 37] }),
(71, { cls := .type "tuple", data := .seq #[] }),
(72, { cls := .type "dict", data := .dict #[kv P "__module__" 264 (.str "raftkeep.errors" 187), kv P "__firstlineno__" 268 (.int 10 267), kv P "__static_attributes__" 269 (.ref 71), kv P "__doc__" 270 (.none)] 2 }),
(73, { cls := .type "type", data := .cls { name := "BadOption", bases := [.ref 37], mro := [.ref 73, .ref 37, .ref 24, .type "Exception", .type "BaseException", .type "object"], ns := 72, qualname := "BadOption" }, slots := #[some (.ref 64), none, some (.str "BadOption" 257), some (.str "BadOption" 265), some (.builtin "Exception.__new__"), some (.bool true)] }),
(76, { cls := .type "tuple", data := .seq #[.ref 37] }),
(83, { cls := .type "tuple", data := .seq #[] }),
(84, { cls := .type "dict", data := .dict #[kv P "__module__" 280 (.str "raftkeep.errors" 187), kv P "__firstlineno__" 284 (.int 12 283), kv P "__static_attributes__" 285 (.ref 83), kv P "__doc__" 286 (.none)] 2 }),
(85, { cls := .type "type", data := .cls { name := "BuildOrder", bases := [.ref 37], mro := [.ref 85, .ref 37, .ref 24, .type "Exception", .type "BaseException", .type "object"], ns := 84, qualname := "BuildOrder" }, slots := #[some (.ref 76), none, some (.str "BuildOrder" 273), some (.str "BuildOrder" 281), some (.builtin "Exception.__new__"), some (.bool true)] }),
(88, { cls := .type "tuple", data := .seq #[] }),
(90, { cls := .type "tuple", data := .seq #[.str "n" 302] }),
(91, { cls := .type "tuple", data := .seq #[] }),
(93, { cls := .type "code", data := .fields #[.str "put_fixed32" 299, .str "put_fixed32" 300, .str "/claim/cut.py" 301, .int 19 0, .int 1 0, .int 0 0, .int 0 0, .int 3 0, .ref 88, .bool true, .int 181 0, .ref 89, .none, .ref 90, .ref 91, .ref 92, .int 303 0, .int 19 0, .str "/claim/cut.py" 304] }),
(94, fnO "put_fixed32" "put_fixed32" (stP 12) (.str "raftkeep.octets" 289) (.ref 93)),
(95, { cls := .type "tuple", data := .seq #[] }),
(97, { cls := .type "tuple", data := .seq #[.str "data" 309, .str "at" 310] }),
(98, { cls := .type "tuple", data := .seq #[] }),
(100, { cls := .type "code", data := .fields #[.str "read_fixed32" 306, .str "read_fixed32" 307, .str "/claim/cut.py" 308, .int 23 0, .int 2 0, .int 0 0, .int 0 0, .int 3 0, .ref 95, .bool true, .int 181 0, .ref 96, .none, .ref 97, .ref 98, .ref 99, .int 311 0, .int 23 0, .str "/claim/cut.py" 312] }),
(101, fnO "read_fixed32" "read_fixed32" (stP 13) (.str "raftkeep.octets" 289) (.ref 100)),
(102, { cls := .type "tuple", data := .seq #[] }),
(104, { cls := .type "tuple", data := .seq #[.str "data" 317, .str "size" 318, .str "h" 319, .str "at" 320, .str "rest" 321] }),
(105, { cls := .type "tuple", data := .seq #[] }),
(107, { cls := .type "code", data := .fields #[.str "bloom_hash" 314, .str "bloom_hash" 315, .str "/claim/cut.py" 316, .int 27 0, .int 1 0, .int 0 0, .int 0 0, .int 3 0, .ref 102, .bool true, .int 181 0, .ref 103, .none, .ref 104, .ref 105, .ref 106, .int 322 0, .int 27 0, .str "/claim/cut.py" 323] }),
(108, fnO "bloom_hash" "bloom_hash" (stP 14) (.str "raftkeep.octets" 289) (.ref 107)),
(116, { cls := .type "tuple", data := .seq #[] }),
(118, { cls := .type "tuple", data := .seq #[.str "self" 348, .str "bits" 349, .str "probes" 350] }),
(119, { cls := .type "tuple", data := .seq #[] }),
(121, { cls := .type "code", data := .fields #[.str "__init__" 345, .str "Bloom.__init__" 346, .str "/claim/cut.py" 347, .int 50 0, .int 2 0, .int 0 0, .int 0 0, .int 3 0, .ref 116, .bool true, .int 181 0, .ref 117, .none, .ref 118, .ref 119, .ref 120, .int 351 0, .int 50 0, .str "/claim/cut.py" 352] }),
(122, fnO "__init__" "Bloom.__init__" (stC 19 0) (.str "raftkeep.blocks" 325) (.ref 121)),
(123, { cls := .type "tuple", data := .seq #[] }),
(125, { cls := .type "tuple", data := .seq #[.str "self" 357, .str "keys" 358, .str "wanted" 359, .str "length" 360, .str "wide" 361, .str "out" 362, .str "key" 363, .str "h" 364, .str "delta" 365, .str "probe" 366, .str "place" 367] }),
(126, { cls := .type "tuple", data := .seq #[] }),
(128, { cls := .type "code", data := .fields #[.str "make" 354, .str "Bloom.make" 355, .str "/claim/cut.py" 356, .int 61 0, .int 2 0, .int 0 0, .int 0 0, .int 3 0, .ref 123, .bool true, .int 181 0, .ref 124, .none, .ref 125, .ref 126, .ref 127, .int 368 0, .int 61 0, .str "/claim/cut.py" 369] }),
(129, fnO "make" "Bloom.make" (stC 19 1) (.str "raftkeep.blocks" 325) (.ref 128)),
(130, { cls := .type "tuple", data := .seq #[] }),
(132, { cls := .type "tuple", data := .seq #[.str "self" 374, .str "key" 375, .str "held" 376, .str "probes" 377, .str "wide" 378, .str "h" 379, .str "delta" 380, .str "probe" 381, .str "place" 382] }),
(133, { cls := .type "tuple", data := .seq #[] }),
(135, { cls := .type "code", data := .fields #[.str "may_have" 371, .str "Bloom.may_have" 372, .str "/claim/cut.py" 373, .int 78 0, .int 3 0, .int 0 0, .int 0 0, .int 3 0, .ref 130, .bool true, .int 181 0, .ref 131, .none, .ref 132, .ref 133, .ref 134, .int 383 0, .int 78 0, .str "/claim/cut.py" 384] }),
(136, fnO "may_have" "Bloom.may_have" (stC 19 2) (.str "raftkeep.blocks" 325) (.ref 135)),
(137, { cls := .type "tuple", data := .seq #[.str "bits" 386, .str "probes" 387] }),
(138, { cls := .type "dict", data := .dict #[kv P "__module__" 340 (.str "raftkeep.blocks" 325), kv P "__firstlineno__" 344 (.int 48 343), kv P "__init__" 353 (.ref 122), kv P "make" 370 (.ref 129), kv P "may_have" 385 (.ref 136), kv P "__static_attributes__" 388 (.ref 137), kv P "__dict__" 390 (.ref 140), kv P "__weakref__" 392 (.ref 141), kv P "__doc__" 393 (.none)] 4 }),
(139, { cls := .type "type", data := .cls { name := "Bloom", bases := [.type "object"], mro := [.ref 139, .type "object"], ns := 138, qualname := "Bloom" }, slots := #[none, none, some (.str "Bloom" 333), some (.str "Bloom" 341), some (.builtin "object.__new__"), some (.bool true)] }),
(140, { cls := .type "getset_descriptor", data := .fields #[.str "__dict__" 389, .ref 139, .builtin "function.__dict__", .builtin "function.__dict__#set"] }),
(141, { cls := .type "getset_descriptor", data := .fields #[.str "__weakref__" 391, .ref 139, .builtin "ExceptionGroup.__weakref__", .none] }),
(151, { cls := .type "tuple", data := .seq #[] }),
(153, { cls := .type "tuple", data := .seq #[.str "self" 411, .str "bloom" 412, .str "base_lg" 413] }),
(154, { cls := .type "tuple", data := .seq #[] }),
(156, { cls := .type "code", data := .fields #[.str "__init__" 408, .str "FilterBuilder.__init__" 409, .str "/claim/cut.py" 410, .int 95 0, .int 3 0, .int 0 0, .int 0 0, .int 3 0, .ref 151, .bool true, .int 181 0, .ref 152, .none, .ref 153, .ref 154, .ref 155, .int 414 0, .int 95 0, .str "/claim/cut.py" 415] }),
(157, fnO "__init__" "FilterBuilder.__init__" (stC 20 0) (.str "raftkeep.blocks" 325) (.ref 156)),
(158, { cls := .type "tuple", data := .seq #[] }),
(160, { cls := .type "tuple", data := .seq #[.str "self" 420, .str "offset" 421, .str "span" 422] }),
(161, { cls := .type "tuple", data := .seq #[] }),
(163, { cls := .type "code", data := .fields #[.str "start_block" 417, .str "FilterBuilder.start_block" 418, .str "/claim/cut.py" 419, .int 105 0, .int 2 0, .int 0 0, .int 0 0, .int 3 0, .ref 158, .bool true, .int 181 0, .ref 159, .none, .ref 160, .ref 161, .ref 162, .int 423 0, .int 105 0, .str "/claim/cut.py" 424] }),
(164, fnO "start_block" "FilterBuilder.start_block" (stC 20 1) (.str "raftkeep.blocks" 325) (.ref 163)),
(165, { cls := .type "tuple", data := .seq #[] }),
(167, { cls := .type "tuple", data := .seq #[.str "self" 429, .str "key" 430] }),
(168, { cls := .type "tuple", data := .seq #[] }),
(170, { cls := .type "code", data := .fields #[.str "add_key" 426, .str "FilterBuilder.add_key" 427, .str "/claim/cut.py" 428, .int 114 0, .int 2 0, .int 0 0, .int 0 0, .int 3 0, .ref 165, .bool true, .int 181 0, .ref 166, .none, .ref 167, .ref 168, .ref 169, .int 431 0, .int 114 0, .str "/claim/cut.py" 432] }),
(171, fnO "add_key" "FilterBuilder.add_key" (stC 20 2) (.str "raftkeep.blocks" 325) (.ref 170)),
(172, { cls := .type "tuple", data := .seq #[] }),
(174, { cls := .type "tuple", data := .seq #[.str "self" 437] }),
(175, { cls := .type "tuple", data := .seq #[] }),
(177, { cls := .type "code", data := .fields #[.str "close_span" 434, .str "FilterBuilder.close_span" 435, .str "/claim/cut.py" 436, .int 119 0, .int 1 0, .int 0 0, .int 0 0, .int 3 0, .ref 172, .bool true, .int 181 0, .ref 173, .none, .ref 174, .ref 175, .ref 176, .int 438 0, .int 119 0, .str "/claim/cut.py" 439] }),
(178, fnO "close_span" "FilterBuilder.close_span" (stC 20 3) (.str "raftkeep.blocks" 325) (.ref 177)),
(179, { cls := .type "tuple", data := .seq #[] }),
(181, { cls := .type "tuple", data := .seq #[.str "self" 444, .str "out" 445, .str "place" 446] }),
(182, { cls := .type "tuple", data := .seq #[] }),
(184, { cls := .type "code", data := .fields #[.str "finish" 441, .str "FilterBuilder.finish" 442, .str "/claim/cut.py" 443, .int 125 0, .int 1 0, .int 0 0, .int 0 0, .int 3 0, .ref 179, .bool true, .int 181 0, .ref 180, .none, .ref 181, .ref 182, .ref 183, .int 447 0, .int 125 0, .str "/claim/cut.py" 448] }),
(185, fnO "finish" "FilterBuilder.finish" (stC 20 4) (.str "raftkeep.blocks" 325) (.ref 184)),
(186, { cls := .type "tuple", data := .seq #[.str "base_lg" 450, .str "bloom" 451, .str "filters" 452, .str "finished" 453, .str "keys" 454, .str "offsets" 455] }),
(187, { cls := .type "dict", data := .dict #[kv P "__module__" 403 (.str "raftkeep.blocks" 325), kv P "__firstlineno__" 407 (.int 93 406), kv P "__init__" 416 (.ref 157), kv P "start_block" 425 (.ref 164), kv P "add_key" 433 (.ref 171), kv P "close_span" 440 (.ref 178), kv P "finish" 449 (.ref 185), kv P "__static_attributes__" 456 (.ref 186), kv P "__dict__" 458 (.ref 189), kv P "__weakref__" 460 (.ref 190), kv P "__doc__" 461 (.none)] 4 }),
(188, { cls := .type "type", data := .cls { name := "FilterBuilder", bases := [.type "object"], mro := [.ref 188, .type "object"], ns := 187, qualname := "FilterBuilder" }, slots := #[none, none, some (.str "FilterBuilder" 396), some (.str "FilterBuilder" 404), some (.builtin "object.__new__"), some (.bool true)] }),
(189, { cls := .type "getset_descriptor", data := .fields #[.str "__dict__" 457, .ref 188, .builtin "function.__dict__", .builtin "function.__dict__#set"] }),
(190, { cls := .type "getset_descriptor", data := .fields #[.str "__weakref__" 459, .ref 188, .builtin "ExceptionGroup.__weakref__", .none] }),
(200, { cls := .type "tuple", data := .seq #[] }),
(202, { cls := .type "tuple", data := .seq #[.str "self" 479, .str "bloom" 480, .str "data" 481, .str "size" 482, .str "start" 483] }),
(203, { cls := .type "tuple", data := .seq #[] }),
(205, { cls := .type "code", data := .fields #[.str "__init__" 476, .str "FilterReader.__init__" 477, .str "/claim/cut.py" 478, .int 139 0, .int 3 0, .int 0 0, .int 0 0, .int 3 0, .ref 200, .bool true, .int 181 0, .ref 201, .none, .ref 202, .ref 203, .ref 204, .int 484 0, .int 139 0, .str "/claim/cut.py" 485] }),
(206, fnO "__init__" "FilterReader.__init__" (stC 21 0) (.str "raftkeep.blocks" 325) (.ref 205)),
(207, { cls := .type "tuple", data := .seq #[] }),
(209, { cls := .type "tuple", data := .seq #[.str "self" 490, .str "offset" 491, .str "key" 492, .str "span" 493, .str "place" 494, .str "low" 495, .str "high" 496] }),
(210, { cls := .type "tuple", data := .seq #[] }),
(212, { cls := .type "code", data := .fields #[.str "may_have" 487, .str "FilterReader.may_have" 488, .str "/claim/cut.py" 489, .int 153 0, .int 3 0, .int 0 0, .int 0 0, .int 3 0, .ref 207, .bool true, .int 181 0, .ref 208, .none, .ref 209, .ref 210, .ref 211, .int 497 0, .int 153 0, .str "/claim/cut.py" 498] }),
(213, fnO "may_have" "FilterReader.may_have" (stC 21 1) (.str "raftkeep.blocks" 325) (.ref 212)),
(214, { cls := .type "tuple", data := .seq #[.str "base_lg" 500, .str "bloom" 501, .str "count" 502, .str "data" 503, .str "start" 504] }),
(215, { cls := .type "dict", data := .dict #[kv P "__module__" 471 (.str "raftkeep.blocks" 325), kv P "__firstlineno__" 475 (.int 137 474), kv P "__init__" 486 (.ref 206), kv P "may_have" 499 (.ref 213), kv P "__static_attributes__" 505 (.ref 214), kv P "__dict__" 507 (.ref 217), kv P "__weakref__" 509 (.ref 218), kv P "__doc__" 510 (.none)] 4 }),
(216, { cls := .type "type", data := .cls { name := "FilterReader", bases := [.type "object"], mro := [.ref 216, .type "object"], ns := 215, qualname := "FilterReader" }, slots := #[none, none, some (.str "FilterReader" 464), some (.str "FilterReader" 472), some (.builtin "object.__new__"), some (.bool true)] }),
(217, { cls := .type "getset_descriptor", data := .fields #[.str "__dict__" 506, .ref 216, .builtin "function.__dict__", .builtin "function.__dict__#set"] }),
(218, { cls := .type "getset_descriptor", data := .fields #[.str "__weakref__" 508, .ref 216, .builtin "ExceptionGroup.__weakref__", .none] }),
(221, { cls := .type "tuple", data := .seq #[] }),
(223, { cls := .type "tuple", data := .seq #[.str "tape" 518, .str "at" 519, .str "m" 520, .str "k" 521] }),
(224, { cls := .type "tuple", data := .seq #[] }),
(226, { cls := .type "code", data := .fields #[.str "_law_take" 515, .str "_law_take" 516, .str "/claim/cut.py" 517, .int 168 0, .int 3 0, .int 0 0, .int 0 0, .int 3 0, .ref 221, .bool true, .int 181 0, .ref 222, .none, .ref 223, .ref 224, .ref 225, .int 522 0, .int 168 0, .str "/claim/cut.py" 523] }),
(227, fnO "_law_take" "_law_take" (stP 23) (.str "law_no0400_01" 513) (.ref 226)),
(228, { cls := .type "tuple", data := .seq #[] }),
(231, { cls := .type "code", data := .fields #[.str "_law_word" 525, .str "_law_word" 526, .str "/claim/cut.py" 527, .int 172 0, .int 1 0, .int 0 0, .int 0 0, .int 3 0, .ref 228, .bool true, .int 181 0, .ref 229, .none, .none, .none, .ref 230, .int 528 0, .int 172 0, .str "/claim/cut.py" 529] }),
(232, fnO "_law_word" "_law_word" (stP 24) (.str "law_no0400_01" 513) (.ref 231)),
(233, { cls := .type "tuple", data := .seq #[] }),
(236, { cls := .type "code", data := .fields #[.str "_law_fix" 531, .str "_law_fix" 532, .str "/claim/cut.py" 533, .int 178 0, .int 1 0, .int 0 0, .int 0 0, .int 3 0, .ref 233, .bool true, .int 181 0, .ref 234, .none, .none, .none, .ref 235, .int 534 0, .int 178 0, .str "/claim/cut.py" 535] }),
(237, fnO "_law_fix" "_law_fix" (stP 25) (.str "law_no0400_01" 513) (.ref 236)),
(238, { cls := .type "tuple", data := .seq #[] }),
(241, { cls := .type "code", data := .fields #[.str "_law_num" 537, .str "_law_num" 538, .str "/claim/cut.py" 539, .int 180 0, .int 1 0, .int 0 0, .int 0 0, .int 3 0, .ref 238, .bool true, .int 181 0, .ref 239, .none, .none, .none, .ref 240, .int 540 0, .int 180 0, .str "/claim/cut.py" 541] }),
(242, fnO "_law_num" "_law_num" (stP 26) (.str "law_no0400_01" 513) (.ref 241)),
(243, { cls := .type "tuple", data := .seq #[] }),
(246, { cls := .type "code", data := .fields #[.str "_law_lamps" 543, .str "_law_lamps" 544, .str "/claim/cut.py" 545, .int 182 0, .int 3 0, .int 0 0, .int 0 0, .int 3 0, .ref 243, .bool true, .int 181 0, .ref 244, .none, .none, .none, .ref 245, .int 546 0, .int 182 0, .str "/claim/cut.py" 547] }),
(247, fnO "_law_lamps" "_law_lamps" (stP 27) (.str "law_no0400_01" 513) (.ref 246)),
(248, { cls := .type "tuple", data := .seq #[] }),
(251, { cls := .type "code", data := .fields #[.str "_law_one" 549, .str "_law_one" 550, .str "/claim/cut.py" 551, .int 190 0, .int 2 0, .int 0 0, .int 0 0, .int 3 0, .ref 248, .bool true, .int 181 0, .ref 249, .none, .none, .none, .ref 250, .int 552 0, .int 190 0, .str "/claim/cut.py" 553] }),
(252, fnO "_law_one" "_law_one" (stP 28) (.str "law_no0400_01" 513) (.ref 251)),
(253, { cls := .type "tuple", data := .seq #[] }),
(255, { cls := .type "tuple", data := .seq #[.str "held" 558, .str "bits" 559, .str "lg" 560, .str "spans" 561, .str "out" 562, .str "starts" 563, .str "keys" 564] }),
(256, { cls := .type "tuple", data := .seq #[] }),
(258, { cls := .type "code", data := .fields #[.str "_law_body" 555, .str "_law_body" 556, .str "/claim/cut.py" 557, .int 198 0, .int 3 0, .int 0 0, .int 0 0, .int 3 0, .ref 253, .bool true, .int 181 0, .ref 254, .none, .ref 255, .ref 256, .ref 257, .int 565 0, .int 198 0, .str "/claim/cut.py" 566] }),
(259, fnO "_law_body" "_law_body" (stP 29) (.str "law_no0400_01" 513) (.ref 258)),
(260, { cls := .type "tuple", data := .seq #[] }),
(262, { cls := .type "tuple", data := .seq #[.str "part" 571, .str "key" 572, .str "probes" 573, .str "lamp" 574] }),
(263, { cls := .type "tuple", data := .seq #[] }),
(265, { cls := .type "code", data := .fields #[.str "_law_lit" 568, .str "_law_lit" 569, .str "/claim/cut.py" 570, .int 209 0, .int 2 0, .int 0 0, .int 0 0, .int 3 0, .ref 260, .bool true, .int 181 0, .ref 261, .none, .ref 262, .ref 263, .ref 264, .int 575 0, .int 209 0, .str "/claim/cut.py" 576] }),
(266, fnO "_law_lit" "_law_lit" (stP 30) (.str "law_no0400_01" 513) (.ref 265)),
(267, { cls := .type "tuple", data := .seq #[] }),
(269, { cls := .type "tuple", data := .seq #[.str "data" 581, .str "offset" 582, .str "key" 583, .str "room" 584, .str "start" 585, .str "lg" 586, .str "span" 587, .str "low" 588, .str "high" 589] }),
(270, { cls := .type "tuple", data := .seq #[] }),
(272, { cls := .type "code", data := .fields #[.str "_law_says" 578, .str "_law_says" 579, .str "/claim/cut.py" 580, .int 219 0, .int 3 0, .int 0 0, .int 0 0, .int 3 0, .ref 267, .bool true, .int 181 0, .ref 268, .none, .ref 269, .ref 270, .ref 271, .int 590 0, .int 219 0, .str "/claim/cut.py" 591] }),
(273, fnO "_law_says" "_law_says" (stP 31) (.str "law_no0400_01" 513) (.ref 272)),
(274, { cls := .type "tuple", data := .seq #[] }),
(276, { cls := .type "tuple", data := .seq #[.str "builder" 596, .str "act" 597, .str "told" 598] }),
(277, { cls := .type "tuple", data := .seq #[] }),
(279, { cls := .type "code", data := .fields #[.str "_law_refused" 593, .str "_law_refused" 594, .str "/claim/cut.py" 595, .int 235 0, .int 3 0, .int 0 0, .int 0 0, .int 3 0, .ref 274, .bool true, .int 181 0, .ref 275, .none, .ref 276, .ref 277, .ref 278, .int 599 0, .int 235 0, .str "/claim/cut.py" 600] }),
(280, fnO "_law_refused" "_law_refused" (stP 32) (.str "law_no0400_01" 513) (.ref 279)),
(281, { cls := .type "tuple", data := .seq #[] }),
(283, { cls := .type "tuple", data := .seq #[.str "bits" 605, .str "lg" 606, .str "n" 607] }),
(284, { cls := .type "tuple", data := .seq #[] }),
(286, { cls := .type "code", data := .fields #[.str "_law_bad" 602, .str "_law_bad" 603, .str "/claim/cut.py" 604, .int 246 0, .int 2 0, .int 0 0, .int 0 0, .int 3 0, .ref 281, .bool true, .int 181 0, .ref 282, .none, .ref 283, .ref 284, .ref 285, .int 608 0, .int 246 0, .str "/claim/cut.py" 609] }),
(287, fnO "_law_bad" "_law_bad" (stP 33) (.str "law_no0400_01" 513) (.ref 286)),
(288, { cls := .type "tuple", data := .seq #[] }),
(291, { cls := .type "code", data := .fields #[.str "_law_altered" 611, .str "_law_altered" 612, .str "/claim/cut.py" 613, .int 262 0, .int 3 0, .int 0 0, .int 0 0, .int 3 0, .ref 288, .bool true, .int 181 0, .ref 289, .none, .none, .none, .ref 290, .int 614 0, .int 262 0, .str "/claim/cut.py" 615] }),
(292, fnO "_law_altered" "_law_altered" (stP 34) (.str "law_no0400_01" 513) (.ref 291)),
(293, { cls := .type "tuple", data := .seq #[] }),
(296, { cls := .type "code", data := .fields #[.str "law" 617, .str "law" 618, .str "/claim/cut.py" 619, .int 278 0, .int 1 0, .int 0 0, .int 0 0, .int 3 0, .ref 293, .bool true, .int 181 0, .ref 294, .none, .none, .none, .ref 295, .int 620 0, .int 278 0, .str "/claim/cut.py" 621] }),
(297, fnO "law" "law" (stP 35) (.str "law_no0400_01" 513) (.ref 296))]
noncomputable def asL : List Addr := [2, 3, 15, 22, 23, 24, 25, 28, 35, 36, 37, 40, 47, 48, 49, 52, 59, 60, 61, 64, 71, 72, 73, 76, 83, 84, 85, 88, 90, 91, 93, 94, 95, 97, 98, 100, 101, 102, 104, 105, 107, 108, 116, 118, 119, 121, 122, 123, 125, 126, 128, 129, 130, 132, 133, 135, 136, 137, 138, 139, 140, 141, 151, 153, 154, 156, 157, 158, 160, 161, 163, 164, 165, 167, 168, 170, 171, 172, 174, 175, 177, 178, 179, 181, 182, 184, 185, 186, 187, 188, 189, 190, 200, 202, 203, 205, 206, 207, 209, 210, 212, 213, 214, 215, 216, 217, 218, 221, 223, 224, 226, 227, 228, 231, 232, 233, 236, 237, 238, 241, 242, 243, 246, 247, 248, 251, 252, 253, 255, 256, 258, 259, 260, 262, 263, 265, 266, 267, 269, 270, 272, 273, 274, 276, 277, 279, 280, 281, 283, 284, 286, 287, 288, 291, 292, 293, 296, 297]
noncomputable def HK : Hook := kHook KFm asL (fun _ => rfl)
noncomputable def qv : Program := { pw with main := { pw.main with body := [1,2,3,4,5,6,8,9,10,11,12,13,14,16,17,18,19,20,21,23,24,25,26,27,28,29,30,31,32,33,34,35].filterMap fun i => pw.main.body[i]? } }
end Mine

open PySem PySem.W PySem.Calls PyProof.Rows PySem.Spec
namespace Mine
theorem left0 : LeftO _root_.PySem.Challenge.rw_no0400_01.row.prog qv [] (fun s => xlAt qv [] s && recOk (RowW.records _root_.PySem.Challenge.rw_no0400_01.row.toRowW) s) (Hook.obs HK) (Hook.val HK) 5784 := fun w => by
  unfold openEnds topFrom fencedOpening
  rw [PySem.W.Fast.te14082659384304107361, PySem.W.Fast.te14364793385576792824, PySem.W.Fast.te4187177175401517315, PySem.W.Fast.te5923862056798008813, PySem.W.Fast.te10274390034422433532, PySem.W.Fast.te14289696077712309145]
  kernel_rfl
end Mine

open PySem PySem.W PySem.Calls PyProof.Rows PySem.Spec
namespace Mine
theorem said0 : OpenLaw.wellSaid _root_.PySem.Challenge.rw_no0400_01 = true := by kernel_rfl
theorem def0 : (defOf qv "law").isSome = true := by kernel_rfl
theorem def1 : (defOf qv "law").map (fun x => some (x.1.params, x.1.body, x.1.scope)) = some (pw.theDef "law") := by kernel_rfl
theorem def2 : (defOf qv "law").map (fun x => kwWritten? x.1.params.kwonlyargs x.1.params.kw_defaults) = (defOf qv "law").map (fun x => some x.2) := by kernel_rfl
theorem head (call : ∀ (d : DefRec) (kwd : List (Str × Expr)), defOf qv "law" = some (d, kwd) → WalkC qv [] (XL qv []) HK.says _root_.PySem.Challenge.rw_no0400_01.row.toRowW d kwd fun f vs => _root_.PySem.call f vs) : _root_.PySem.Challenge.rw_no0400_01.Holds := by
  refine holds_law said0 fun said => ?_
  obtain ⟨⟨d, kwd⟩, hdef⟩ := Option.isSome_iff_exists.mp def0
  have e1 := def1
  have e2 := def2
  rw [hdef] at e1 e2
  exact Mine.PySem.W.holds_open (q := qv) (loose := []) (Xt := fun s => xlAt qv [] s && recOk (RowW.records _root_.PySem.Challenge.rw_no0400_01.row.toRowW) s) (XP := XL qv []) (Yf := Hook.obs HK) (Ya := Hook.val HK) (YP := Hook.says HK) (N := 5784) left0 (Hook.of HK) (Hook.keeps HK)
    (fun s e => xl_of s (Bool.and_eq_true_iff.mp e).1) XL.keeps hdef (Option.some.inj e1).symm (Option.some.inj e2) (fun s e => recFacts_of (Bool.and_eq_true_iff.mp e).2) (by rfl) said (by decide +kernel) ⟨rfl, rfl, rfl, rfl, rfl, by decide +kernel⟩ (by w_witness2) (call d kwd hdef)
end Mine

open PySem PySem.W PySem.Calls PyProof.Rows PySem.Spec
namespace Mine

noncomputable abbrev KF := KFm
section
variable {P : Params} {D : Wd (KF P)} {hp : Hp} {c : FC} {st : St} {pos : Pos} {Q : AV → St → Prop}

theorem CallE_v {K : Frag} {D : Wd K} {f : Value} {xs : List AV} {z : AV} {P : AV → St → Prop} (h : CallV c.cl D c.lvl f xs st.hp z) (hP : P z st) (hn : c.hn = true := by rfl) : CallE D c f xs st P :=
  ⟨_, h, hn, fun x hp' ⟨e1, e2⟩ => by subst e1 e2; exact hP⟩
/-- a call by a contract -/
theorem CallE_c {K : Frag} {D : Wd K} {b : Bool} {n : Nat} {f : Value} {xs : List AV} {R : AV → Hp → Prop} {P : AV → St → Prop} (h : CallT b D n f xs st.hp R) (hP : ∀ x hp', R x hp' → P x ⟨st.loc, hp'⟩) (hl : n ≤ c.lvl := by decide) (hn : c.hn = true := by rfl)
    (hb : b = true → c.cl = true := by first | exact fun _ => rfl | exact fun e => nomatch e) : CallE D c f xs st P := by
  refine ⟨R, ?_, hn, hP⟩
  cases b with
  | false => exact (h.mono hl (fun _ _ q => q)).up
  | true => rw [hb rfl]; exact h.mono hl (fun _ _ q => q)
theorem CallE_e {K : Frag} {D : Wd K} {b : Bool} {n : Nat} {f : Value} {xs : List AV} {z : AV} {hp' : Hp} {P : AV → St → Prop} (h : CallT b D n f xs st.hp (fun x hp2 => x = z ∧ hp2 = hp')) (hP : P z ⟨st.loc, hp'⟩) (hl : n ≤ c.lvl := by decide) (hn : c.hn = true := by rfl)
    (hb : b = true → c.cl = true := by first | exact fun _ => rfl | exact fun e => nomatch e) : CallE D c f xs st P :=
  CallE_c h (fun x hp2 ⟨e1, e2⟩ => by subst e1 e2; exact hP) hl hn hb

theorem EV_len (hx : c.scope.names.lookup (Str.ofString "len") = some NameKind.globalImplicit) (h : Q (.val (.builtin "len")) st) : EV D c st (.Name "len" pos) Q := EV_Builtin hx (by decide) (by kernel_rfl) (by kernel_rfl) (by decide) h
theorem EV_sum (hx : c.scope.names.lookup (Str.ofString "sum") = some NameKind.globalImplicit) (h : Q (.val (.builtin "sum")) st) : EV D c st (.Name "sum" pos) Q := EV_Builtin hx (by decide) (by kernel_rfl) (by kernel_rfl) (by decide) h
theorem EV_max (hx : c.scope.names.lookup (Str.ofString "max") = some NameKind.globalImplicit) (h : Q (.val (.builtin "max")) st) : EV D c st (.Name "max" pos) Q := EV_Builtin hx (by decide) (by kernel_rfl) (by kernel_rfl) (by decide) h
theorem EV_min (hx : c.scope.names.lookup (Str.ofString "min") = some NameKind.globalImplicit) (h : Q (.val (.builtin "min")) st) : EV D c st (.Name "min" pos) Q := EV_Builtin hx (by decide) (by kernel_rfl) (by kernel_rfl) (by decide) h
theorem EV_range (hx : c.scope.names.lookup (Str.ofString "range") = some NameKind.globalImplicit) (h : Q (.val (.type "range")) st) : EV D c st (.Name "range" pos) Q := EV_Builtin hx (by decide) (by kernel_rfl) (by kernel_rfl) (by decide) h
theorem EV_bytes (hx : c.scope.names.lookup (Str.ofString "bytes") = some NameKind.globalImplicit) (h : Q (.val (.type "bytes")) st) : EV D c st (.Name "bytes" pos) Q := EV_Builtin hx (by decide) (by kernel_rfl) (by kernel_rfl) (by decide) h
theorem EV_bytearray (hx : c.scope.names.lookup (Str.ofString "bytearray") = some NameKind.globalImplicit) (h : Q (.val (.type "bytearray")) st) : EV D c st (.Name "bytearray" pos) Q := EV_Builtin hx (by decide) (by kernel_rfl) (by kernel_rfl) (by decide) h

theorem EV_put_fixed32 (hx : c.scope.names.lookup (Str.ofString "put_fixed32") = some NameKind.globalImplicit) (h : Q (.val (.ref 94)) st) : EV D c st (.Name "put_fixed32" pos) Q := EV_Global hx (by decide) (by kernel_rfl) (fun _ _ => rep_val) h
theorem EV_read_fixed32 (hx : c.scope.names.lookup (Str.ofString "read_fixed32") = some NameKind.globalImplicit) (h : Q (.val (.ref 101)) st) : EV D c st (.Name "read_fixed32" pos) Q := EV_Global hx (by decide) (by kernel_rfl) (fun _ _ => rep_val) h
theorem EV_bloom_hash (hx : c.scope.names.lookup (Str.ofString "bloom_hash") = some NameKind.globalImplicit) (h : Q (.val (.ref 108)) st) : EV D c st (.Name "bloom_hash" pos) Q := EV_Global hx (by decide) (by kernel_rfl) (fun _ _ => rep_val) h
theorem EV_law_take (hx : c.scope.names.lookup (Str.ofString "_law_take") = some NameKind.globalImplicit) (h : Q (.val (.ref 227)) st) : EV D c st (.Name "_law_take" pos) Q := EV_Global hx (by decide) (by kernel_rfl) (fun _ _ => rep_val) h
theorem EV_law_word (hx : c.scope.names.lookup (Str.ofString "_law_word") = some NameKind.globalImplicit) (h : Q (.val (.ref 232)) st) : EV D c st (.Name "_law_word" pos) Q := EV_Global hx (by decide) (by kernel_rfl) (fun _ _ => rep_val) h
theorem EV_law_fix (hx : c.scope.names.lookup (Str.ofString "_law_fix") = some NameKind.globalImplicit) (h : Q (.val (.ref 237)) st) : EV D c st (.Name "_law_fix" pos) Q := EV_Global hx (by decide) (by kernel_rfl) (fun _ _ => rep_val) h
theorem EV_law_num (hx : c.scope.names.lookup (Str.ofString "_law_num") = some NameKind.globalImplicit) (h : Q (.val (.ref 242)) st) : EV D c st (.Name "_law_num" pos) Q := EV_Global hx (by decide) (by kernel_rfl) (fun _ _ => rep_val) h
theorem EV_law_lamps (hx : c.scope.names.lookup (Str.ofString "_law_lamps") = some NameKind.globalImplicit) (h : Q (.val (.ref 247)) st) : EV D c st (.Name "_law_lamps" pos) Q := EV_Global hx (by decide) (by kernel_rfl) (fun _ _ => rep_val) h
theorem EV_law_one (hx : c.scope.names.lookup (Str.ofString "_law_one") = some NameKind.globalImplicit) (h : Q (.val (.ref 252)) st) : EV D c st (.Name "_law_one" pos) Q := EV_Global hx (by decide) (by kernel_rfl) (fun _ _ => rep_val) h
theorem EV_law_body (hx : c.scope.names.lookup (Str.ofString "_law_body") = some NameKind.globalImplicit) (h : Q (.val (.ref 259)) st) : EV D c st (.Name "_law_body" pos) Q := EV_Global hx (by decide) (by kernel_rfl) (fun _ _ => rep_val) h
theorem EV_law_lit (hx : c.scope.names.lookup (Str.ofString "_law_lit") = some NameKind.globalImplicit) (h : Q (.val (.ref 266)) st) : EV D c st (.Name "_law_lit" pos) Q := EV_Global hx (by decide) (by kernel_rfl) (fun _ _ => rep_val) h
theorem EV_law_says (hx : c.scope.names.lookup (Str.ofString "_law_says") = some NameKind.globalImplicit) (h : Q (.val (.ref 273)) st) : EV D c st (.Name "_law_says" pos) Q := EV_Global hx (by decide) (by kernel_rfl) (fun _ _ => rep_val) h
theorem EV_law_refused (hx : c.scope.names.lookup (Str.ofString "_law_refused") = some NameKind.globalImplicit) (h : Q (.val (.ref 280)) st) : EV D c st (.Name "_law_refused" pos) Q := EV_Global hx (by decide) (by kernel_rfl) (fun _ _ => rep_val) h
theorem EV_law_bad (hx : c.scope.names.lookup (Str.ofString "_law_bad") = some NameKind.globalImplicit) (h : Q (.val (.ref 287)) st) : EV D c st (.Name "_law_bad" pos) Q := EV_Global hx (by decide) (by kernel_rfl) (fun _ _ => rep_val) h
theorem EV_law_altered (hx : c.scope.names.lookup (Str.ofString "_law_altered") = some NameKind.globalImplicit) (h : Q (.val (.ref 292)) st) : EV D c st (.Name "_law_altered" pos) Q := EV_Global hx (by decide) (by kernel_rfl) (fun _ _ => rep_val) h
theorem EV_Bloom (hx : c.scope.names.lookup (Str.ofString "Bloom") = some NameKind.globalImplicit) (h : Q (.val (.ref 139)) st) : EV D c st (.Name "Bloom" pos) Q := EV_Global hx (by decide) (by kernel_rfl) (fun _ _ => rep_val) h
theorem EV_FilterBuilder (hx : c.scope.names.lookup (Str.ofString "FilterBuilder") = some NameKind.globalImplicit) (h : Q (.val (.ref 188)) st) : EV D c st (.Name "FilterBuilder" pos) Q := EV_Global hx (by decide) (by kernel_rfl) (fun _ _ => rep_val) h
theorem EV_FilterReader (hx : c.scope.names.lookup (Str.ofString "FilterReader") = some NameKind.globalImplicit) (h : Q (.val (.ref 216)) st) : EV D c st (.Name "FilterReader" pos) Q := EV_Global hx (by decide) (by kernel_rfl) (fun _ _ => rep_val) h

theorem EV_MAX_32 (hx : c.scope.names.lookup (Str.ofString "MAX_32") = some NameKind.globalImplicit) (h : Q (.int 4294967295) st) : EV D c st (.Name "MAX_32" pos) Q := EV_Global hx (by decide) (by rfl) (fun _ _ => rep_int) h
theorem EV_HASH_SEED (hx : c.scope.names.lookup (Str.ofString "HASH_SEED") = some NameKind.globalImplicit) (h : Q (.int 3164544308) st) : EV D c st (.Name "HASH_SEED" pos) Q := EV_Global hx (by decide) (by rfl) (fun _ _ => rep_int) h
theorem EV_HASH_MUL (hx : c.scope.names.lookup (Str.ofString "HASH_MUL") = some NameKind.globalImplicit) (h : Q (.int 3332679571) st) : EV D c st (.Name "HASH_MUL" pos) Q := EV_Global hx (by decide) (by rfl) (fun _ _ => rep_int) h
theorem EV_HASH_SHIFT (hx : c.scope.names.lookup (Str.ofString "HASH_SHIFT") = some NameKind.globalImplicit) (h : Q (.int 24) st) : EV D c st (.Name "HASH_SHIFT" pos) Q := EV_Global hx (by decide) (by rfl) (fun _ _ => rep_int) h
theorem EV_MOST_PROBES (hx : c.scope.names.lookup (Str.ofString "MOST_PROBES") = some NameKind.globalImplicit) (h : Q (.int 30) st) : EV D c st (.Name "MOST_PROBES" pos) Q := EV_Global hx (by decide) (by rfl) (fun _ _ => rep_int) h
theorem EV_LEAST (hx : c.scope.names.lookup (Str.ofString "LEAST_FILTER_BITS") = some NameKind.globalImplicit) (h : Q (.int 64) st) : EV D c st (.Name "LEAST_FILTER_BITS" pos) Q := EV_Global hx (by decide) (by rfl) (fun _ _ => rep_int) h
theorem EV_WORD (hx : c.scope.names.lookup (Str.ofString "WORD") = some NameKind.globalImplicit) (h : Q (.int 4294967295) st) : EV D c st (.Name "WORD" pos) Q := EV_Global hx (by decide) (by rfl) (fun _ _ => rep_int) h
end
theorem exc_bad {P : Params} : ExcK (KF P) 73 := ⟨_, _, _, _, _, _, _, _, _, _, _, _, _, _, _, _, rfl, by kernel_rfl, by kernel_rfl, by kernel_rfl⟩
theorem exc_order {P : Params} : ExcK (KF P) 85 := ⟨_, _, _, _, _, _, _, _, _, _, _, _, _, _, _, _, rfl, by kernel_rfl, by kernel_rfl, by kernel_rfl⟩
section
variable {K : Frag} {D : Wd K} {hp : Hp} {c : FC} {st : St} {pos : Pos}
theorem EV_BinOpL {op : Operator} {es : List Expr} {r : Expr} {p pos : Pos} {P : AV → St → Prop} (h : EV D c st (.List es p) (fun x st1 => EV D c st1 r (fun y st2 => BinG D st2.hp op x y (fun z hp' => P z ⟨st2.loc, hp'⟩)))) :
    EV D c st (.BinOp (.List es p) op r pos) P := EV_BinOpG h
theorem EV_BinOpR {op : Operator} {es : List Expr} {l : Expr} {p pos : Pos} {P : AV → St → Prop} (h : EV D c st l (fun x st1 => EV D c st1 (.List es p) (fun y st2 => BinG D st2.hp op x y (fun z hp' => P z ⟨st2.loc, hp'⟩)))) :
    EV D c st (.BinOp l op (.List es p) pos) P := EV_BinOpG h
theorem binG_of {op : Operator} {x y : AV} {P : AV → Hp → Prop} (h : BinT D op x y (fun z => P z hp)) : BinG D hp op x y P := by
  obtain ⟨z, hz, hP⟩ := h
  intro A U Z s a b H ra rb Q E k
  refine hz A U Z hp s a b H ra rb Q E fun v x Z' hp' s' e C r => ?_
  obtain ⟨rfl, rfl⟩ := e
  exact k v _ Z' _ s' hP C r
theorem SV_perm {ss : List Stmt} {hp' : Hp} {P : Fl → St → Prop} (e : hp'.Perm st.hp) (h : SV D c ⟨st.loc, hp'⟩ ss P) : SV D c st ss P := by
  intro g A Z s R Q E k
  have hn : (keys hp').Nodup := (List.Perm.nodup_iff (e.map _)).mpr R.hr.nodup
  have x : Stp D c g A Z st s Z ⟨st.loc, hp'⟩ s := Stp.of_heap R Tr.refl (R.hr.sub (fun p hp => e.mem_iff.mp hp) hn) (fun k hk => .inl ((e.map _).mem_iff.mp hk)) ⟨s.heap, s.toks, rfl⟩
  exact h g A Z s x.rel Q E fun a Z' st' s' y p => k a Z' st' s' (x.trans y) p
end
theorem SV1_mid {K : Frag} {D : Wd K} {c : FC} {st : St} {x : Stmt} {P : Fl → St → Prop} (I : St → Prop) (h1 : SV1 D c st x (fun f st1 => f = .next ∧ I st1)) (h2 : ∀ st1, I st1 → P .next st1) : SV1 D c st x P := by
  intro g A Z s R Q E k
  refine h1 g A Z s R Q E fun f Z' st' s' x hP => k f Z' st' s' x ?_
  obtain ⟨fl, rf, rfl, hI⟩ := hP
  exact ⟨.next, rf, h2 _ hI⟩
theorem stp_drop {K : Frag} {D : Wd K} {c : FC} {g : Gh} {A : Around} {Z : Addr → Prop} {st : St} {s : Shared} {a : Addr} {o : AO} {hp' : Hp} (R : Rel D c g A Z st s) (d : Drop st.hp a o hp') : Stp D c g A Z st s Z ⟨st.loc, hp'⟩ s :=
  Stp.of_heap R Tr.refl (R.hr.drop d).1 (fun k hk => .inl ((R.hr.drop d).2.2.2.2.2.1 k hk)) ⟨s.heap, s.toks, rfl⟩
theorem EV_drop {K : Frag} {D : Wd K} {c : FC} {st : St} {e : Expr} {P : AV → St → Prop} (h : EV D c st e (fun x st1 => ∃ a o hp', Drop st1.hp a o hp' ∧ P x ⟨st1.loc, hp'⟩)) : EV D c st e P := by
  intro g A Z s R Q E k
  refine h g A Z s R Q E fun v Z' st' s' x1 hP => ?_
  obtain ⟨x, rx, a, o, hp', d, hp⟩ := hP
  exact k v Z' _ s' (x1.trans (stp_drop x1.rel d)) ⟨x, rx, hp⟩
theorem SV_drop {K : Frag} {D : Wd K} {c : FC} {st : St} {ss : List Stmt} {a : Addr} {o : AO} {hp' : Hp} {P : Fl → St → Prop} (d : Drop st.hp a o hp') (h : SV D c ⟨st.loc, hp'⟩ ss P) : SV D c st ss P := by
  intro g A Z s R Q E k
  have x := stp_drop R d
  exact h g A Z s x.rel Q E fun a Z' st' s' y p => k a Z' st' s' (x.trans y) p
end Mine

open PySem PySem.W PySem.Calls PyProof.Rows PySem.Spec
namespace Mine

/-! the rules again, with named continuations: no binder stands in them, so that a proof's terms are shared -/
section
variable {K : Frag}
noncomputable abbrev kAt {α : Type} (P : α → St → Prop) (st : St) : α → Prop := fun z => P z st
noncomputable abbrev kAtV (P : AV → St → Prop) (st : St) : Bool → Prop := fun b => P (.bool b) st
noncomputable abbrev kAs (D : Wd K) (c : FC) (x : Str) (rest : List Stmt) (P : Fl → St → Prop) : AV → St → Prop := fun v st1 => ∃ loc', Put st1.loc x v loc' ∧ x ∉ c.frees ∧ SV D c ⟨loc', st1.hp⟩ rest P
noncomputable abbrev kAsR (D : Wd K) (c : FC) (x : Str) (rest : List Stmt) (P : Fl → St → Prop) (st : St) : AV → Prop := fun v => kAs D c x rest P v st
noncomputable abbrev kRt (P : Fl → St → Prop) : AV → St → Prop := fun v st1 => P (.ret v) st1
noncomputable abbrev kEx (D : Wd K) (c : FC) (rest : List Stmt) (P : Fl → St → Prop) : AV → St → Prop := fun _ st1 => SV D c st1 rest P
noncomputable abbrev kAg (D : Wd K) (c : FC) (op : Operator) (v : AV) (x : Str) (rest : List Stmt) (P : Fl → St → Prop) : AV → St → Prop := fun w st1 => IBinT D op v w (kAsR D c x rest P st1)
noncomputable abbrev kCons (D : Wd K) (c : FC) (rest : List Stmt) (P : Fl → St → Prop) : Fl → St → Prop := fun f st1 => match f with | .next => SV D c st1 rest P | f => P f st1
noncomputable abbrev kIf (D : Wd K) (c : FC) (b o : List Stmt) (P : Fl → St → Prop) : Bool → St → Prop := fun v st1 => if v then SV D c st1 b P else SV D c st1 o P
noncomputable abbrev kSI3 (D : Wd K) (v x : AV) (P : Fl → St → Prop) : AV → St → Prop := fun y st3 => ∃ hp', SetI D st3.hp x y v hp' ∧ P .next ⟨st3.loc, hp'⟩
noncomputable abbrev kSI2 (D : Wd K) (c : FC) (v : AV) (i : Expr) (P : Fl → St → Prop) : AV → St → Prop := fun x st2 => EV D c st2 i (kSI3 D v x P)
noncomputable abbrev kSI1 (D : Wd K) (c : FC) (o i : Expr) (P : Fl → St → Prop) : AV → St → Prop := fun v st1 => EV D c st1 o (kSI2 D c v i P)
noncomputable abbrev kSA2 (D : Wd K) (name : Str) (v : AV) (P : Fl → St → Prop) : AV → St → Prop := fun x st2 => ∃ hp', SetA D st2.hp x name v hp' ∧ P .next ⟨st2.loc, hp'⟩
noncomputable abbrev kSA1 (D : Wd K) (c : FC) (o : Expr) (name : Str) (P : Fl → St → Prop) : AV → St → Prop := fun v st1 => EV D c st1 o (kSA2 D name v P)
noncomputable abbrev kB2 (D : Wd K) (op : Operator) (x : AV) (P : AV → St → Prop) : AV → St → Prop := fun y st2 => BinT D op x y (kAt P st2)
noncomputable abbrev kB1 (D : Wd K) (c : FC) (op : Operator) (r : Expr) (P : AV → St → Prop) : AV → St → Prop := fun x st1 => EV D c st1 r (kB2 D op x P)
noncomputable abbrev kBI (D : Wd K) (op : Operator) (i : Int) (P : AV → St → Prop) : AV → St → Prop := fun x st1 => BinT D op x (.int i) (kAt P st1)
noncomputable abbrev kG3 (P : AV → St → Prop) (st : St) : AV → Hp → Prop := fun z hp' => P z ⟨st.loc, hp'⟩
noncomputable abbrev kG2 (D : Wd K) (op : Operator) (x : AV) (P : AV → St → Prop) : AV → St → Prop := fun y st2 => BinG D st2.hp op x y (kG3 P st2)
noncomputable abbrev kG1 (D : Wd K) (c : FC) (op : Operator) (r : Expr) (P : AV → St → Prop) : AV → St → Prop := fun x st1 => EV D c st1 r (kG2 D op x P)
noncomputable abbrev kS2 (D : Wd K) (x : AV) (l : Option Int) (P : AV → St → Prop) : Option Int → St → Prop := fun u st3 => ∃ z, Sl D st3.hp x l u z ∧ P z st3
noncomputable abbrev kS1 (D : Wd K) (c : FC) (x : AV) (hi : Option Expr) (P : AV → St → Prop) : Option Int → St → Prop := fun l st2 => EP D c st2 hi (kS2 D x l P)
noncomputable abbrev kS0 (D : Wd K) (c : FC) (lo hi : Option Expr) (P : AV → St → Prop) : AV → St → Prop := fun x st1 => EP D c st1 lo (kS1 D c x hi P)
noncomputable abbrev kEP (P : Option Int → St → Prop) : AV → St → Prop := fun x st1 => ∃ i, x = .int i ∧ P (some i) st1
noncomputable abbrev kI2 (D : Wd K) (x : AV) (P : AV → St → Prop) : AV → St → Prop := fun y st2 => ∃ z, Sub D st2.hp x y z ∧ P z st2
noncomputable abbrev kI1 (D : Wd K) (c : FC) (i : Expr) (P : AV → St → Prop) : AV → St → Prop := fun x st1 => EV D c st1 i (kI2 D x P)
noncomputable abbrev kMc (D : Wd K) (c : FC) (f : Value) (x : AV) (P : AV → St → Prop) : List AV → St → Prop := fun xs st2 => CallE D c f (x :: xs) st2 P
noncomputable abbrev kM (D : Wd K) (c : FC) (name : Str) (args : List Expr) (P : AV → St → Prop) : AV → St → Prop := fun x st1 => ∃ f, GetM D st1.hp x name f ∧ KeepOk K f ∧ EVs D c st1 args (kMc D c f x P)
noncomputable abbrev kA (D : Wd K) (name : Str) (P : AV → St → Prop) : AV → St → Prop := fun x st1 => ∃ z, Atr D st1.hp x name z ∧ P z st1
noncomputable abbrev kCa (D : Wd K) (c : FC) (u : Value) (P : AV → St → Prop) : List AV → St → Prop := fun xs st2 => CallE D c u xs st2 P
noncomputable abbrev kK2 (D : Wd K) (op : CmpOp) (x : AV) (P : Bool → St → Prop) : AV → St → Prop := fun y st2 => CmpT D op x y (kAt P st2)
noncomputable abbrev kK1 (D : Wd K) (c : FC) (op : CmpOp) (r : Expr) (P : Bool → St → Prop) : AV → St → Prop := fun x st1 => EV D c st1 r (kK2 D op x P)
noncomputable abbrev kKI (D : Wd K) (op : CmpOp) (i : Int) (P : Bool → St → Prop) : AV → St → Prop := fun x st1 => CmpT D op x (.int i) (kAt P st1)
noncomputable abbrev kE2 (D : Wd K) (op : CmpOp) (x : AV) (P : AV → St → Prop) : AV → St → Prop := fun y st2 => CmpT D op x y (kAtV P st2)
noncomputable abbrev kE1 (D : Wd K) (c : FC) (op : CmpOp) (r : Expr) (P : AV → St → Prop) : AV → St → Prop := fun x st1 => EV D c st1 r (kE2 D op x P)
noncomputable abbrev kNot (P : Bool → St → Prop) : Bool → St → Prop := fun b st1 => P (!b) st1
noncomputable abbrev kAnd (D : Wd K) (c : FC) (y : Expr) (P : Bool → St → Prop) : Bool → St → Prop := fun b st1 => if b then BV D c st1 y P else P false st1
noncomputable abbrev kOr (D : Wd K) (c : FC) (pos : Pos) (xs : List Expr) (P : Bool → St → Prop) : Bool → St → Prop := fun b st1 => if b then P true st1 else BV D c st1 (.BoolOp .Or xs pos) P
noncomputable abbrev kV2 (x : AV) (P : List AV → St → Prop) : List AV → St → Prop := fun xs st1 => P (x :: xs) st1
noncomputable abbrev kV (D : Wd K) (c : FC) (rest : List Expr) (P : List AV → St → Prop) : AV → St → Prop := fun x st1 => EVs D c st1 rest (kV2 x P)
noncomputable abbrev kOne (P : List AV → St → Prop) : AV → St → Prop := fun x st1 => P [x] st1
noncomputable abbrev kT (P : AV → St → Prop) : List AV → St → Prop := fun xs st1 => xs.length ≤ 16777216 ∧ P (.tup xs) st1
noncomputable abbrev kIE (D : Wd K) (c : FC) (x y : Expr) (P : AV → St → Prop) : Bool → St → Prop := fun b st1 => if b then EV D c st1 x P else EV D c st1 y P
end
section
variable {P : Params} {K : Frag} {D : Wd K} {hp : Hp} {c : FC} {st : St} {pos p p2 : Pos} {e l r t : Expr} {rest b o : List Stmt} {x : Str} {v : AV} {PS : Fl → St → Prop} {PE : AV → St → Prop} {PB : Bool → St → Prop} {op : Operator} {cop : CmpOp} {i : Int} {kk : Nat} {lo hi : Option Expr} {name : Str}
theorem EV.mono {Q Q' : AV → St → Prop} (h : EV D c st e Q) (k : ∀ x st, Q x st → Q' x st) : EV D c st e Q' := fun g A Z s R _ E q => h g A Z s R _ E fun a Z' st' s' x1 ⟨y, ry, hy⟩ => q a Z' st' s' x1 ⟨y, ry, k _ _ hy⟩
theorem SV_as (h : EV D c st e (kAs D c x rest PS)) (hc : noComp e = true) : SV D c st (.Assign [.Name x p] e pos :: rest) PS := SV_cons (SV1_assign h hc)
theorem put_as {l' : Loc} (L : Put st.loc x v l') (q : SV D c ⟨l', st.hp⟩ rest PS) (hf : c.frees = []) : kAs D c x rest PS v st := ⟨l', L, hf ▸ List.not_mem_nil, q⟩
theorem put0 {l l' : Loc} {h : Hp} (L : Put l x v l') (q : SV D c ⟨l', h⟩ rest PS) : ∃ loc', Put l x v loc' ∧ x ∉ ([] : List Str) ∧ SV D c ⟨loc', h⟩ rest PS := ⟨l', L, List.not_mem_nil, q⟩
theorem put1 {l l' : Loc} {Q : Loc → Prop} (L : Put l x v l') (q : Q l') : ∃ loc', Put l x v loc' ∧ x ∉ ([] : List Str) ∧ Q loc' := ⟨l', L, List.not_mem_nil, q⟩
theorem SV_rt (h : EV D c st e (kRt PS)) : SV D c st (.Return (some e) pos :: rest) PS := SV_cons (SV1_ret h)
theorem SV_ex (h : EV D c st e (kEx D c rest PS)) (hc : noComp e = true) : SV D c st (.Expr e pos :: rest) PS := SV_cons (SV1_expr h hc)
theorem SV_ag (L : Look st.loc x v) (h : EV D c st e (kAg D c op v x rest PS)) : SV D c st (.AugAssign (.Name x p) op e pos :: rest) PS := SV_cons (SV1_aug L h)
theorem SV_co {y : Stmt} (h : SV1 D c st y (kCons D c rest PS)) : SV D c st (y :: rest) PS := SV_cons h
theorem SV_if (h : BV D c st t (kIf D c b o PS)) : SV1 D c st (.If t b o pos) PS := SV1_if h
theorem SV_si {o2 i2 : Expr} (h : EV D c st e (kSI1 D c o2 i2 (kCons D c rest PS))) (hc : noComp e = true) : SV D c st (.Assign [.Subscript o2 i2 p] e pos :: rest) PS := SV_cons (SV1_setI h hc)
theorem SV_sa {o2 : Expr} (h : EV D c st e (kSA1 D c o2 name (kCons D c rest PS))) (hc : noComp e = true) : SV D c st (.Assign [.Attribute o2 name p] e pos :: rest) PS := SV_cons (SV1_setA h hc)
theorem EV_Bin (h : EV D c st l (kB1 D c op r PE)) : EV D c st (.BinOp l op r pos) PE := EV_BinOp h
theorem EV_BinI (h : EV D c st l (kBI D op i PE)) : EV D c st (.BinOp l op (.Constant (.int i) kk p) pos) PE := EV_BinOp (h.mono fun _ _ q => EV_Int q)
theorem EV_BinN (L : Look st.loc x v) (h : EV D c st r (kB2 D op v PE)) : EV D c st (.BinOp (.Name x p) op r pos) PE := EV_BinOp (EV_Name L h)
theorem EV_BinNI (L : Look st.loc x v) (h : BinT D op v (.int i) (kAt PE st)) : EV D c st (.BinOp (.Name x p) op (.Constant (.int i) kk p2) pos) PE := EV_BinOp (EV_Name L (EV_Int h))
theorem EV_BinL {es : List Expr} (h : EV D c st (.List es p) (kG1 D c op r PE)) : EV D c st (.BinOp (.List es p) op r pos) PE := EV_BinOpG h
theorem EV_BinR {es : List Expr} (h : EV D c st l (kG1 D c op (.List es p) PE)) : EV D c st (.BinOp l op (.List es p) pos) PE := EV_BinOpG h
theorem BV_Cmp (h : EV D c st l (kK1 D c cop r PB)) (hm : behindInMarks cop r = false) : BV D c st (.Compare l [cop] [r] pos) PB := BV_Compare h hm
theorem BV_CmpI (h : EV D c st l (kKI D cop i PB)) (hm : behindInMarks cop (.Constant (.int i) kk p) = false) : BV D c st (.Compare l [cop] [.Constant (.int i) kk p] pos) PB := BV_Compare (h.mono fun _ _ q => EV_Int q) hm
theorem BV_CmpN (L : Look st.loc x v) (h : EV D c st r (kK2 D cop v PB)) (hm : behindInMarks cop r = false) : BV D c st (.Compare (.Name x p) [cop] [r] pos) PB := BV_Compare (EV_Name L h) hm
theorem EV_Cmp (h : EV D c st l (kE1 D c cop r PE)) (hm : behindInMarks cop r = false) : EV D c st (.Compare l [cop] [r] pos) PE := EV_Compare h hm
theorem BV_no (h : BV D c st e (kNot PB)) : BV D c st (.UnaryOp .Not e pos) PB := BV_not h
theorem BV_an {y : Expr} (h : BV D c st e (kAnd D c y PB)) : BV D c st (.BoolOp .And [e, y] pos) PB := BV_and h
theorem BV_orr {xs : List Expr} (h : BV D c st e (kOr D c pos xs PB)) : BV D c st (.BoolOp .Or (e :: xs) pos) PB := BV_or h
theorem EV_Ix {o2 i2 : Expr} (h : EV D c st o2 (kI1 D c i2 PE)) (hi2 : plainIndex i2 = true) : EV D c st (.Subscript o2 i2 pos) PE := EV_Index h hi2
theorem EV_IndexN {i2 : Expr} (L : Look st.loc x v) (h : EV D c st i2 (kI2 D v PE)) (hi2 : plainIndex i2 = true) : EV D c st (.Subscript (.Name x p) i2 pos) PE := EV_Index (EV_Name L h) hi2
theorem EV_At {o2 : Expr} (h : EV D c st o2 (kA D name PE)) (hb : ∀ env, attributeBase o2 name env (eval o2 env) = eval o2 env) : EV D c st (.Attribute o2 name pos) PE := EV_Attr h hb
theorem EV_AttrN (L : Look st.loc x v) (h : kA D name PE v st) : EV D c st (.Attribute (.Name x p) name pos) PE := EV_Attr (EV_Name L h)
theorem EV_Sl {o2 : Expr} (h : EV D c st o2 (kS0 D c lo hi PE)) : EV D c st (.Subscript o2 (.Slice lo hi none p2) pos) PE := EV_Slice h
theorem EV_SliceN (L : Look st.loc x v) (h : EP D c st lo (kS1 D c v hi PE)) : EV D c st (.Subscript (.Name x p) (.Slice lo hi none p2) pos) PE := EV_Slice (EV_Name L h)
theorem EP_so {Q : Option Int → St → Prop} (h : EV D c st e (kEP Q)) : EP D c st (some e) Q := EP_some h
theorem EV_Me {o2 : Expr} {apos : Pos} {args : List Expr} {pl : Env → Sem Bool} (h : EV D c st o2 (kM D c name args PE))
    (he : ∀ env, eval (.Call (.Attribute o2 name apos) args [] pos) env = (do
      let ov ← eval o2 env
      standAt apos.atName
      let (f, first) ← holding [ov] (getMethod ov name (pl env))
      callWith pos f first (backTo pos (starEach args env)) []))
    (hs : noStar args = true) : EV D c st (.Call (.Attribute o2 name apos) args [] pos) PE := EV_Method h he hs
theorem EVs_co {es : List Expr} {Q : List AV → St → Prop} (h : EV D c st e (kV D c es Q)) (he : starred e = false) : EVs D c st (e :: es) Q := EVs_cons h he
theorem EVs_N {es : List Expr} {Q : List AV → St → Prop} (L : Look st.loc x v) (h : EVs D c st es (kV2 v Q)) : EVs D c st (.Name x p :: es) Q := EVs_cons (EV_Name L h)
theorem EVs_I {es : List Expr} {Q : List AV → St → Prop} (h : EVs D c st es (kV2 (.int i) Q)) : EVs D c st (.Constant (.int i) kk p :: es) Q := EVs_cons (EV_Int h)
theorem EVs_1 {Q : List AV → St → Prop} (h : EV D c st e (kOne Q)) (he : starred e = false) : EVs D c st [e] Q := EVs_cons (h.mono fun _ _ q => EVs_nil q) he
theorem EV_Tu {es : List Expr} {n : Nat} (h : EVs D c st es (kT PE)) : EV D c st (.Tuple es n pos) PE := EV_Tuple h
theorem EV_IE {y z : Expr} (h : BV D c st t (kIE D c y z PE)) : EV D c st (.IfExp t y z pos) PE := EV_IfExp h
noncomputable def GF (D : Wd K) (x : Str) (u : Value) : Prop := (∀ {c : FC} {st : St} {pos : Pos} {Q : AV → St → Prop}, c.scope.names.lookup x = some NameKind.globalImplicit → Q (.val u) st → EV D c st (.Name x pos) Q) ∧ KeepOk K u
theorem EV_CallG {u : Value} {args : List Expr} (G : GF D x u) (hx : c.scope.names.lookup x = some NameKind.globalImplicit) (hs : noStar args = true) (h : EVs D c st args (kCa D c u PE)) : EV D c st (.Call (.Name x p) args [] pos) PE :=
  EV_Call (G.1 hx ⟨u, rfl, G.2, h⟩) rfl hs
end
section
variable {P : Params} {D : Wd (KF P)}
theorem gf_len : GF D "len" (.builtin "len") := ⟨fun hx h => EV_len hx h, keepOk_builtin⟩
theorem gf_sum : GF D "sum" (.builtin "sum") := ⟨fun hx h => EV_sum hx h, keepOk_builtin⟩
theorem gf_max : GF D "max" (.builtin "max") := ⟨fun hx h => EV_max hx h, keepOk_builtin⟩
theorem gf_min : GF D "min" (.builtin "min") := ⟨fun hx h => EV_min hx h, keepOk_builtin⟩
theorem gf_range : GF D "range" (.type "range") := ⟨fun hx h => EV_range hx h, keepOk_type⟩
theorem gf_bytes : GF D "bytes" (.type "bytes") := ⟨fun hx h => EV_bytes hx h, keepOk_type⟩
theorem gf_bytearray : GF D "bytearray" (.type "bytearray") := ⟨fun hx h => EV_bytearray hx h, keepOk_type⟩
theorem gf_put_fixed32 : GF D "put_fixed32" (.ref 94) := ⟨fun hx h => EV_put_fixed32 hx h, (keepOk_ref (by kernel_rfl))⟩
theorem gf_read_fixed32 : GF D "read_fixed32" (.ref 101) := ⟨fun hx h => EV_read_fixed32 hx h, (keepOk_ref (by kernel_rfl))⟩
theorem gf_bloom_hash : GF D "bloom_hash" (.ref 108) := ⟨fun hx h => EV_bloom_hash hx h, (keepOk_ref (by kernel_rfl))⟩
theorem gf_law_take : GF D "_law_take" (.ref 227) := ⟨fun hx h => EV_law_take hx h, (keepOk_ref (by kernel_rfl))⟩
theorem gf_law_word : GF D "_law_word" (.ref 232) := ⟨fun hx h => EV_law_word hx h, (keepOk_ref (by kernel_rfl))⟩
theorem gf_law_fix : GF D "_law_fix" (.ref 237) := ⟨fun hx h => EV_law_fix hx h, (keepOk_ref (by kernel_rfl))⟩
theorem gf_law_num : GF D "_law_num" (.ref 242) := ⟨fun hx h => EV_law_num hx h, (keepOk_ref (by kernel_rfl))⟩
theorem gf_law_lamps : GF D "_law_lamps" (.ref 247) := ⟨fun hx h => EV_law_lamps hx h, (keepOk_ref (by kernel_rfl))⟩
theorem gf_law_one : GF D "_law_one" (.ref 252) := ⟨fun hx h => EV_law_one hx h, (keepOk_ref (by kernel_rfl))⟩
theorem gf_law_body : GF D "_law_body" (.ref 259) := ⟨fun hx h => EV_law_body hx h, (keepOk_ref (by kernel_rfl))⟩
theorem gf_law_lit : GF D "_law_lit" (.ref 266) := ⟨fun hx h => EV_law_lit hx h, (keepOk_ref (by kernel_rfl))⟩
theorem gf_law_says : GF D "_law_says" (.ref 273) := ⟨fun hx h => EV_law_says hx h, (keepOk_ref (by kernel_rfl))⟩
theorem gf_law_refused : GF D "_law_refused" (.ref 280) := ⟨fun hx h => EV_law_refused hx h, (keepOk_ref (by kernel_rfl))⟩
theorem gf_law_bad : GF D "_law_bad" (.ref 287) := ⟨fun hx h => EV_law_bad hx h, (keepOk_ref (by kernel_rfl))⟩
theorem gf_law_altered : GF D "_law_altered" (.ref 292) := ⟨fun hx h => EV_law_altered hx h, (keepOk_ref (by kernel_rfl))⟩
theorem gf_Bloom : GF D "Bloom" (.ref 139) := ⟨fun hx h => EV_Bloom hx h, (keepOk_ref (by kernel_rfl))⟩
theorem gf_FilterBuilder : GF D "FilterBuilder" (.ref 188) := ⟨fun hx h => EV_FilterBuilder hx h, (keepOk_ref (by kernel_rfl))⟩
theorem gf_FilterReader : GF D "FilterReader" (.ref 216) := ⟨fun hx h => EV_FilterReader hx h, (keepOk_ref (by kernel_rfl))⟩
end
section
variable {x : Str} {v : AV} {o : Option AV} {r : Loc}
theorem look0 : Look ((x, some v) :: r) x v := .head
theorem putk0 : Put ((x, o) :: r) x v ((x, some v) :: r) := .head
theorem look1 {p0 : Str × Option AV} : Look (p0 :: (x, some v) :: r) x v := .tail (.head)
theorem putk1 {p0 : Str × Option AV} : Put (p0 :: (x, o) :: r) x v (p0 :: (x, some v) :: r) := .tail (.head)
theorem look2 {p0 p1 : Str × Option AV} : Look (p0 :: p1 :: (x, some v) :: r) x v := .tail (.tail (.head))
theorem putk2 {p0 p1 : Str × Option AV} : Put (p0 :: p1 :: (x, o) :: r) x v (p0 :: p1 :: (x, some v) :: r) := .tail (.tail (.head))
theorem look3 {p0 p1 p2 : Str × Option AV} : Look (p0 :: p1 :: p2 :: (x, some v) :: r) x v := .tail (.tail (.tail (.head)))
theorem putk3 {p0 p1 p2 : Str × Option AV} : Put (p0 :: p1 :: p2 :: (x, o) :: r) x v (p0 :: p1 :: p2 :: (x, some v) :: r) := .tail (.tail (.tail (.head)))
theorem look4 {p0 p1 p2 p3 : Str × Option AV} : Look (p0 :: p1 :: p2 :: p3 :: (x, some v) :: r) x v := .tail (.tail (.tail (.tail (.head))))
theorem putk4 {p0 p1 p2 p3 : Str × Option AV} : Put (p0 :: p1 :: p2 :: p3 :: (x, o) :: r) x v (p0 :: p1 :: p2 :: p3 :: (x, some v) :: r) := .tail (.tail (.tail (.tail (.head))))
theorem look5 {p0 p1 p2 p3 p4 : Str × Option AV} : Look (p0 :: p1 :: p2 :: p3 :: p4 :: (x, some v) :: r) x v := .tail (.tail (.tail (.tail (.tail (.head)))))
theorem putk5 {p0 p1 p2 p3 p4 : Str × Option AV} : Put (p0 :: p1 :: p2 :: p3 :: p4 :: (x, o) :: r) x v (p0 :: p1 :: p2 :: p3 :: p4 :: (x, some v) :: r) := .tail (.tail (.tail (.tail (.tail (.head)))))
theorem look6 {p0 p1 p2 p3 p4 p5 : Str × Option AV} : Look (p0 :: p1 :: p2 :: p3 :: p4 :: p5 :: (x, some v) :: r) x v := .tail (.tail (.tail (.tail (.tail (.tail (.head))))))
theorem putk6 {p0 p1 p2 p3 p4 p5 : Str × Option AV} : Put (p0 :: p1 :: p2 :: p3 :: p4 :: p5 :: (x, o) :: r) x v (p0 :: p1 :: p2 :: p3 :: p4 :: p5 :: (x, some v) :: r) := .tail (.tail (.tail (.tail (.tail (.tail (.head))))))
theorem look7 {p0 p1 p2 p3 p4 p5 p6 : Str × Option AV} : Look (p0 :: p1 :: p2 :: p3 :: p4 :: p5 :: p6 :: (x, some v) :: r) x v := .tail (.tail (.tail (.tail (.tail (.tail (.tail (.head)))))))
theorem putk7 {p0 p1 p2 p3 p4 p5 p6 : Str × Option AV} : Put (p0 :: p1 :: p2 :: p3 :: p4 :: p5 :: p6 :: (x, o) :: r) x v (p0 :: p1 :: p2 :: p3 :: p4 :: p5 :: p6 :: (x, some v) :: r) := .tail (.tail (.tail (.tail (.tail (.tail (.tail (.head)))))))
theorem look8 {p0 p1 p2 p3 p4 p5 p6 p7 : Str × Option AV} : Look (p0 :: p1 :: p2 :: p3 :: p4 :: p5 :: p6 :: p7 :: (x, some v) :: r) x v := .tail (.tail (.tail (.tail (.tail (.tail (.tail (.tail (.head))))))))
theorem putk8 {p0 p1 p2 p3 p4 p5 p6 p7 : Str × Option AV} : Put (p0 :: p1 :: p2 :: p3 :: p4 :: p5 :: p6 :: p7 :: (x, o) :: r) x v (p0 :: p1 :: p2 :: p3 :: p4 :: p5 :: p6 :: p7 :: (x, some v) :: r) := .tail (.tail (.tail (.tail (.tail (.tail (.tail (.tail (.head))))))))
theorem look9 {p0 p1 p2 p3 p4 p5 p6 p7 p8 : Str × Option AV} : Look (p0 :: p1 :: p2 :: p3 :: p4 :: p5 :: p6 :: p7 :: p8 :: (x, some v) :: r) x v := .tail (.tail (.tail (.tail (.tail (.tail (.tail (.tail (.tail (.head)))))))))
theorem putk9 {p0 p1 p2 p3 p4 p5 p6 p7 p8 : Str × Option AV} : Put (p0 :: p1 :: p2 :: p3 :: p4 :: p5 :: p6 :: p7 :: p8 :: (x, o) :: r) x v (p0 :: p1 :: p2 :: p3 :: p4 :: p5 :: p6 :: p7 :: p8 :: (x, some v) :: r) := .tail (.tail (.tail (.tail (.tail (.tail (.tail (.tail (.tail (.head)))))))))
theorem look10 {p0 p1 p2 p3 p4 p5 p6 p7 p8 p9 : Str × Option AV} : Look (p0 :: p1 :: p2 :: p3 :: p4 :: p5 :: p6 :: p7 :: p8 :: p9 :: (x, some v) :: r) x v := .tail (.tail (.tail (.tail (.tail (.tail (.tail (.tail (.tail (.tail (.head))))))))))
theorem putk10 {p0 p1 p2 p3 p4 p5 p6 p7 p8 p9 : Str × Option AV} : Put (p0 :: p1 :: p2 :: p3 :: p4 :: p5 :: p6 :: p7 :: p8 :: p9 :: (x, o) :: r) x v (p0 :: p1 :: p2 :: p3 :: p4 :: p5 :: p6 :: p7 :: p8 :: p9 :: (x, some v) :: r) := .tail (.tail (.tail (.tail (.tail (.tail (.tail (.tail (.tail (.tail (.head))))))))))
theorem look11 {p0 p1 p2 p3 p4 p5 p6 p7 p8 p9 p10 : Str × Option AV} : Look (p0 :: p1 :: p2 :: p3 :: p4 :: p5 :: p6 :: p7 :: p8 :: p9 :: p10 :: (x, some v) :: r) x v := .tail (.tail (.tail (.tail (.tail (.tail (.tail (.tail (.tail (.tail (.tail (.head)))))))))))
theorem putk11 {p0 p1 p2 p3 p4 p5 p6 p7 p8 p9 p10 : Str × Option AV} : Put (p0 :: p1 :: p2 :: p3 :: p4 :: p5 :: p6 :: p7 :: p8 :: p9 :: p10 :: (x, o) :: r) x v (p0 :: p1 :: p2 :: p3 :: p4 :: p5 :: p6 :: p7 :: p8 :: p9 :: p10 :: (x, some v) :: r) := .tail (.tail (.tail (.tail (.tail (.tail (.tail (.tail (.tail (.tail (.tail (.head)))))))))))
theorem look12 {p0 p1 p2 p3 p4 p5 p6 p7 p8 p9 p10 p11 : Str × Option AV} : Look (p0 :: p1 :: p2 :: p3 :: p4 :: p5 :: p6 :: p7 :: p8 :: p9 :: p10 :: p11 :: (x, some v) :: r) x v := .tail (.tail (.tail (.tail (.tail (.tail (.tail (.tail (.tail (.tail (.tail (.tail (.head))))))))))))
theorem putk12 {p0 p1 p2 p3 p4 p5 p6 p7 p8 p9 p10 p11 : Str × Option AV} : Put (p0 :: p1 :: p2 :: p3 :: p4 :: p5 :: p6 :: p7 :: p8 :: p9 :: p10 :: p11 :: (x, o) :: r) x v (p0 :: p1 :: p2 :: p3 :: p4 :: p5 :: p6 :: p7 :: p8 :: p9 :: p10 :: p11 :: (x, some v) :: r) := .tail (.tail (.tail (.tail (.tail (.tail (.tail (.tail (.tail (.tail (.tail (.tail (.head))))))))))))
theorem look13 {p0 p1 p2 p3 p4 p5 p6 p7 p8 p9 p10 p11 p12 : Str × Option AV} : Look (p0 :: p1 :: p2 :: p3 :: p4 :: p5 :: p6 :: p7 :: p8 :: p9 :: p10 :: p11 :: p12 :: (x, some v) :: r) x v := .tail (.tail (.tail (.tail (.tail (.tail (.tail (.tail (.tail (.tail (.tail (.tail (.tail (.head)))))))))))))
theorem putk13 {p0 p1 p2 p3 p4 p5 p6 p7 p8 p9 p10 p11 p12 : Str × Option AV} : Put (p0 :: p1 :: p2 :: p3 :: p4 :: p5 :: p6 :: p7 :: p8 :: p9 :: p10 :: p11 :: p12 :: (x, o) :: r) x v (p0 :: p1 :: p2 :: p3 :: p4 :: p5 :: p6 :: p7 :: p8 :: p9 :: p10 :: p11 :: p12 :: (x, some v) :: r) := .tail (.tail (.tail (.tail (.tail (.tail (.tail (.tail (.tail (.tail (.tail (.tail (.tail (.head)))))))))))))
theorem look14 {p0 p1 p2 p3 p4 p5 p6 p7 p8 p9 p10 p11 p12 p13 : Str × Option AV} : Look (p0 :: p1 :: p2 :: p3 :: p4 :: p5 :: p6 :: p7 :: p8 :: p9 :: p10 :: p11 :: p12 :: p13 :: (x, some v) :: r) x v := .tail (.tail (.tail (.tail (.tail (.tail (.tail (.tail (.tail (.tail (.tail (.tail (.tail (.tail (.head))))))))))))))
theorem putk14 {p0 p1 p2 p3 p4 p5 p6 p7 p8 p9 p10 p11 p12 p13 : Str × Option AV} : Put (p0 :: p1 :: p2 :: p3 :: p4 :: p5 :: p6 :: p7 :: p8 :: p9 :: p10 :: p11 :: p12 :: p13 :: (x, o) :: r) x v (p0 :: p1 :: p2 :: p3 :: p4 :: p5 :: p6 :: p7 :: p8 :: p9 :: p10 :: p11 :: p12 :: p13 :: (x, some v) :: r) := .tail (.tail (.tail (.tail (.tail (.tail (.tail (.tail (.tail (.tail (.tail (.tail (.tail (.tail (.head))))))))))))))
theorem look15 {p0 p1 p2 p3 p4 p5 p6 p7 p8 p9 p10 p11 p12 p13 p14 : Str × Option AV} : Look (p0 :: p1 :: p2 :: p3 :: p4 :: p5 :: p6 :: p7 :: p8 :: p9 :: p10 :: p11 :: p12 :: p13 :: p14 :: (x, some v) :: r) x v := .tail (.tail (.tail (.tail (.tail (.tail (.tail (.tail (.tail (.tail (.tail (.tail (.tail (.tail (.tail (.head)))))))))))))))
theorem putk15 {p0 p1 p2 p3 p4 p5 p6 p7 p8 p9 p10 p11 p12 p13 p14 : Str × Option AV} : Put (p0 :: p1 :: p2 :: p3 :: p4 :: p5 :: p6 :: p7 :: p8 :: p9 :: p10 :: p11 :: p12 :: p13 :: p14 :: (x, o) :: r) x v (p0 :: p1 :: p2 :: p3 :: p4 :: p5 :: p6 :: p7 :: p8 :: p9 :: p10 :: p11 :: p12 :: p13 :: p14 :: (x, some v) :: r) := .tail (.tail (.tail (.tail (.tail (.tail (.tail (.tail (.tail (.tail (.tail (.tail (.tail (.tail (.tail (.head)))))))))))))))
theorem look16 {p0 p1 p2 p3 p4 p5 p6 p7 p8 p9 p10 p11 p12 p13 p14 p15 : Str × Option AV} : Look (p0 :: p1 :: p2 :: p3 :: p4 :: p5 :: p6 :: p7 :: p8 :: p9 :: p10 :: p11 :: p12 :: p13 :: p14 :: p15 :: (x, some v) :: r) x v := .tail (.tail (.tail (.tail (.tail (.tail (.tail (.tail (.tail (.tail (.tail (.tail (.tail (.tail (.tail (.tail (.head))))))))))))))))
theorem putk16 {p0 p1 p2 p3 p4 p5 p6 p7 p8 p9 p10 p11 p12 p13 p14 p15 : Str × Option AV} : Put (p0 :: p1 :: p2 :: p3 :: p4 :: p5 :: p6 :: p7 :: p8 :: p9 :: p10 :: p11 :: p12 :: p13 :: p14 :: p15 :: (x, o) :: r) x v (p0 :: p1 :: p2 :: p3 :: p4 :: p5 :: p6 :: p7 :: p8 :: p9 :: p10 :: p11 :: p12 :: p13 :: p14 :: p15 :: (x, some v) :: r) := .tail (.tail (.tail (.tail (.tail (.tail (.tail (.tail (.tail (.tail (.tail (.tail (.tail (.tail (.tail (.tail (.head))))))))))))))))
theorem look17 {p0 p1 p2 p3 p4 p5 p6 p7 p8 p9 p10 p11 p12 p13 p14 p15 p16 : Str × Option AV} : Look (p0 :: p1 :: p2 :: p3 :: p4 :: p5 :: p6 :: p7 :: p8 :: p9 :: p10 :: p11 :: p12 :: p13 :: p14 :: p15 :: p16 :: (x, some v) :: r) x v := .tail (.tail (.tail (.tail (.tail (.tail (.tail (.tail (.tail (.tail (.tail (.tail (.tail (.tail (.tail (.tail (.tail (.head)))))))))))))))))
theorem putk17 {p0 p1 p2 p3 p4 p5 p6 p7 p8 p9 p10 p11 p12 p13 p14 p15 p16 : Str × Option AV} : Put (p0 :: p1 :: p2 :: p3 :: p4 :: p5 :: p6 :: p7 :: p8 :: p9 :: p10 :: p11 :: p12 :: p13 :: p14 :: p15 :: p16 :: (x, o) :: r) x v (p0 :: p1 :: p2 :: p3 :: p4 :: p5 :: p6 :: p7 :: p8 :: p9 :: p10 :: p11 :: p12 :: p13 :: p14 :: p15 :: p16 :: (x, some v) :: r) := .tail (.tail (.tail (.tail (.tail (.tail (.tail (.tail (.tail (.tail (.tail (.tail (.tail (.tail (.tail (.tail (.tail (.head)))))))))))))))))
theorem look18 {p0 p1 p2 p3 p4 p5 p6 p7 p8 p9 p10 p11 p12 p13 p14 p15 p16 p17 : Str × Option AV} : Look (p0 :: p1 :: p2 :: p3 :: p4 :: p5 :: p6 :: p7 :: p8 :: p9 :: p10 :: p11 :: p12 :: p13 :: p14 :: p15 :: p16 :: p17 :: (x, some v) :: r) x v := .tail (.tail (.tail (.tail (.tail (.tail (.tail (.tail (.tail (.tail (.tail (.tail (.tail (.tail (.tail (.tail (.tail (.tail (.head))))))))))))))))))
theorem putk18 {p0 p1 p2 p3 p4 p5 p6 p7 p8 p9 p10 p11 p12 p13 p14 p15 p16 p17 : Str × Option AV} : Put (p0 :: p1 :: p2 :: p3 :: p4 :: p5 :: p6 :: p7 :: p8 :: p9 :: p10 :: p11 :: p12 :: p13 :: p14 :: p15 :: p16 :: p17 :: (x, o) :: r) x v (p0 :: p1 :: p2 :: p3 :: p4 :: p5 :: p6 :: p7 :: p8 :: p9 :: p10 :: p11 :: p12 :: p13 :: p14 :: p15 :: p16 :: p17 :: (x, some v) :: r) := .tail (.tail (.tail (.tail (.tail (.tail (.tail (.tail (.tail (.tail (.tail (.tail (.tail (.tail (.tail (.tail (.tail (.tail (.head))))))))))))))))))
theorem look19 {p0 p1 p2 p3 p4 p5 p6 p7 p8 p9 p10 p11 p12 p13 p14 p15 p16 p17 p18 : Str × Option AV} : Look (p0 :: p1 :: p2 :: p3 :: p4 :: p5 :: p6 :: p7 :: p8 :: p9 :: p10 :: p11 :: p12 :: p13 :: p14 :: p15 :: p16 :: p17 :: p18 :: (x, some v) :: r) x v := .tail (.tail (.tail (.tail (.tail (.tail (.tail (.tail (.tail (.tail (.tail (.tail (.tail (.tail (.tail (.tail (.tail (.tail (.tail (.head)))))))))))))))))))
theorem putk19 {p0 p1 p2 p3 p4 p5 p6 p7 p8 p9 p10 p11 p12 p13 p14 p15 p16 p17 p18 : Str × Option AV} : Put (p0 :: p1 :: p2 :: p3 :: p4 :: p5 :: p6 :: p7 :: p8 :: p9 :: p10 :: p11 :: p12 :: p13 :: p14 :: p15 :: p16 :: p17 :: p18 :: (x, o) :: r) x v (p0 :: p1 :: p2 :: p3 :: p4 :: p5 :: p6 :: p7 :: p8 :: p9 :: p10 :: p11 :: p12 :: p13 :: p14 :: p15 :: p16 :: p17 :: p18 :: (x, some v) :: r) := .tail (.tail (.tail (.tail (.tail (.tail (.tail (.tail (.tail (.tail (.tail (.tail (.tail (.tail (.tail (.tail (.tail (.tail (.tail (.head)))))))))))))))))))
theorem look20 {p0 p1 p2 p3 p4 p5 p6 p7 p8 p9 p10 p11 p12 p13 p14 p15 p16 p17 p18 p19 : Str × Option AV} : Look (p0 :: p1 :: p2 :: p3 :: p4 :: p5 :: p6 :: p7 :: p8 :: p9 :: p10 :: p11 :: p12 :: p13 :: p14 :: p15 :: p16 :: p17 :: p18 :: p19 :: (x, some v) :: r) x v := .tail (.tail (.tail (.tail (.tail (.tail (.tail (.tail (.tail (.tail (.tail (.tail (.tail (.tail (.tail (.tail (.tail (.tail (.tail (.tail (.head))))))))))))))))))))
theorem putk20 {p0 p1 p2 p3 p4 p5 p6 p7 p8 p9 p10 p11 p12 p13 p14 p15 p16 p17 p18 p19 : Str × Option AV} : Put (p0 :: p1 :: p2 :: p3 :: p4 :: p5 :: p6 :: p7 :: p8 :: p9 :: p10 :: p11 :: p12 :: p13 :: p14 :: p15 :: p16 :: p17 :: p18 :: p19 :: (x, o) :: r) x v (p0 :: p1 :: p2 :: p3 :: p4 :: p5 :: p6 :: p7 :: p8 :: p9 :: p10 :: p11 :: p12 :: p13 :: p14 :: p15 :: p16 :: p17 :: p18 :: p19 :: (x, some v) :: r) := .tail (.tail (.tail (.tail (.tail (.tail (.tail (.tail (.tail (.tail (.tail (.tail (.tail (.tail (.tail (.tail (.tail (.tail (.tail (.tail (.head))))))))))))))))))))
theorem look21 {p0 p1 p2 p3 p4 p5 p6 p7 p8 p9 p10 p11 p12 p13 p14 p15 p16 p17 p18 p19 p20 : Str × Option AV} : Look (p0 :: p1 :: p2 :: p3 :: p4 :: p5 :: p6 :: p7 :: p8 :: p9 :: p10 :: p11 :: p12 :: p13 :: p14 :: p15 :: p16 :: p17 :: p18 :: p19 :: p20 :: (x, some v) :: r) x v := .tail (.tail (.tail (.tail (.tail (.tail (.tail (.tail (.tail (.tail (.tail (.tail (.tail (.tail (.tail (.tail (.tail (.tail (.tail (.tail (.tail (.head)))))))))))))))))))))
theorem putk21 {p0 p1 p2 p3 p4 p5 p6 p7 p8 p9 p10 p11 p12 p13 p14 p15 p16 p17 p18 p19 p20 : Str × Option AV} : Put (p0 :: p1 :: p2 :: p3 :: p4 :: p5 :: p6 :: p7 :: p8 :: p9 :: p10 :: p11 :: p12 :: p13 :: p14 :: p15 :: p16 :: p17 :: p18 :: p19 :: p20 :: (x, o) :: r) x v (p0 :: p1 :: p2 :: p3 :: p4 :: p5 :: p6 :: p7 :: p8 :: p9 :: p10 :: p11 :: p12 :: p13 :: p14 :: p15 :: p16 :: p17 :: p18 :: p19 :: p20 :: (x, some v) :: r) := .tail (.tail (.tail (.tail (.tail (.tail (.tail (.tail (.tail (.tail (.tail (.tail (.tail (.tail (.tail (.tail (.tail (.tail (.tail (.tail (.tail (.head)))))))))))))))))))))
theorem look22 {p0 p1 p2 p3 p4 p5 p6 p7 p8 p9 p10 p11 p12 p13 p14 p15 p16 p17 p18 p19 p20 p21 : Str × Option AV} : Look (p0 :: p1 :: p2 :: p3 :: p4 :: p5 :: p6 :: p7 :: p8 :: p9 :: p10 :: p11 :: p12 :: p13 :: p14 :: p15 :: p16 :: p17 :: p18 :: p19 :: p20 :: p21 :: (x, some v) :: r) x v := .tail (.tail (.tail (.tail (.tail (.tail (.tail (.tail (.tail (.tail (.tail (.tail (.tail (.tail (.tail (.tail (.tail (.tail (.tail (.tail (.tail (.tail (.head))))))))))))))))))))))
theorem putk22 {p0 p1 p2 p3 p4 p5 p6 p7 p8 p9 p10 p11 p12 p13 p14 p15 p16 p17 p18 p19 p20 p21 : Str × Option AV} : Put (p0 :: p1 :: p2 :: p3 :: p4 :: p5 :: p6 :: p7 :: p8 :: p9 :: p10 :: p11 :: p12 :: p13 :: p14 :: p15 :: p16 :: p17 :: p18 :: p19 :: p20 :: p21 :: (x, o) :: r) x v (p0 :: p1 :: p2 :: p3 :: p4 :: p5 :: p6 :: p7 :: p8 :: p9 :: p10 :: p11 :: p12 :: p13 :: p14 :: p15 :: p16 :: p17 :: p18 :: p19 :: p20 :: p21 :: (x, some v) :: r) := .tail (.tail (.tail (.tail (.tail (.tail (.tail (.tail (.tail (.tail (.tail (.tail (.tail (.tail (.tail (.tail (.tail (.tail (.tail (.tail (.tail (.tail (.head))))))))))))))))))))))
theorem look23 {p0 p1 p2 p3 p4 p5 p6 p7 p8 p9 p10 p11 p12 p13 p14 p15 p16 p17 p18 p19 p20 p21 p22 : Str × Option AV} : Look (p0 :: p1 :: p2 :: p3 :: p4 :: p5 :: p6 :: p7 :: p8 :: p9 :: p10 :: p11 :: p12 :: p13 :: p14 :: p15 :: p16 :: p17 :: p18 :: p19 :: p20 :: p21 :: p22 :: (x, some v) :: r) x v := .tail (.tail (.tail (.tail (.tail (.tail (.tail (.tail (.tail (.tail (.tail (.tail (.tail (.tail (.tail (.tail (.tail (.tail (.tail (.tail (.tail (.tail (.tail (.head)))))))))))))))))))))))
theorem putk23 {p0 p1 p2 p3 p4 p5 p6 p7 p8 p9 p10 p11 p12 p13 p14 p15 p16 p17 p18 p19 p20 p21 p22 : Str × Option AV} : Put (p0 :: p1 :: p2 :: p3 :: p4 :: p5 :: p6 :: p7 :: p8 :: p9 :: p10 :: p11 :: p12 :: p13 :: p14 :: p15 :: p16 :: p17 :: p18 :: p19 :: p20 :: p21 :: p22 :: (x, o) :: r) x v (p0 :: p1 :: p2 :: p3 :: p4 :: p5 :: p6 :: p7 :: p8 :: p9 :: p10 :: p11 :: p12 :: p13 :: p14 :: p15 :: p16 :: p17 :: p18 :: p19 :: p20 :: p21 :: p22 :: (x, some v) :: r) := .tail (.tail (.tail (.tail (.tail (.tail (.tail (.tail (.tail (.tail (.tail (.tail (.tail (.tail (.tail (.tail (.tail (.tail (.tail (.tail (.tail (.tail (.tail (.head)))))))))))))))))))))))
end
section
variable {K : Frag} {D : Wd K} {c : FC} {st : St} {hp' : Hp} {x y z v : AV} {n : Str}
theorem xSub {P : AV → St → Prop} (h : Sub D st.hp x y z) (q : P z st) : kI2 D x P y st := ⟨z, h, q⟩
theorem xSl {l u : Option Int} {P : AV → St → Prop} (h : Sl D st.hp x l u z) (q : P z st) : kS2 D x l P u st := ⟨z, h, q⟩
theorem xAtr {P : AV → St → Prop} (h : Atr D st.hp x n z) (q : P z st) : kA D n P x st := ⟨z, h, q⟩
theorem xSetI {P : Fl → St → Prop} (h : SetI D st.hp x y v hp') (q : P .next ⟨st.loc, hp'⟩) : kSI3 D v x P y st := ⟨hp', h, q⟩
theorem xSetA {P : Fl → St → Prop} (h : SetA D st.hp x n v hp') (q : P .next ⟨st.loc, hp'⟩) : kSA2 D n v P x st := ⟨hp', h, q⟩
theorem xGetM {f : Value} {args : List Expr} {P : AV → St → Prop} (h : GetM D st.hp x n f) (h2 : KeepOk K f) (q : EVs D c st args (kMc D c f x P)) : kM D c n args P x st := ⟨f, h, h2, q⟩
end
noncomputable def GV {K : Frag} (D : Wd K) (x : Str) (v : AV) : Prop := ∀ {c : FC} {st : St} {pos : Pos} {Q : AV → St → Prop}, c.scope.names.lookup x = some NameKind.globalImplicit → Q v st → EV D c st (.Name x pos) Q
theorem EV_G {K : Frag} {D : Wd K} {c : FC} {st : St} {pos : Pos} {Q : AV → St → Prop} {x : Str} {v : AV} (G : GV D x v) (hx : c.scope.names.lookup x = some NameKind.globalImplicit) (h : Q v st) : EV D c st (.Name x pos) Q := G hx h
section
variable {P : Params} {D : Wd (KF P)}
theorem gv_MAX_32 : GV D "MAX_32" (.int 4294967295) := fun hx h => EV_MAX_32 hx h
theorem gv_HASH_SEED : GV D "HASH_SEED" (.int 3164544308) := fun hx h => EV_HASH_SEED hx h
theorem gv_HASH_MUL : GV D "HASH_MUL" (.int 3332679571) := fun hx h => EV_HASH_MUL hx h
theorem gv_HASH_SHIFT : GV D "HASH_SHIFT" (.int 24) := fun hx h => EV_HASH_SHIFT hx h
theorem gv_MOST_PROBES : GV D "MOST_PROBES" (.int 30) := fun hx h => EV_MOST_PROBES hx h
theorem gv_LEAST_FILTER_BITS : GV D "LEAST_FILTER_BITS" (.int 64) := fun hx h => EV_LEAST hx h
theorem gv_WORD : GV D "WORD" (.int 4294967295) := fun hx h => EV_WORD hx h
theorem gv_Bloom : GV D "Bloom" (.val (.ref 139)) := fun hx h => EV_Bloom hx h
theorem gv_FilterBuilder : GV D "FilterBuilder" (.val (.ref 188)) := fun hx h => EV_FilterBuilder hx h
end
section
variable {K : Frag} {D : Wd K} {c : FC} {st : St} {b : Bool} {n : Nat} {f : Value} {xs : List AV} {P : AV → St → Prop} {hp' : Hp}
theorem CallE_w {z : AV} (h : CallT b D n f xs st.hp (fun x hp2 => x = z ∧ hp2 = st.hp)) (hP : P z st) (hl : n ≤ c.lvl := by decide) (hn : c.hn = true := by rfl)
    (hb : b = true → c.cl = true := by first | exact fun _ => rfl | exact fun e => nomatch e) : CallE D c f xs st P := CallE_c h (fun x hp2 ⟨e1, e2⟩ => by subst e1 e2; exact hP) hl hn hb
theorem CallE_t {m : Int} (h : CallT b D n f xs st.hp (fun x hp2 => ∃ v, x = .int v ∧ 0 ≤ v ∧ v < m ∧ hp2 = hp')) (hP : ∀ v, 0 ≤ v → v < m → P (.int v) ⟨st.loc, hp'⟩) (hl : n ≤ c.lvl := by decide) (hn : c.hn = true := by rfl)
    (hb : b = true → c.cl = true := by first | exact fun _ => rfl | exact fun e => nomatch e) : CallE D c f xs st P := CallE_c h (fun x hp2 ⟨v, e1, v0, v1, e2⟩ => by subst e1 e2; exact hP v v0 v1) hl hn hb
theorem CallE_b {m : Nat} (h : CallT b D n f xs st.hp (fun x hp2 => ∃ v, x = .bytes v ∧ v.length ≤ m ∧ hp2 = st.hp)) (hP : ∀ v, v.length ≤ m → P (.bytes v) st) (hl : n ≤ c.lvl := by decide) (hn : c.hn = true := by rfl)
    (hb : b = true → c.cl = true := by first | exact fun _ => rfl | exact fun e => nomatch e) : CallE D c f xs st P := CallE_c h (fun x hp2 ⟨v, e1, v0, e2⟩ => by subst e1 e2; exact hP v v0) hl hn hb
theorem SV1_md {x : Stmt} {Q : Fl → St → Prop} (S : St) (h1 : SV1 D c st x (fun f st1 => f = .next ∧ st1 = S)) (h2 : Q .next S) : SV1 D c st x Q := SV1_mid (fun st => st = S) h1 fun st1 e => by subst e; exact h2
end
end Mine

open PySem PySem.W PySem.Calls PyProof.Rows PySem.Spec
namespace Mine

variable {P : Params} {D : Wd (KF P)} {hp : Hp}

set_option compiler.extract_closed false

local macro_rules | `(tactic| walk_at "lk") => do
  let ts ← (Array.range 21).mapM fun i => `(tactic| exact $(Lean.mkIdent (.mkSimple s!"look{i}")))
  `(tactic| with_reducible first $[| $ts:tactic]*)
local macro_rules | `(tactic| walk_at "put") => do
  let ts ← (Array.range 21).mapM fun i => `(tactic| exact $(Lean.mkIdent (.mkSimple s!"putk{i}")))
  `(tactic| with_reducible first $[| $ts:tactic]*)
local macro_rules | `(tactic| walk_at "has") => `(tactic| (repeat (first | with_reducible exact Has.head | with_reducible apply Has.tail)))
local macro_rules | `(tactic| walk_at "swap") => `(tactic| (repeat (first | with_reducible exact Swap.head | with_reducible apply Swap.tail)))
local macro_rules | `(tactic| walk_at "drop") => `(tactic| (repeat (first | with_reducible exact Drop.head | with_reducible apply Drop.tail)))
local macro_rules | `(tactic| walk_at "capt") => `(tactic| (repeat (first | with_reducible exact Capt.nil | ((with_reducible refine' Capt.cons ?L ?R); (case L => walk_at "lk")))))
local macro_rules | `(tactic| walk_at "sd") => `(tactic| first | decide | omega | assumption)
local macro_rules | `(tactic| walk_at "enter") => `(tactic| (simp only [locOf, List.zip_cons_cons, List.zip_nil_right, List.zip_nil_left, List.map_cons, List.map_nil, List.cons_append, List.nil_append]; first | show SV _ _ _ (_ :: _) _ | show SVX _ _ _ (_ :: _) _ _ | show SVF _ _ _ (_ :: _) _ | skip))
local macro_rules | `(tactic| walk_at "gc") => do
  let ts ← ("len sum max min range bytes bytearray put_fixed32 read_fixed32 bloom_hash law_take law_word law_fix law_num law_lamps law_one law_body law_lit law_says law_refused law_bad law_altered Bloom FilterBuilder FilterReader".splitOn " ").toArray.mapM fun n => `(tactic| exact $(Lean.mkIdent (.mkSimple ("gf_" ++ n))))
  `(tactic| ((with_reducible refine' EV_CallG ?G ?h1 ?h2 ?_); (case G => with_reducible first $[| $ts:tactic]*); (case h1 => rfl); (case h2 => rfl)))
local macro_rules | `(tactic| walk_at "gl") => do
  let ts ← ("MAX_32 HASH_SEED HASH_MUL HASH_SHIFT MOST_PROBES LEAST_FILTER_BITS WORD Bloom FilterBuilder".splitOn " ").toArray.mapM fun n => `(tactic| exact $(Lean.mkIdent (.mkSimple ("gv_" ++ n))))
  `(tactic| ((with_reducible refine' EV_G ?G ?h1 ?_); (case G => with_reducible first $[| $ts:tactic]*); (case h1 => rfl)))
local macro_rules | `(tactic| walk_at "d") => `(tactic| first | ((refine' put_as ?h1 ?_ ?h2); (case h1 => walk_at "put"); (case h2 => rfl)) | ((refine' put0 ?h1 ?_); (case h1 => walk_at "put")) | ((refine' put1 ?h1 ?_); (case h1 => walk_at "put")) | dsimp only)
-- one step
local macro_rules | `(tactic| walk_at "t") => do
  let r (l : String) : Lean.MacroM (Lean.TSyntax `tactic) := do
    let ts ← (l.splitOn " ").toArray.mapM fun n => `(tactic| refine $(Lean.mkIdent (.mkSimple n)) ?_)
    `(tactic| with_reducible first $[| $ts:tactic]*)
  let q (l : String) : Lean.MacroM (Lean.TSyntax `tactic) := do
    let ts ← (l.splitOn " ").toArray.mapM fun n => `(tactic| refine' $(Lean.mkIdent (.mkSimple n)) ?_ ?h1)
    `(tactic| ((with_reducible first $[| $ts:tactic]*); (case h1 => rfl)))
  let k ← ("SV_ag SV1_aug EV_Name EV_BinNI EV_BinN EV_SliceN EV_AttrN EVs_N".splitOn " ").toArray.mapM fun n => `(tactic| refine' $(Lean.mkIdent (.mkSimple n)) ?L ?_)
  let t1 ← r "SV_rt SV1_ret EV_Int EV_BinL EV_BinR EP_none EP_so ex_int ex_bool BV_no BV_an BV_orr BV_or_nil EVs_I EVs_nil EV_Str EV_Bytes EV_Bool EV_Tu EV_IE"
  let t2 ← q "SV_as SV_ex SV_si SV_sa SV1_assign SV1_setI SV1_setA SV1_expr EV_Cmp BV_CmpI"
  let t3 ← q "EV_Ix BV_Cmp EVs_1 EVs_co"
  let t4 ← r "EV_BinI EV_Bin EV_Sl SV_co"
  let t5 ← r "ifTT ifFT bin_add bin_sub bin_xor cmp_lt cmp_le cmp_gt cmp_ge cmp_eq ibin_add ibin_xor"
  `(tactic| first
    | $t1:tactic
    | $t2:tactic
    | ((with_reducible first $[| $k:tactic]*); (case L => walk_at "lk"))
    | ((with_reducible first | refine' EV_IndexN ?L ?_ ?h1 | refine' BV_CmpN ?L ?_ ?h1); (case L => walk_at "lk"); (case h1 => rfl))
    | $t3:tactic
    | $t4:tactic
    | ((with_reducible refine' EV_Me ?_ ?h1 ?h2); (case h1 => intro _; rfl); (case h2 => rfl))
    | ((with_reducible refine' EV_At ?_ ?h1); (case h1 => intro _; rfl))
    | walk_at "gc"
    | ((with_reducible refine' EV_Call ?_ ?h1 ?h2); (case h1 => rfl); (case h2 => rfl))
    | walk_at "gl"
    | (with_reducible first | refine ex_val keepOk_builtin ?_ | refine ex_val keepOk_type ?_)
    | ((with_reducible refine' ex_val (keepOk_ref ?h1) ?_); (case h1 => kernel_rfl))
    | walk_at "d"
    | $t5:tactic
    | (with_reducible first | refine CallE_v max_ints ?_ | refine CallE_v min_ints ?_ | refine CallE_v range_1 ?_)
    | ((with_reducible refine' xSub (sub_bytes ?h1 ?h2 ?h3) ?_); (case h1 => omega); (case h2 => omega); (case h3 => omega))
    | ((with_reducible refine' CallE_v (len_bytes' ?h1) ?_); (case h1 => omega))
    | ((with_reducible refine bin_shr ?h1 ?_); (case h1 => decide))
    | ((with_reducible first | refine bin_mul ?h1 ?_ | refine bin_mod ?h1 ?_); (case h1 => walk_at "sd"))
    | ((with_reducible refine bin_div ?h1 ?h2 ?_); (case h1 => walk_at "sd"); (case h2 => walk_at "sd"))
    | ((with_reducible refine' dyes ?h1 ?_); (case h1 => walk_at "do"))
    | ((with_reducible refine' dno ?h1 ?_); (case h1 => walk_at "do"))
    | with_reducible refine SV_nil ?_)
local macro_rules | `(tactic| walk_at "o") => `(tactic| first | with_reducible assumption | omega)
local macro_rules | `(tactic| walk_at "do") => `(tactic| first | with_reducible assumption | omega)
local macro_rules | `(tactic| walk_at "s") => `(tactic| first | with_reducible refine SV_if ?_ | walk_at "t")


theorem ex_int' : True := trivial
theorem take_spec {hp' : Hp} {tp : List Int} {k m : Int} {a : Addr} (hh : Has hp a (.list [.int k])) (w : Swap hp a (.list [.int (k + 1)]) hp') (hk : 0 ≤ k) (hk2 : k < 1000000) (hm : 0 < m) (ht : 0 < tp.length) (ht2 : tp.length ≤ 40) :
    CallT false D 1 (.ref 227) [.list (tp.map .int), .val (.ref a), .int m] hp (fun x hp2 => ∃ v, x = .int v ∧ 0 ≤ v ∧ v < m ∧ hp2 = hp') := by
  refine CallT.enter' 0 ["tape", "at", "m"] ["k"] rfl rfl (by decide) (by decide) rfl (bind3 fun _ _ _ => rfl) rfl rfl ?_
  walk_at "enter"
  have hlen : ((tp.map AV.int).length : Int) = tp.length := by simp
  repeat walk_at "s"
  refine xSub (sub_tlist hh (by decide) (by decide) rfl) ?_
  repeat walk_at "s"
  refine xSetI (setI_list hh (by decide) (by decide) (by simp) w) ?_
  repeat walk_at "s"
  refine CallE_v (len_list (by simp; (clear hk hk2 hm ht hlen; omega))) ?_
  repeat walk_at "s"
  refine xSub (sub_list (z := .int (tp.getD (k % tp.length).toNat 0)) (by rw [hlen]; exact Int.emod_nonneg _ (by clear hk hk2 hm ht2 hlen; omega)) ?_ ?_) ?_
  · rw [hlen]; have := Int.emod_lt_of_pos k (b := tp.length) (by clear hk hk2 hm ht2 hlen; omega); (clear hk hk2 hm ht hlen; omega)
  · rw [hlen]; have := Int.emod_lt_of_pos k (b := tp.length) (by clear hk hk2 hm ht2 hlen; omega); have := Int.emod_nonneg k (b := tp.length) (by clear hk hk2 hm ht2 hlen this; omega)
    rw [List.getElem?_map, List.getD_eq_getElem?_getD]
    have hlt : (k % (tp.length : Int)).toNat < tp.length := by (clear hk hk2 hm ht ht2 hlen; omega)
    rw [List.getElem?_eq_getElem hlt]; rfl
  repeat walk_at "s"
  refine CallE_v (len_list (by simp; (clear hk hk2 hm ht hlen; omega))) ?_
  repeat walk_at "s"
  exact ⟨Int.emod_nonneg _ (by clear hk hk2 ht ht2 hlen; omega), Int.emod_lt_of_pos _ hm, rfl⟩

/-! octets -/
noncomputable def oct (b : List UInt8) (i : Nat) : Int := (b.getD i 0).toNat
theorem oct_range (b : List UInt8) (i : Nat) : 0 ≤ oct b i ∧ oct b i < 256 := by
  unfold oct
  have := (b.getD i 0).toNat_lt
  omega
noncomputable def read32 (d : List UInt8) (i : Nat) : Int := oct d i + oct d (i + 1) * 256 + oct d (i + 2) * 65536 + oct d (i + 3) * 16777216
theorem shl_oct (b : List UInt8) (i k : Nat) (h : k ≤ 24) : oct b i * 2 ^ (Int.toNat (k : Int)) = oct b i * 2 ^ k := by simp
theorem read_spec {d : List UInt8} {i : Int} (h0 : 0 ≤ i) (h1 : i + 4 ≤ d.length) (h2 : d.length ≤ 16777216) : CallV false D 1 (.ref 101) [.bytes d, .int i] hp (.int (read32 d i.toNat)) := by
  refine CallT.enter' 0 ["data", "at"] [] rfl rfl (by decide) (by decide) rfl (bind2 fun _ _ => rfl) rfl rfl ?_
  walk_at "enter"
  have o0 := oct_range d i.toNat
  have o1 := oct_range d (i.toNat + 1)
  have o2 := oct_range d (i.toNat + 2)
  have o3 := oct_range d (i.toNat + 3)
  have e1 : (i + 1).toNat = i.toNat + 1 := by (clear h1 h2 o0 o1 o2 o3; omega)
  have e2 : (i + 2).toNat = i.toNat + 2 := by (clear h0 h1 h2 o0 o1 o2 o3; omega)
  have e3 : (i + 3).toNat = i.toNat + 3 := by (clear h0 h1 h2 o0 o1 o2 o3 e1; omega)
  repeat walk_at "s"
  refine bin_shl (by decide) (by decide) (by have := (d.getD (i + 1).toNat 0).toNat_lt; (clear h0 h1 h2 o0 o1 o2 o3 e1 e2 e3; omega)) ?_
  rw [e1]
  refine bin_orAdd 8 (oct d (i.toNat + 1)) o0.1 o0.2 o1.1 rfl ?_
  repeat walk_at "s"
  refine bin_shl (by decide) (by decide) (by have := (d.getD (i + 2).toNat 0).toNat_lt; (clear h0 h1 h2 o0 o1 o2 o3 e1 e2 e3; omega)) ?_
  rw [e2]
  refine bin_orAdd 16 (oct d (i.toNat + 2)) (by unfold oct at *; (clear h0 h1 h2 o0 o1 o2 o3 e1 e2 e3; omega)) (by unfold oct at *; (clear h0 h1 h2 o2 o3 e1 e2 e3; omega)) o2.1 rfl ?_
  repeat walk_at "s"
  refine bin_shl (by decide) (by decide) (by have := (d.getD (i + 3).toNat 0).toNat_lt; (clear h0 h1 h2 o0 o1 o2 o3 e1 e2 e3; omega)) ?_
  rw [e3]
  refine bin_orAdd 24 (oct d (i.toNat + 3)) (by unfold oct at *; (clear h0 h1 h2 o0 o1 o2 o3 e1 e2 e3; omega)) (by unfold oct at *; (clear h0 h1 h2 o3 e1 e2 e3; omega)) o3.1 rfl ?_
  try dsimp only
  exact ⟨rfl, rfl⟩
theorem put_spec {i : Int} (h0 : 0 ≤ i) (h1 : i ≤ 4294967295) : CallV false D 1 (.ref 94) [.int i] hp (.bytes (toB [i % 256, i / 256 % 256, i / 65536 % 256, i / 16777216])) := by
  refine CallT.enter' 0 ["n"] [] rfl rfl (by decide) (by decide) rfl (bind1 fun _ => rfl) rfl rfl ?_
  walk_at "enter"
  repeat walk_at "s"
  refine EV_List ?_
  repeat walk_at "s"
  refine bin_mask 8 (by with_reducible assumption) (by decide) ?_
  repeat walk_at "s"
  refine bin_mask 8 (by have : (0:Int) ≤ i / 2 ^ Int.toNat 8 := Int.ediv_nonneg h0 (by decide); exact this) (by decide) ?_
  repeat walk_at "s"
  refine bin_mask 8 (by have : (0:Int) ≤ i / 2 ^ Int.toNat 16 := Int.ediv_nonneg h0 (by decide); exact this) (by decide) ?_
  repeat walk_at "s"
  refine ⟨by simp, ?_⟩
  repeat walk_at "s"
  refine CallE_v (bytes_ints (ns := [i % 256, i / 256 % 256, i / 65536 % 256, i / 16777216]) (fun j hj => ?_) (by simp)) ?_
  · simp only [List.mem_cons, List.not_mem_nil, or_false] at hj
    omega
  · exact ⟨rfl, rfl⟩

/-! the hash -/
noncomputable def MUL : Int := 3332679571
noncomputable def num (l : List UInt8) : Int := match l with
  | [] => 0
  | a :: r => a.toNat + 256 * num r
noncomputable def step (sh : Int) (h x : Int) : Int := let h' := (h + x) * 3332679571 % 4294967296; Builtin.bitXor h' (h' / sh)
noncomputable def hashL (h : Int) : List UInt8 → Int
  | a :: b :: c :: d :: r => hashL (step 65536 h (num [a, b, c, d])) r
  | [] => h
  | l => step 16777216 h (num l)
noncomputable def hash (d : List UInt8) : Int := hashL (Builtin.bitXor 3164544308 (d.length * 3332679571 % 4294967296)) d
theorem drop_oct {d : List UInt8} {i : Nat} (h : i < d.length) : ∃ x : UInt8, d.drop i = x :: d.drop (i + 1) ∧ (x.toNat : Int) = oct d i := by
  refine ⟨d[i], List.drop_eq_getElem_cons h, ?_⟩
  unfold oct
  rw [List.getD_eq_getElem?_getD, List.getElem?_eq_getElem h]; rfl
theorem hash_four {d : List UInt8} {i : Nat} {h : Int} (hi : i + 4 ≤ d.length) : hashL h (d.drop i) = hashL (step 65536 h (read32 d i)) (d.drop (i + 4)) := by
  obtain ⟨a, ea, va⟩ := drop_oct (d := d) (i := i) (by omega)
  obtain ⟨b, eb, vb⟩ := drop_oct (d := d) (i := i + 1) (by clear va; omega)
  obtain ⟨c, ec, vc⟩ := drop_oct (d := d) (i := i + 1 + 1) (by clear va vb; omega)
  obtain ⟨e, ee, ve⟩ := drop_oct (d := d) (i := i + 1 + 1 + 1) (by clear va vb vc; omega)
  rw [ea, eb, ec, ee]
  show hashL (step 65536 h (num [a, b, c, e])) _ = _
  have : num [a, b, c, e] = read32 d i := by
    simp only [num, read32]
    rw [va, vb, vc, ve, show i + 1 + 1 = i + 2 from rfl, show i + 1 + 1 + 1 = i + 3 from rfl]
    (clear hi va vb vc ve; omega)
  rw [this]
theorem hash_none {d : List UInt8} {i : Nat} {h : Int} (hi : i = d.length) : hashL h (d.drop i) = h := by
  rw [List.drop_of_length_le (by omega)]; rfl
theorem hash_one {d : List UInt8} {i : Nat} {h : Int} (hi : i + 1 = d.length) : hashL h (d.drop i) = step 16777216 h (oct d i) := by
  obtain ⟨a, ea, va⟩ := drop_oct (d := d) (i := i) (by omega)
  rw [ea, List.drop_of_length_le (by (clear va; omega) : d.length ≤ i + 1)]
  show step 16777216 h (num [a]) = _
  simp only [num]; rw [va]; congr 1
theorem hash_two {d : List UInt8} {i : Nat} {h : Int} (hi : i + 2 = d.length) : hashL h (d.drop i) = step 16777216 h (oct d i + 256 * oct d (i + 1)) := by
  obtain ⟨a, ea, va⟩ := drop_oct (d := d) (i := i) (by omega)
  obtain ⟨b, eb, vb⟩ := drop_oct (d := d) (i := i + 1) (by clear va; omega)
  rw [ea, eb, List.drop_of_length_le (by (clear va vb; omega) : d.length ≤ i + 1 + 1)]
  show step 16777216 h (num [a, b]) = _
  simp only [num]; rw [va, vb]; congr 1
theorem hash_three {d : List UInt8} {i : Nat} {h : Int} (hi : i + 3 = d.length) : hashL h (d.drop i) = step 16777216 h (oct d i + 256 * oct d (i + 1) + 65536 * oct d (i + 2)) := by
  obtain ⟨a, ea, va⟩ := drop_oct (d := d) (i := i) (by omega)
  obtain ⟨b, eb, vb⟩ := drop_oct (d := d) (i := i + 1) (by clear va; omega)
  obtain ⟨c, ec, vc⟩ := drop_oct (d := d) (i := i + 1 + 1) (by clear va vb; omega)
  rw [ea, eb, ec, List.drop_of_length_le (by (clear va vb vc; omega) : d.length ≤ i + 1 + 1 + 1)]
  show step 16777216 h (num [a, b, c]) = _
  simp only [num]; rw [va, vb, vc, show i + 1 + 1 = i + 2 from rfl]; congr 1; (clear hi va vb vc; omega)
theorem step_range (sh : Int) (hs : 1 ≤ sh) (h x : Int) : 0 ≤ step sh h x ∧ step sh h x < 4294967296 := by
  unfold step
  have h1 := Int.emod_nonneg ((h + x) * 3332679571) (b := 4294967296) (by decide)
  have h2 := Int.emod_lt_of_pos ((h + x) * 3332679571) (b := 4294967296) (by decide)
  have h3 : 0 ≤ (h + x) * 3332679571 % 4294967296 / sh := Int.ediv_nonneg h1 (by clear h1 h2; omega)
  have h4 : (h + x) * 3332679571 % 4294967296 / sh ≤ (h + x) * 3332679571 % 4294967296 := Int.ediv_le_self _ h1
  exact bitXor_range (k := 32) h1 h3 h2 (by clear hs h1 h2 h3; omega)
theorem seed_range (n : Nat) : 0 ≤ Builtin.bitXor 3164544308 (n * 3332679571 % 4294967296) ∧ Builtin.bitXor 3164544308 (n * 3332679571 % 4294967296) < 4294967296 :=
  bitXor_range (k := 32) (by decide) (Int.emod_nonneg _ (by decide)) (by decide) (Int.emod_lt_of_pos _ (by decide))
theorem read32_range (d : List UInt8) (i : Nat) : 0 ≤ read32 d i ∧ read32 d i < 4294967296 := by
  have o0 := oct_range d i
  have o1 := oct_range d (i + 1)
  have o2 := oct_range d (i + 2)
  have o3 := oct_range d (i + 3)
  unfold read32
  omega
theorem hashL_range : ∀ (l : List UInt8) (h : Int), 0 ≤ h → h < 4294967296 → 0 ≤ hashL h l ∧ hashL h l < 4294967296
  | [], _, h0, h1 => ⟨h0, h1⟩
  | [_], _, _, _ => step_range _ (by decide) _ _
  | [_, _], _, _, _ => step_range _ (by decide) _ _
  | [_, _, _], _, _, _ => step_range _ (by decide) _ _
  | a :: b :: c :: d :: r, h, _, _ => hashL_range r _ (step_range _ (by decide) _ _).1 (step_range _ (by decide) _ _).2
theorem hash_range (d : List UInt8) : 0 ≤ hash d ∧ hash d < 4294967296 := hashL_range d _ (seed_range _).1 (seed_range _).2

theorem hash_spec {d : List UInt8} (h2 : d.length ≤ 1000000) : CallV false D 2 (.ref 108) [.bytes d] hp (.int (hash d)) := by
  refine CallT.enter' 1 ["data"] ["size", "h", "at", "rest"] rfl rfl (by decide) (by decide) rfl (bind1 fun _ => rfl) rfl rfl ?_
  walk_at "enter"
  repeat walk_at "s"
  refine bin_mask 32 (by clear h2; omega) (by decide) ?_
  repeat walk_at "s"
  refine SV1_while (fun m st => ∃ (k : Nat) (h : Int), m = d.length - 4 * k ∧ st = ⟨[("data", some (.bytes d)), ("size", some (.int d.length)), ("h", some (.int h)), ("at", some (.int ((4 * k : Nat) : Int))), ("rest", none)], hp⟩ ∧ 4 * k ≤ d.length ∧ 0 ≤ h ∧ h < 4294967296 ∧ hashL h (d.drop (4 * k)) = hash d)
    d.length ⟨0, _, rfl, rfl, by (clear h2; omega), (seed_range _).1, (seed_range _).2, rfl⟩ ?_
  rintro m st ⟨k, h, rfl, rfl, hk, h0, h1, hh⟩
  repeat walk_at "s"
  refine dsplit (fun hlt => ?_) fun hlt => ?_
  · repeat walk_at "s"
    refine CallE_w (read_spec (by clear h2 hk h0 h1 hh hlt; omega) (by with_reducible assumption) (by clear hk h0 h1 hh hlt; omega)) ?_
    have rr := read32_range d (4 * k)
    rw [Int.toNat_natCast]
    repeat walk_at "s"
    refine bin_mask 32 (by clear h2 hk h1 hh hlt; omega) (by decide) ?_
    repeat walk_at "s"
    have sr := step_range 65536 (by decide) h (read32 d (4 * k))
    refine ⟨d.length - 4 * (k + 1), by (clear h2 hk h0 h1 hh rr sr; omega), k + 1, step 65536 h (read32 d (4 * k)), rfl, ?_, by (clear h2 hk h0 h1 hh rr sr; omega), sr.1, sr.2, ?_⟩
    · congr 1
    · rw [← hh]; exact (hash_four (by clear h2 hk h0 h1 hh rr sr; omega)).symm
  · have e0 : (((4 * k : Nat) : Int)).toNat = 4 * k := by (clear h2 hk h0 h1 hh hlt; omega)
    have e1 : (((4 * k : Nat) : Int) + 1).toNat = 4 * k + 1 := by (clear h2 hk h0 h1 hh hlt e0; omega)
    have e2 : (((4 * k : Nat) : Int) + 2).toNat = 4 * k + 2 := by (clear h2 hk h0 h1 hh hlt e0 e1; omega)
    have o0 := oct_range d (4 * k)
    have o1 := oct_range d (4 * k + 1)
    have o2 := oct_range d (4 * k + 2)
    have q0 := (d.getD (4 * k) 0).toNat_lt
    have q1 := (d.getD (4 * k + 1) 0).toNat_lt
    have q2 := (d.getD (4 * k + 2) 0).toNat_lt
    have hr : d.length = 4 * k ∨ d.length = 4 * k + 1 ∨ d.length = 4 * k + 2 ∨ d.length = 4 * k + 3 := by (clear h2 h0 h1 hh e0 e1 e2 o0 o1 o2 q0 q1 q2; omega)
    repeat walk_at "s"
    rcases hr with hr | hr | hr | hr
    · repeat walk_at "s"
      exact ⟨by rw [← hh, hash_none hr.symm], rfl⟩
    · repeat walk_at "s"
      rw [e0]
      refine bin_mask 32 (by clear h2 hk h1 hh hlt e0 e1 e2 o0 o1 o2 q0 q1 q2 hr; omega) (by decide) ?_
      repeat walk_at "s"
      refine ⟨?_, rfl⟩
      rw [← hh, hash_one hr.symm]
      rfl
    · repeat walk_at "s"
      rw [e1]
      refine bin_shl (by decide) (by decide) (by clear h2 hk h0 h1 hh hlt e0 e1 e2 o0 o1 o2 q0 q2 hr; omega) ?_
      repeat walk_at "s"
      rw [e0]
      refine bin_mask 32 (by show (0:Int) ≤ (h + oct d (4 * k + 1) * 256 + oct d (4 * k)) * 3332679571; (clear h2 hk h1 hh hlt e0 e1 e2 o2 q0 q1 q2 hr; omega)) (by decide) ?_
      repeat walk_at "s"
      refine ⟨?_, rfl⟩
      rw [← hh, hash_two hr.symm]
      have : (h + (oct d (4 * k) + 256 * oct d (4 * k + 1))) = (h + oct d (4 * k + 1) * 2 ^ Int.toNat 8 + oct d (4 * k)) := by
        show _ = h + oct d (4 * k + 1) * 256 + oct d (4 * k)
        (clear h2 hk h0 h1 hh hlt e0 e1 e2 o0 o1 o2 q0 q1 q2 hr; omega)
      unfold step
      rw [this]
      rfl
    · repeat walk_at "s"
      rw [e2]
      refine bin_shl (by decide) (by decide) (by clear h2 hk h0 h1 hh hlt e0 e1 e2 o0 o1 o2 q0 q1 hr; omega) ?_
      repeat walk_at "s"
      rw [e1]
      refine bin_shl (by decide) (by decide) (by clear h2 hk h0 h1 hh hlt e0 e1 e2 o0 o1 o2 q0 q2 hr; omega) ?_
      repeat walk_at "s"
      rw [e0]
      refine bin_mask 32 (by show (0:Int) ≤ (h + oct d (4 * k + 2) * 65536 + oct d (4 * k + 1) * 256 + oct d (4 * k)) * 3332679571; (clear h2 hk h1 hh hlt e0 e1 e2 q0 q1 q2 hr; omega)) (by decide) ?_
      repeat walk_at "s"
      refine ⟨?_, rfl⟩
      rw [← hh, hash_three hr.symm]
      have : (h + (oct d (4 * k) + 256 * oct d (4 * k + 1) + 65536 * oct d (4 * k + 2))) = (h + oct d (4 * k + 2) * 2 ^ Int.toNat 16 + oct d (4 * k + 1) * 2 ^ Int.toNat 8 + oct d (4 * k)) := by
        show _ = h + oct d (4 * k + 2) * 65536 + oct d (4 * k + 1) * 256 + oct d (4 * k)
        (clear h2 hk h0 h1 hh hlt e0 e1 e2 o0 o1 o2 q0 q1 q2 hr; omega)
      unfold step
      rw [this]
      rfl


/-! comprehensions whose elements change nothing -/
theorem EV_map {c : FC} {st : St} {scope : Scope} {x : Str} {px : Pos} {iter elt : Expr} {pos : Pos} (fr : List Str) {P : AV → St → Prop}
    (h : EV D c st iter (fun v st1 => ∃ xs, Iter v xs ∧ xs.length ≤ 16777216 ∧ ∃ fl, Capt st1.loc fr fl ∧ ∃ F : Nat → AV,
      (∀ i y, xs[i]? = some y → EV D (cFC c scope x fr) ⟨(x, some y) :: fl, st1.hp⟩ elt (fun z st2 => z = F i ∧ st2 = ⟨(x, some y) :: fl, st1.hp⟩)) ∧ P (.list ((List.range xs.length).map F)) st1))
    (ok : compOk c scope x fr = true) (hxf : x ∉ fr) (hv : ∀ n ∈ fr, n ∈ c.vars) (hcl : c.cl = false) (hn : c.hn = true) (hs : ∀ env x, foldedSetIterable iter env x = pure x := by intro _ _; rfl) :
    EV D c st (.ListComp elt [⟨.Name x px, iter, [], 0⟩] scope pos) P := by
  refine EV_Comp fr ?_ ok hxf hv hcl hn hs
  intro g A Z s R Q E k
  refine h g A Z s R Q E fun v Z' st' s' x1 hP => k v Z' st' s' x1 ?_
  obtain ⟨w, rw', xs, hi, hz, fl, cap, F, hF, hp⟩ := hP
  refine ⟨w, rw', xs, hi, hz, fl, cap, fun i acc hp1 => acc = (List.range i).map F ∧ hp1 = st'.hp, ⟨rfl, rfl⟩, ?_, ?_⟩
  · rintro i y acc hp1 hy ⟨rfl, rfl⟩ g A Z s R Q E k
    refine hF i y hy g A Z s R Q E fun v Z' st2 s' x1 hq => k v Z' st2 s' x1 ?_
    obtain ⟨z, rz, e1, e2⟩ := hq
    subst e1 e2
    exact ⟨_, rz, rfl, by rw [List.range_succ, List.map_append]; rfl, rfl⟩
  · rintro acc hp1 _ ⟨rfl, rfl⟩
    exact hp
theorem rng_get {n i : Nat} {y : AV} (h : (rngInts 0 1 n)[i]? = some y) : i < n ∧ y = .int i := by
  unfold rngInts at h
  rw [List.getElem?_map] at h
  obtain ⟨j, h1, h2⟩ := Option.map_eq_some_iff.mp h
  obtain ⟨h3, h4⟩ := List.getElem?_eq_some_iff.mp h1
  rw [List.getElem_range] at h4
  subst h2 h4
  exact ⟨by simpa using h3, by simp⟩
theorem capt1 {loc : Loc} {a : Str} {x : AV} (h : Look loc a x) : Capt loc [a] [(a, some x)] := .cons h .nil
theorem capt2 {loc : Loc} {a b : Str} {x y : AV} (h : Look loc a x) (h2 : Look loc b y) : Capt loc [a, b] [(a, some x), (b, some y)] := .cons h (.cons h2 .nil)
theorem capt3 {loc : Loc} {a b c : Str} {x y z : AV} (h : Look loc a x) (h2 : Look loc b y) (h3 : Look loc c z) : Capt loc [a, b, c] [(a, some x), (b, some y), (c, some z)] := .cons h (.cons h2 (.cons h3 .nil))
theorem rng_len {a c : Int} {n : Nat} : (rngInts a c n).length = n := by simp [rngInts]

/-! _law_fix and _law_num -/
noncomputable def fixL (n : Int) : List UInt8 := toB ((List.range 4).map fun (i : Nat) => n / 256 ^ i % 256)
theorem pow_le {i : Nat} (h : i < 4) : (0 : Int) < 256 ^ i ∧ (256 : Int) ^ i < 2 ^ 30 := by
  match i, h with
  | 0, _ => decide
  | 1, _ => decide
  | 2, _ => decide
  | 3, _ => decide
theorem fix_spec {n : Int} (h0 : 0 ≤ n) : CallV false D 1 (.ref 237) [.int n] hp (.bytes (fixL n)) := by
  refine CallT.enter' 0 ["n"] [] rfl rfl (by decide) (by decide) rfl (bind1 fun _ => rfl) rfl rfl ?_
  walk_at "enter"
  repeat walk_at "s"
  refine EV_map ["n"] ?_ (by kernel_rfl) (by decide) (by decide) rfl rfl
  repeat walk_at "s"
  refine ⟨_, iter_range (by decide) (by decide), by simp [rng_len], _, capt1 (by walk_at "lk"), fun i => .int (n / 256 ^ i % 256), ?_, ?_⟩
  · intro i y hy
    obtain ⟨hi, rfl⟩ := rng_get hy
    have hi' : i < 4 := hi
    have pp := pow_le hi'
    repeat walk_at "s"
    refine bin_pow (by clear h0 hi hi' pp; omega) (by clear h0 hi pp; omega) (by decide) ?_
    rw [Int.toNat_natCast]
    repeat walk_at "s"
    exact ⟨rfl, rfl⟩
  repeat walk_at "s"
  refine CallE_v (z := .bytes (fixL n)) ?_ ?_
  · have := bytes_ints (D := D) (cl := false) (n := 0) (hp := hp) (ns := (List.range 4).map fun (i : Nat) => n / 256 ^ i % 256) (fun j hj => ?_) (by simp)
    · rw [List.map_map] at this
      exact this
    · obtain ⟨i, _, rfl⟩ := List.mem_map.mp hj
      exact ⟨Int.emod_nonneg _ (by decide), Int.emod_lt_of_pos _ (by decide)⟩
  · exact ⟨rfl, rfl⟩
theorem sum_num : ∀ (d : List UInt8) , ((List.range d.length).map fun i => oct d i * (256 : Int) ^ i).sum = num d
  | [] => rfl
  | a :: r => by
    rw [List.length_cons, List.range_succ_eq_map, List.map_cons, List.map_map, List.sum_cons]
    show _ + _ = (a.toNat : Int) + 256 * num r
    rw [← sum_num r]
    have e : (fun i => oct (a :: r) i * (256 : Int) ^ i) ∘ Nat.succ = fun i => 256 * (oct r i * 256 ^ i) := by
      funext i
      show oct (a :: r) (i + 1) * 256 ^ (i + 1) = _
      have : oct (a :: r) (i + 1) = oct r i := rfl
      rw [this, Int.pow_succ]
      generalize oct r i = x
      generalize (256 : Int) ^ i = y
      rw [Int.mul_comm y 256, Int.mul_left_comm]
    rw [e]
    have : ∀ (l : List Nat) (f : Nat → Int), (l.map fun i => 256 * f i).sum = 256 * (l.map f).sum := by
      intro l f
      induction l with
      | nil => rfl
      | cons b t ih => simp only [List.map_cons, List.sum_cons, ih, Int.mul_add]
    rw [this]
    have : oct (a :: r) 0 * (256 : Int) ^ 0 = a.toNat := by show (a.toNat : Int) * 1 = _; omega
    rw [this]
theorem num_spec {d : List UInt8} (h : d.length ≤ 1000000) : CallV false D 1 (.ref 242) [.bytes d] hp (.int (num d)) := by
  refine CallT.enter' 0 ["part"] [] rfl rfl (by decide) (by decide) rfl (bind1 fun _ => rfl) rfl rfl ?_
  walk_at "enter"
  repeat walk_at "s"
  refine EV_map ["part"] ?_ (by kernel_rfl) (by decide) (by decide) rfl rfl
  repeat walk_at "s"
  refine ⟨_, iter_range (by omega) (by clear h; omega), by rw [rng_len]; omega, _, capt1 (by walk_at "lk"), fun i => .int (oct d i * 256 ^ i), ?_, ?_⟩
  · intro i y hy
    obtain ⟨hi, rfl⟩ := rng_get hy
    have hi' : i < d.length := by (clear h; omega)
    have oo := oct_range d i
    repeat walk_at "s"
    refine bin_pow (by clear h hi hi' oo; omega) (by clear hi' oo; omega) (by decide) ?_
    rw [Int.toNat_natCast]
    refine bin_mul (.inl (by unfold oct at oo; (clear h hi hi'; omega))) ?_
    exact ⟨rfl, rfl⟩
  rw [rng_len, Int.toNat_natCast]
  repeat walk_at "s"
  refine CallE_v (z := .int (num d)) ?_ ?_
  · have := sum_ints (D := D) (cl := false) (n := 0) (hp := hp) (ns := (List.range d.length).map fun (i : Nat) => oct d i * 256 ^ i)
    rw [sum_num, List.map_map] at this
    exact this
  · exact ⟨rfl, rfl⟩


/-! _law_word -/
noncomputable def pick (j : Int) : Int := [0, 97, 98, 127, 128, 255].getD j.toNat 0
theorem pick_at {j : Int} (h0 : 0 ≤ j) (h1 : j < 6) : ([0, 97, 98, 127, 128, 255].map AV.int)[j.toNat]? = some (.int (pick j)) ∧ 0 ≤ pick j ∧ pick j < 256 := by
  obtain ⟨n, rfl⟩ := Int.eq_ofNat_of_zero_le h0
  have : n = 0 ∨ n = 1 ∨ n = 2 ∨ n = 3 ∨ n = 4 ∨ n = 5 := by (clear h0; omega)
  rcases this with rfl | rfl | rfl | rfl | rfl | rfl <;> exact ⟨rfl, by decide, by decide⟩
theorem six (k : Nat) (h : k ≤ 5) : (0 : Int) < 6 ^ k ∧ (6 : Int) ^ k ≤ 7776 ∧ (6 : Int) ^ k * 6 = 6 ^ (k + 1) := by
  have : k = 0 ∨ k = 1 ∨ k = 2 ∨ k = 3 ∨ k = 4 ∨ k = 5 := by omega
  rcases this with rfl | rfl | rfl | rfl | rfl | rfl <;> decide
theorem word_spec {u : Int} (h0 : 0 ≤ u) (h1 : u < 9331) : CallT false D 1 (.ref 232) [.int u] hp (fun x hp2 => ∃ b, x = .bytes b ∧ b.length ≤ 5 ∧ hp2 = hp) := by
  refine CallT.enter' 0 ["u"] ["size"] rfl rfl (by decide) (by decide) rfl (bind1 fun _ => rfl) rfl rfl ?_
  walk_at "enter"
  repeat walk_at "s"
  refine SV1_while (fun m st => ∃ (k : Nat) (u : Int), m = 5 - k ∧ st = ⟨[("u", some (.int u)), ("size", some (.int k))], hp⟩ ∧ k ≤ 5 ∧ 0 ≤ u ∧ 5 * u + 6 ^ k ≤ 46655) 5 ⟨0, u, rfl, rfl, by (clear h0 h1; omega), h0, by (clear h0; omega)⟩ ?_
  rintro m st ⟨k, u, rfl, rfl, hk, hu, hh⟩
  have sk := six k hk
  repeat walk_at "s"
  refine bin_pow (by clear h0 h1 hk hu hh sk; omega) (by clear h0 h1 hu hh sk; omega) (by decide) ?_
  rw [Int.toNat_natCast]
  repeat walk_at "s"
  refine dsplit (fun hlt => ?_) fun hlt => ?_
  · have hk5 : k < 5 := by
      rcases Nat.lt_or_eq_of_le hk with q | q
      · exact q
      · subst q; have e : (6 : Int) ^ 5 = 7776 := rfl; (clear h0 h1 hu hk sk e; omega)
    repeat walk_at "s"
    refine bin_pow (by clear h0 h1 hk hu hh sk hlt hk5; omega) (by clear h0 h1 hk hu hh sk hlt; omega) (by decide) ?_
    rw [Int.toNat_natCast]
    repeat walk_at "s"
    exact ⟨5 - (k + 1), by (clear h0 h1 hk hu hh sk hlt; omega), k + 1, u - 6 ^ k, rfl, rfl, by (clear h0 h1 hk hu hh sk hlt; omega), by (clear h0 h1 hk hu hh sk hk5; omega), by (clear h0 h1 hk hu sk hlt hk5; omega)⟩
  · repeat walk_at "s"
    refine EV_map ["u"] ?_ (by kernel_rfl) (by decide) (by decide) rfl rfl
    repeat walk_at "s"
    refine ⟨_, iter_range (by clear h0 h1 hu hh sk hlt; omega) (by clear h0 h1 hk hu hh sk hlt; omega), by rw [rng_len]; (clear h0 h1 hu hh sk hlt; omega), _, capt1 (by walk_at "lk"), fun i => .int (pick (u / 6 ^ i % 6)), ?_, ?_⟩
    · intro i y hy
      obtain ⟨hi, rfl⟩ := rng_get hy
      have hi' : i ≤ 5 := by (clear h0 h1 hu hh sk hlt; omega)
      have si := six i hi'
      repeat walk_at "s"
      refine ⟨by decide, ?_⟩
      repeat walk_at "s"
      refine bin_pow (by clear h0 h1 hk hu hh sk hlt hi hi' si; omega) (by clear h0 h1 hk hu hh sk hlt hi si; omega) (by decide) ?_
      rw [Int.toNat_natCast]
      repeat walk_at "s"
      have m0 := Int.emod_nonneg (u / 6 ^ i) (b := 6) (by decide)
      have m1 := Int.emod_lt_of_pos (u / 6 ^ i) (b := 6) (by decide)
      refine xSub (sub_tup m0 (by clear h0 h1 hk hu hh sk hlt hi hi' si m0 m1; omega) (pick_at m0 m1).1) ?_
      exact ⟨rfl, rfl⟩
    rw [rng_len, Int.toNat_natCast]
    repeat walk_at "s"
    have := bytes_ints (D := D) (cl := false) (n := 0) (hp := hp) (ns := (List.range k).map fun (i : Nat) => pick (u / 6 ^ i % 6)) (fun j hj => ?_) (by simp; (clear h0 h1 hu hh sk hlt; omega))
    · rw [List.map_map] at this
      refine CallE_v this ?_
      exact ⟨_, rfl, by simp [toB]; with_reducible assumption, rfl⟩
    · obtain ⟨i, _, rfl⟩ := List.mem_map.mp hj
      exact (pick_at (Int.emod_nonneg _ (by decide)) (Int.emod_lt_of_pos _ (by decide))).2

/-! _law_lamps -/
noncomputable def rot (h : Int) : Int := h / 131072 + h % 131072 * 32768
noncomputable def lamp (h wide : Int) (i : Nat) : Int := (h + i * rot h) % 4294967296 % wide
noncomputable def lamps (key : List UInt8) (probes : Nat) (wide : Int) : List Int := (List.range probes).map fun i => lamp (hash key) wide i
theorem hash_step {h : Int} : ∀ {l : List UInt8}, l ≠ [] → hashL h l = hashL (step (if (l.take 4).length = 4 then 65536 else 16777216) h (num (l.take 4))) (l.drop 4)
  | [], e => absurd rfl e
  | [a], _ => rfl
  | [a, b], _ => rfl
  | [a, b, c], _ => rfl
  | a :: b :: c :: d :: r, _ => rfl
theorem rng4 {n : Int} (h0 : 0 ≤ n) (h1 : n ≤ 1000000) : Iter (.rng 0 n 4) (rngInts 0 4 ((n + 3) / 4).toNat) := by
  refine Iter.rng ?_ ?_
  · unfold Builtin.Range.small Builtin.Range.rangeSize
    simp only [Builtin.Range.rangeFitsLong, Bool.and_eq_true, Bool.or_eq_true, decide_eq_true_eq, beq_iff_eq, show ((4 : Int) > 0) by decide, if_true]
    split <;> (rename_i zq1; clear zq1; omega)
  · unfold Builtin.Range.rangeSize
    split <;> simp <;> omega
theorem rng4_get {n i : Nat} {y : AV} (h : (rngInts 0 4 n)[i]? = some y) : i < n ∧ y = .int ((4 * i : Nat) : Int) := by
  unfold rngInts at h
  rw [List.getElem?_map] at h
  obtain ⟨j, h1, h2⟩ := Option.map_eq_some_iff.mp h
  obtain ⟨h3, h4⟩ := List.getElem?_eq_some_iff.mp h1
  rw [List.getElem_range] at h4
  subst h2 h4
  refine ⟨by simpa using h3, ?_⟩
  congr 1; (clear h3; omega)
theorem cut_of {α : Type} {d : List α} {i : Nat} (n : Nat) {m : Int} (hm : m = n) (h : i ≤ d.length) : cut d (some (i : Int)) (some ((i : Int) + m)) = (d.drop i).take n := by
  subst hm
  unfold cut
  simp only [Option.elim]
  have e1 : clipAt d.length (i : Int) = i := by
    have := clipAt_cast d.length (i : Int)
    rw [if_neg (by clear h this; omega)] at this
    omega
  have e2 : clipAt d.length ((i : Int) + (n : Int)) = min (i + n) d.length := by
    have := clipAt_cast d.length ((i : Int) + (n : Int))
    rw [if_neg (by clear h e1 this; omega)] at this
    (clear h e1; omega)
  rw [e1, e2]
  rcases Nat.le_total (i + n) d.length with q | q
  · rw [Nat.min_eq_left q]; congr 1; (clear h e1 e2 q; omega)
  · rw [Nat.min_eq_right q, List.take_of_length_le (by simp), List.take_of_length_le (by simp; (clear h e1 e2; omega))]
theorem lamps_spec {key : List UInt8} {probes wide : Int} (hk : key.length ≤ 1000000) (p0 : 0 ≤ probes) (p1 : probes ≤ 1000000) (hw : 0 < wide) :
    CallV false D 2 (.ref 247) [.bytes key, .int probes, .int wide] hp (.list ((lamps key probes.toNat wide).map .int)) := by
  refine CallT.enter' 1 ["key", "probes", "wide"] ["h", "at", "part", "turned"] rfl rfl (by decide) (by decide) rfl (bind3 fun _ _ _ => rfl) rfl rfl ?_
  walk_at "enter"
  repeat walk_at "s"
  refine SV1_for ?_
  repeat walk_at "s"
  refine CallE_v (range_3 (by decide) (by decide)) ?_
  have hs := seed_range key.length
  refine ⟨_, rng4 (by clear hk p0 p1 hw hs; omega) (by clear p0 p1 hw hs; omega), fun i st => ∃ (h : Int) (oat opart : Option AV), st = ⟨[("key", some (.bytes key)), ("probes", some (.int probes)), ("wide", some (.int wide)), ("h", some (.int h)), ("at", oat), ("part", opart), ("turned", none)], hp⟩ ∧ 0 ≤ h ∧ h < 4294967296 ∧ hashL h (key.drop (4 * i)) = hash key, ⟨_, _, _, rfl, hs.1, hs.2, rfl⟩, ?_, ?_⟩
  · rintro i y st2 hy ⟨h, oat, opart, rfl, h0, h1, hh⟩
    obtain ⟨hi, rfl⟩ := rng4_get hy
    have hi4 : 4 * i < key.length := by (clear hk p0 p1 hw hs h0 h1 hh; omega)
    repeat walk_at "s"
    refine xSl (sl_bytes (by clear p0 p1 hw hs h0 h1 hh hi hi4; omega)) ?_
    rw [cut_of 4 (m := 4) rfl (by clear hk p0 p1 hw hs h0 h1 hh hi; omega)]
    repeat walk_at "s"
    refine CallE_w (num_spec (by simp; (clear hk p0 p1 hw hs h0 h1 hh hi hi4; omega))) ?_
    repeat walk_at "s"
    have len4 : ((key.drop (4 * i)).take 4).length ≤ 1099511627776 := by simp; (clear hk p0 p1 hw hs h0 h1 hh hi hi4; omega)
    refine CallE_v (len_bytes' len4) ?_
    repeat walk_at "s"
    have hne : key.drop (4 * i) ≠ [] := fun q => by have := congrArg List.length q; simp at this; (clear hk p0 p1 hw hs h0 h1 hh hi len4; omega)
    have hst := hash_step (h := h) hne
    rw [List.drop_drop] at hst
    refine dsplit (fun hlt => ?_) fun hlt => ?_
    · rw [if_pos (by clear hk p0 p1 hw hs h0 h1 hh hi hi4 len4 hne hst; omega)] at hst
      repeat walk_at "s"
      have sr := step_range 65536 (by decide) h (num ((key.drop (4 * i)).take 4))
      refine ⟨step 65536 h (num ((key.drop (4 * i)).take 4)), _, _, rfl, sr.1, sr.2, ?_⟩
      rw [← hh, hst]; rfl
    · rw [if_neg (by clear hk p0 p1 hw hs h0 h1 hh hi hi4 len4 hne hst; omega)] at hst
      repeat walk_at "s"
      have sr := step_range 16777216 (by decide) h (num ((key.drop (4 * i)).take 4))
      refine ⟨step 16777216 h (num ((key.drop (4 * i)).take 4)), _, _, rfl, sr.1, sr.2, ?_⟩
      rw [← hh, hst]; rfl
  · rintro st2 ⟨h, oat, opart, rfl, h0, h1, hh⟩
    rw [rng_len, List.drop_of_length_le (by clear hk p0 p1 hw hs h0 h1 hh; omega)] at hh
    obtain rfl : h = hash key := hh
    repeat walk_at "s"
    refine EV_map ["wide", "h", "turned"] ?_ (by kernel_rfl) (by decide) (by decide) rfl rfl
    repeat walk_at "s"
    refine ⟨_, iter_range (by clear hk p0 hw hs h0 h1; omega) (by clear hk p1 hw hs h0 h1; omega), by rw [rng_len]; (clear hk p0 hw hs h0 h1; omega), _, capt3 (by walk_at "lk") (by walk_at "lk") (by walk_at "lk"), fun i => .int (lamp (hash key) wide i), ?_, ?_⟩
    · intro i y hy
      obtain ⟨hi, rfl⟩ := rng_get hy
      repeat walk_at "s"
      exact ⟨rfl, rfl⟩
    · rw [rng_len]
      unfold lamps
      rw [List.map_map]
      exact ⟨rfl, rfl⟩


/-! bits in octets -/
noncomputable def oct8 (b0 b1 b2 b3 b4 b5 b6 b7 : Bool) : Nat := b0.toNat + b1.toNat * 2 + b2.toNat * 4 + b3.toNat * 8 + b4.toNat * 16 + b5.toNat * 32 + b6.toNat * 64 + b7.toNat * 128
noncomputable def octF (f : Nat → Bool) (i : Nat) : Nat := oct8 (f (8 * i)) (f (8 * i + 1)) (f (8 * i + 2)) (f (8 * i + 3)) (f (8 * i + 4)) (f (8 * i + 5)) (f (8 * i + 6)) (f (8 * i + 7))
theorem octF_lt (f : Nat → Bool) (i : Nat) : octF f i < 256 := by
  unfold octF oct8
  have := fun b : Bool => (by cases b <;> decide : b.toNat ≤ 1)
  have := this (f (8 * i)); have := ‹∀ b : Bool, b.toNat ≤ 1› (f (8 * i + 1)); have := ‹∀ b : Bool, b.toNat ≤ 1› (f (8 * i + 2)); have := ‹∀ b : Bool, b.toNat ≤ 1› (f (8 * i + 3))
  have := ‹∀ b : Bool, b.toNat ≤ 1› (f (8 * i + 4)); have := ‹∀ b : Bool, b.toNat ≤ 1› (f (8 * i + 5)); have := ‹∀ b : Bool, b.toNat ≤ 1› (f (8 * i + 6)); have := ‹∀ b : Bool, b.toNat ≤ 1› (f (8 * i + 7))
  omega
noncomputable def filt (f : Nat → Bool) (room probes : Nat) : List UInt8 := (List.range room).map (fun i => (octF f i).toUInt8) ++ [probes.toUInt8]
noncomputable def on (S : List Int) (p : Nat) : Bool := decide ((p : Int) ∈ S)
noncomputable def allLamps (keys : List (List UInt8)) (probes : Nat) (wide : Int) : List Int := keys.flatMap fun k => lamps k probes wide
noncomputable def roomOf (n : Nat) (bits : Int) : Nat := ((max 64 ((n : Int) * bits) + 7) / 8).toNat
noncomputable def probesOf (bits : Int) : Nat := (min 30 (max 1 (bits * 69 / 100))).toNat
noncomputable def oneL (keys : List (List UInt8)) (bits : Int) : List UInt8 := filt (on (allLamps keys (probesOf bits) ((8 * roomOf keys.length bits : Nat) : Int))) (roomOf keys.length bits) (probesOf bits)
noncomputable def bit (b : Bool) : Int := if b then 1 else 0
noncomputable def litL (f : Nat → Bool) (n : Nat) : List AV := (List.range n).map fun p => .int (bit (f p))
theorem lit_none (n : Nat) : List.replicate n (AV.int 0) = litL (on []) n := by
  unfold litL
  refine List.ext_getElem (by simp) fun i h1 h2 => ?_
  simp [bit, on]
theorem lit_set {S : List Int} {n : Nat} {x : Int} (h0 : 0 ≤ x) : (litL (on S) n).set x.toNat (.int 1) = litL (on (S ++ [x])) n := by
  unfold litL
  refine List.ext_getElem (by simp) fun i h1 h2 => ?_
  rw [List.getElem_set]
  simp only [List.getElem_map, List.getElem_range]
  unfold on bit
  split
  · rename_i q
    subst q
    rw [if_pos (by simp; (clear h1 h2; omega))]
  · rename_i q
    congr 2
    simp only [List.mem_append, List.mem_singleton, decide_eq_true_eq]
    refine propext ⟨.inl, fun h => h.elim id fun e => absurd (by clear h0 h1 h2 q h; omega) q⟩
theorem lit_len {f : Nat → Bool} {n : Nat} : (litL f n).length = n := by simp [litL]
theorem lit_at {f : Nat → Bool} {n i : Nat} (h : i < n) : (litL f n)[i]? = some (.int (bit (f i))) := by
  unfold litL
  rw [List.getElem?_map, List.getElem?_range h]; rfl
theorem drop_of_snoc {a : Addr} {o : AO} : ∀ hp : Hp, Drop (hp ++ [(a, o)]) a o hp
  | [] => .head
  | _ :: r => .tail (drop_of_snoc r)
theorem room_range {n : Nat} {bits : Int} (b0 : 0 ≤ bits) (b1 : bits ≤ 1000) (hn : n ≤ 1000) : 8 ≤ roomOf n bits ∧ roomOf n bits ≤ 125001 ∧ ((roomOf n bits : Nat) : Int) = (max 64 ((n : Int) * bits) + 7) / 8 := by
  have h1 : (n : Int) * bits ≤ 1000 * 1000 := Int.mul_le_mul (by clear b0 b1; omega) b1 b0 (by decide)
  have h2 : 0 ≤ (n : Int) * bits := Int.mul_nonneg (by clear b0 b1 hn h1; omega) b0
  unfold roomOf
  generalize (n : Int) * bits = x at *
  (clear b0 b1 hn h2; omega)
theorem probes_range {bits : Int} : 1 ≤ probesOf bits ∧ probesOf bits ≤ 30 ∧ ((probesOf bits : Nat) : Int) = min 30 (max 1 (bits * 69 / 100)) := by
  unfold probesOf; omega
theorem lamps_range {key : List UInt8} {probes : Nat} {wide x : Int} (hw : 0 < wide) (h : x ∈ lamps key probes wide) : 0 ≤ x ∧ x < wide := by
  unfold lamps at h
  obtain ⟨i, _, rfl⟩ := List.mem_map.mp h
  exact ⟨Int.emod_nonneg _ (by omega), Int.emod_lt_of_pos _ hw⟩

theorem sum8 (f : Nat → Bool) (i : Nat) : ((List.range 8).map fun (j : Nat) => bit (f (8 * i + j)) * 2 ^ j).sum = ((octF f i : Nat) : Int) := by
  show (bit (f (8 * i)) * 2 ^ 0 + (bit (f (8 * i + 1)) * 2 ^ 1 + (bit (f (8 * i + 2)) * 2 ^ 2 + (bit (f (8 * i + 3)) * 2 ^ 3 + (bit (f (8 * i + 4)) * 2 ^ 4 + (bit (f (8 * i + 5)) * 2 ^ 5 + (bit (f (8 * i + 6)) * 2 ^ 6 + (bit (f (8 * i + 7)) * 2 ^ 7 + 0)))))))) = _
  unfold octF oct8 bit
  generalize f (8 * i) = b0
  generalize f (8 * i + 1) = b1
  generalize f (8 * i + 2) = b2
  generalize f (8 * i + 3) = b3
  generalize f (8 * i + 4) = b4
  generalize f (8 * i + 5) = b5
  generalize f (8 * i + 6) = b6
  generalize f (8 * i + 7) = b7
  revert b0 b1 b2 b3 b4 b5 b6 b7
  decide +kernel

theorem one_spec {keys : List (List UInt8)} {bits : Int} (hk : ∀ k ∈ keys, k.length ≤ 1000000) (hn : keys.length ≤ 1000) (b0 : 0 ≤ bits) (b1 : bits ≤ 1000) :
    CallV false D 3 (.ref 252) [.list (keys.map .bytes), .int bits] hp (.bytes (oneL keys bits)) := by
  refine CallT.enter' 2 ["keys", "bits"] ["room", "probes", "lit", "key", "lamp"] rfl rfl (by decide) (by decide) rfl (bind2 fun _ _ => rfl) rfl rfl ?_
  walk_at "enter"
  have rr := room_range b0 b1 hn
  have pr := probes_range (bits := bits)
  have hlen : ((keys.map AV.bytes).length : Int) = keys.length := by simp
  repeat walk_at "s"
  refine CallE_v (len_list (by simp; (clear b0 b1 rr pr hlen; omega))) ?_
  rw [hlen]
  repeat walk_at "s"
  rw [← rr.2.2, ← pr.2.2]
  have lenk : keys.length = (keys.map AV.bytes).length := by simp
  generalize hR : roomOf keys.length bits = room at *
  generalize hPr : probesOf bits = pb at *
  refine EV_List ?_
  repeat walk_at "s"
  refine ⟨by decide, ?_⟩
  repeat walk_at "s"
  refine mul_track (by clear hn b0 b1 hlen lenk hR rr hPr pr; omega) (by clear hn b0 b1 hlen lenk hR hPr pr; omega) fun a => ?_
  repeat walk_at "s"
  have e1 : ((room : Int) * 8).toNat = 8 * room := by (clear hn b0 b1 hlen lenk hR rr hPr pr; omega)
  rw [e1, lit_none]
  refine SV1_for ?_
  repeat walk_at "s"
  refine ⟨_, Iter.list, fun i st => ∃ (oa ob : Option AV), st = ⟨[("keys", some (.list (keys.map .bytes))), ("bits", some (.int bits)), ("room", some (.int room)), ("probes", some (.int pb)), ("lit", some (.val (.ref a))), ("key", oa), ("lamp", ob)],
    hp ++ [(a, .list (litL (on (allLamps (keys.take i) pb ((8 * room : Nat) : Int))) (8 * room)))]⟩, ⟨_, _, rfl⟩, ?_, ?_⟩
  · rintro i y st2 hy ⟨oa, ob, rfl⟩
    rw [List.getElem?_map] at hy
    obtain ⟨key, hkey, rfl⟩ := Option.map_eq_some_iff.mp hy
    obtain ⟨hi, hke⟩ := List.getElem?_eq_some_iff.mp hkey
    have hkm : key ∈ keys := hke ▸ List.getElem_mem hi
    repeat walk_at "s"
    refine SV1_for ?_
    repeat walk_at "s"
    have e2 : (room : Int) * 8 = ((8 * room : Nat) : Int) := by (clear hn b0 b1 hlen lenk hR rr hPr pr e1; omega)
    rw [e2]
    refine CallE_w (lamps_spec (hk key hkm) (by clear hn b0 b1 hlen lenk hR rr hPr pr e1 e2; omega) (by clear hn b0 b1 hlen lenk hR rr hPr e1 e2; omega) (by clear hn b0 b1 hlen lenk hR hPr pr e1 e2; omega)) ?_
    rw [Int.toNat_natCast]
    have lsz : (lamps key pb ((8 * room : Nat) : Int)).length = pb := by simp [lamps]
    refine ⟨_, Iter.list, fun j st => ∃ (ob : Option AV), st = ⟨[("keys", some (.list (keys.map .bytes))), ("bits", some (.int bits)), ("room", some (.int room)), ("probes", some (.int pb)), ("lit", some (.val (.ref a))), ("key", some (.bytes key)), ("lamp", ob)],
      hp ++ [(a, .list (litL (on (allLamps (keys.take i) pb ((8 * room : Nat) : Int) ++ (lamps key pb ((8 * room : Nat) : Int)).take j)) (8 * room)))]⟩, ⟨ob, by simp⟩, ?_, ?_⟩
    · rintro j y st3 hy ⟨ob', rfl⟩
      rw [List.getElem?_map] at hy
      obtain ⟨lam, hlam, rfl⟩ := Option.map_eq_some_iff.mp hy
      obtain ⟨hj, hje⟩ := List.getElem?_eq_some_iff.mp hlam
      have lr := lamps_range (by clear hn b0 b1 hlen lenk hR hPr pr e1 e2 lsz hj hje; omega) (hje ▸ List.getElem_mem hj : lam ∈ lamps key pb ((8 * room : Nat) : Int))
      repeat walk_at "s"
      refine xSetI (setI_list (has_of_snoc hp) lr.1 (by clear hn b0 b1 hlen lenk hR hPr pr e1 e2 lsz hj hje; omega) (by rw [lit_len]; (clear hn b0 b1 hlen lenk hR rr hPr pr e1 e2 lsz hj hje; omega)) (swap_of_snoc hp)) ?_
      repeat walk_at "s"
      rw [lit_set lr.1]
      refine ⟨some (.int lam), ?_⟩
      rw [List.append_assoc, ← hje, List.take_append_getElem]
    · rintro st3 ⟨ob', rfl⟩
      refine SV_nil ?_
      refine ⟨some (.bytes key), ob', ?_⟩
      rw [List.length_map, List.take_length]
      have : allLamps (keys.take (i + 1)) pb ((8 * room : Nat) : Int) = allLamps (keys.take i) pb ((8 * room : Nat) : Int) ++ lamps key pb ((8 * room : Nat) : Int) := by
        unfold allLamps
        rw [List.take_add_one, List.flatMap_append, hkey]
        simp
      rw [this]
  · rintro st2 ⟨oa, ob, rfl⟩
    rw [List.length_map, List.take_length]
    refine SV_freeze (drop_of_snoc hp) rfl (.same (.same (.same (.same (.froze (.same (.same .nil))))))) ?_
    generalize hS : on (allLamps keys pb ((8 * room : Nat) : Int)) = f
    repeat walk_at "s"
    refine EV_map ["lit"] ?_ (by kernel_rfl) (by decide) (by decide) rfl rfl
    repeat walk_at "s"
    refine ⟨_, iter_range (by clear hn b0 b1 hlen lenk hR hPr pr e1; omega) (by clear hn b0 b1 hlen lenk hR rr hPr pr e1; omega), by rw [rng_len]; (clear hn b0 b1 hlen lenk hR hPr pr e1; omega), _, capt1 (by walk_at "lk"), fun i => .int (octF f i), ?_, ?_⟩
    · intro i y hy
      obtain ⟨hi, rfl⟩ := rng_get hy
      repeat walk_at "s"
      refine EV_map ["lit", "i"] ?_ (by kernel_rfl) (by decide) (by decide) rfl rfl
      repeat walk_at "s"
      refine ⟨_, iter_range (by clear hn b0 b1 hlen lenk hR rr hPr pr e1 hi; omega) (by clear hn b0 b1 hlen lenk hR rr hPr pr e1 hi; omega), by rw [rng_len]; (clear hn b0 b1 hlen lenk hR rr hPr pr e1 hi; omega), _, capt2 (by walk_at "lk") (by walk_at "lk"), fun j => .int (bit (f (8 * i + j)) * 2 ^ j), ?_, ?_⟩
      · intro j y hy
        obtain ⟨hj, rfl⟩ := rng_get hy
        have hj' : j < 8 := hj
        repeat walk_at "s"
        have eij : ((8 * (i : Int)) + j).toNat = 8 * i + j := by (clear hn b0 b1 hlen lenk hR rr hPr pr e1 hi hj hj'; omega)
        refine xSub (sub_list (by clear hn b0 b1 hlen lenk hR rr hPr pr e1 hi hj hj' eij; omega) (by clear hn b0 b1 hlen lenk hR hPr pr e1 hj' eij; omega) (by rw [eij]; exact lit_at (by clear hn b0 b1 hlen lenk hR rr hPr pr e1 hj eij; omega))) ?_
        repeat walk_at "s"
        refine bin_pow (by clear hn b0 b1 hlen lenk hR rr hPr pr e1 hi hj hj' eij; omega) (by clear hn b0 b1 hlen lenk hR rr hPr pr e1 hi hj eij; omega) (by decide) ?_
        rw [Int.toNat_natCast]
        refine bin_mul (.inl (by unfold bit; split <;> decide)) ?_
        exact ⟨rfl, rfl⟩
      repeat walk_at "s"
      have := sum_ints (D := D) (cl := false) (n := 2) (hp := hp) (ns := (List.range 8).map fun (j : Nat) => bit (f (8 * i + j)) * 2 ^ j)
      rw [sum8, List.map_map] at this
      refine CallE_v this ?_
      exact ⟨rfl, rfl⟩
    rw [rng_len, Int.toNat_natCast]
    repeat walk_at "s"
    refine EV_List ?_
    repeat walk_at "s"
    refine ⟨by simp, ?_⟩
    refine binG_of (bin_lists (by simp; (clear hn b0 b1 hlen lenk hR hPr pr e1; omega)) ?_)
    repeat walk_at "s"
    have := bytes_ints (D := D) (cl := false) (n := 2) (hp := hp) (ns := ((List.range room).map fun (i : Nat) => ((octF f i : Nat) : Int)) ++ [(pb : Int)]) (fun j hj => ?_) (by simp; (clear hn b0 b1 hlen lenk hR hPr pr e1; omega))
    · rw [List.map_append, List.map_map] at this
      refine CallE_v this ?_
      refine ⟨?_, rfl⟩
      unfold oneL filt toB
      rw [hR, hPr, hS, List.map_append, List.map_map]
      rfl
    · rcases List.mem_append.mp hj with hj | hj
      · obtain ⟨i, _, rfl⟩ := List.mem_map.mp hj
        have := octF_lt f i
        (clear hn b0 b1 hlen lenk hR rr hPr pr e1; omega)
      · cases List.mem_singleton.mp hj
        (clear hn b0 b1 hlen lenk hR rr hPr e1; omega)


theorem bin_divW {K : Frag} {D : Wd K} {a b : Int} {P : AV → Prop} (hb : 0 < b) (hs : b < 2 ^ 60) (h : P (.int (a / b))) : BinT D .FloorDiv (.int a) (.int b) P :=
  bin_of (fun _ _ _ _ _ _ q => floordiv_int (Int.ne_of_gt hb) (by rw [Int.fdiv_eq_ediv_of_nonneg _ (Int.le_of_lt hb)]; exact q) (.inl (PyProof.noPylong_of_log2 (by
    have : b.natAbs ≠ 0 := by (clear hs; omega)
    have := (Nat.log2_lt this (k := 60)).mpr (by clear this; omega)
    (rename_i zq1; clear hb hs zq1; omega))))) h

/-! _law_body -/
noncomputable def fils (bits : Int) (spans : List (List (List UInt8))) : List UInt8 := spans.flatMap fun ks => if ks = [] then [] else oneL ks bits
noncomputable def offs (bits : Int) (spans : List (List (List UInt8))) : List Nat := (List.range spans.length).map fun i => (fils bits (spans.take i)).length
noncomputable def starts (bits : Int) (spans : List (List (List UInt8))) : List UInt8 := (offs bits spans).flatMap fun (n : Nat) => fixL n
noncomputable def lastOf (held : List (List (List UInt8))) : List (List UInt8) := held.getLast?.getD []
noncomputable def spansOf (held : List (List (List UInt8))) : List (List (List UInt8)) := if lastOf held = [] then held.dropLast else held
noncomputable def bodyL (held : List (List (List UInt8))) (bits lg : Int) : List UInt8 :=
  fils bits (spansOf held) ++ starts bits (spansOf held) ++ fixL (fils bits (spansOf held)).length ++ toB [lg]
theorem fils_succ {bits : Int} {spans : List (List (List UInt8))} {i : Nat} {ks : List (List UInt8)} (h : spans[i]? = some ks) : fils bits (spans.take (i + 1)) = fils bits (spans.take i) ++ (if ks = [] then [] else oneL ks bits) := by
  unfold fils
  rw [List.take_add_one, List.flatMap_append, h]
  simp
theorem fils_take_le {bits : Int} (spans : List (List (List UInt8))) (i : Nat) : (fils bits (spans.take i)).length ≤ (fils bits spans).length := by
  have : fils bits spans = fils bits (spans.take i) ++ fils bits (spans.drop i) := by
    unfold fils
    rw [← List.flatMap_append, List.take_append_drop]
  rw [this, List.length_append]; omega
theorem offs_take {bits : Int} (spans : List (List (List UInt8))) {i : Nat} (h : i < spans.length) : offs bits (spans.take (i + 1)) = offs bits (spans.take i) ++ [(fils bits (spans.take i)).length] := by
  unfold offs
  rw [List.length_take, List.length_take, Nat.min_eq_left (by omega), Nat.min_eq_left (by omega), List.range_succ, List.map_append]
  congr 1
  · refine List.map_congr_left fun j hj => ?_
    have := List.mem_range.mp hj
    rw [List.take_take, List.take_take, Nat.min_eq_left (by clear h; omega), Nat.min_eq_left (by clear h; omega)]
  · simp [List.take_take]
theorem starts_succ {bits : Int} (spans : List (List (List UInt8))) {i : Nat} (h : i < spans.length) : starts bits (spans.take (i + 1)) = starts bits (spans.take i) ++ fixL (fils bits (spans.take i)).length := by
  unfold starts
  rw [offs_take spans h, List.flatMap_append]
  simp
theorem fix_len (n : Int) : (fixL n).length = 4 := rfl
theorem offs_len {bits : Int} (spans : List (List (List UInt8))) : (offs bits spans).length = spans.length := by simp [offs]
theorem starts_len {bits : Int} (spans : List (List (List UInt8))) : (starts bits spans).length = 4 * spans.length := by
  unfold starts
  rw [List.length_flatMap, show (fun n : Nat => (fixL n).length) = fun _ => 4 from rfl, List.map_const', List.sum_replicate_nat, offs_len]
  omega
noncomputable def heldV (held : List (List (List UInt8))) : AV := .list (held.map fun ks => .list (ks.map .bytes))
theorem body_spec {held : List (List (List UInt8))} {bits lg : Int} (hk : ∀ ks ∈ held, ks.length ≤ 1000 ∧ ∀ k ∈ ks, k.length ≤ 1000000) (h0 : 0 < held.length) (hl : held.length ≤ 1000) (b0 : 0 ≤ bits) (b1 : bits ≤ 1000)
    (hsz : (fils bits held).length ≤ 1000000) (l0 : 0 ≤ lg) (l1 : lg < 256) : CallV false D 4 (.ref 259) [heldV held, .int bits, .int lg] hp (.bytes (bodyL held bits lg)) := by
  unfold heldV
  refine CallT.enter' 3 ["held", "bits", "lg"] ["spans", "out", "starts", "keys"] rfl rfl (by decide) (by decide) rfl (bind3 fun _ _ _ => rfl) rfl rfl ?_
  walk_at "enter"
  have hlen : ((held.map fun ks => AV.list (ks.map AV.bytes)).length : Int) = held.length := by simp
  have hlast : (held.map fun ks => AV.list (ks.map AV.bytes))[((held.length : Int) - 1).toNat]? = some (.list ((lastOf held).map AV.bytes)) := by
    have e : ((held.length : Int) - 1).toNat = held.length - 1 := by (clear h0 hl b0 b1 hsz l0 l1 hlen; omega)
    rw [e, List.getElem?_map]
    unfold lastOf
    rw [List.getLast?_eq_getElem?]
    cases q : held[held.length - 1]? with
    | none => have := List.getElem?_eq_none_iff.mp q; (clear hl b0 b1 hsz l0 l1 hlen e; omega)
    | some x => rfl
  repeat walk_at "t"
  refine SV1_md (⟨[("held", some (heldV held)), ("bits", some (.int bits)), ("lg", some (.int lg)), ("spans", some (heldV (spansOf held))), ("out", none), ("starts", none), ("keys", none)], hp⟩) ?_ ?_
  · repeat walk_at "s"
    refine CallE_v (len_list (by simp; (clear h0 b0 b1 hsz l0 l1 hlen; omega))) ?_
    rw [hlen]
    repeat walk_at "s"
    refine xSub (sub_list (by clear hl b0 b1 hsz l0 l1 hlen; omega) (by clear h0 b0 b1 hsz l0 l1 hlen; omega) hlast) ?_
    repeat walk_at "s"
    have hlk : (lastOf held).length ≤ 1000 := by
      unfold lastOf
      cases q : held.getLast? with
      | none => simp
      | some x => exact (hk x (List.mem_of_getLast? q)).1
    refine CallE_v (len_list (by simp; (clear h0 hl b0 b1 hsz l0 l1 hlen; omega))) ?_
    repeat walk_at "s"
    refine dsplit (fun hlt => ?_) fun hlt => ?_
    · have hE : lastOf held = [] := List.length_eq_zero_iff.mp (by simpa using hlt)
      repeat walk_at "s"
      refine CallE_v (len_list (by simp; (clear h0 b0 b1 hsz l0 l1 hlen hlk hlt; omega))) ?_
      rw [hlen]
      repeat walk_at "s"
      refine xSl (sl_list (by simp; (clear h0 b0 b1 hsz l0 l1 hlen hlk hlt; omega))) ?_
      repeat walk_at "s"
      refine ⟨rfl, ?_⟩
      have : spansOf held = held.dropLast := by unfold spansOf; rw [if_pos hE]
      rw [this]
      have e2 : cut (held.map fun ks => AV.list (ks.map AV.bytes)) none (some ((held.length : Int) - 1)) = held.dropLast.map fun ks => AV.list (ks.map AV.bytes) := by
        have := clipAt_cast (held.map fun ks => AV.list (ks.map AV.bytes)).length ((held.length : Int) - 1)
        rw [if_neg (by clear hl b0 b1 hsz l0 l1 hlen hlk hlt this; omega), hlen] at this
        unfold cut
        simp only [Option.elim, List.drop_zero, Nat.sub_zero]
        rw [show clipAt (held.map fun ks => AV.list (ks.map AV.bytes)).length ((held.length : Int) - 1) = held.length - 1 by (clear h0 hl b0 b1 hsz l0 l1 hlen hlk hlt; omega), ← List.map_take, List.dropLast_eq_take]
      rw [e2]
      rfl
    · have hE : lastOf held ≠ [] := fun q => hlt (by rw [q]; rfl)
      repeat walk_at "s"
      refine ⟨rfl, ?_⟩
      have : spansOf held = held := by unfold spansOf; rw [if_neg hE]
      rw [this]
      rfl
  have hsp : ∀ ks ∈ spansOf held, ks.length ≤ 1000 ∧ ∀ k ∈ ks, k.length ≤ 1000000 := fun ks hks => by
    refine hk ks ?_
    unfold spansOf at hks
    split at hks
    · exact List.dropLast_subset _ hks
    · exact hks
  have hsl : (spansOf held).length ≤ 1000 := by unfold spansOf; split; (rw [List.length_dropLast]; (clear h0 b0 b1 hsz l0 l1 hlen; omega)); exact hl
  have hss : (fils bits (spansOf held)).length ≤ 1000000 := by
    unfold spansOf
    split
    · rw [List.dropLast_eq_take]; exact Nat.le_trans (fils_take_le _ _) hsz
    · exact hsz
  generalize hS : spansOf held = spans at *
  repeat walk_at "s"
  refine SV1_for ?_
  repeat walk_at "s"
  refine ⟨_, Iter.list, fun i st => ∃ (oa : Option AV), st = ⟨[("held", some (heldV held)), ("bits", some (.int bits)), ("lg", some (.int lg)), ("spans", some (heldV spans)), ("out", some (.bytes (fils bits (spans.take i)))), ("starts", some (.bytes (starts bits (spans.take i)))), ("keys", oa)], hp⟩, ⟨_, rfl⟩, ?_, ?_⟩
  · rintro i y st2 hy ⟨oa, rfl⟩
    rw [List.getElem?_map] at hy
    obtain ⟨ks, hks, rfl⟩ := Option.map_eq_some_iff.mp hy
    obtain ⟨hi, hke⟩ := List.getElem?_eq_some_iff.mp hks
    have hkm : ks ∈ spans := hke ▸ List.getElem_mem hi
    have fl := fils_take_le (bits := bits) spans i
    have fl1 := fils_take_le (bits := bits) spans (i + 1)
    have sl : (starts bits (spans.take i)).length ≤ 4000 := by rw [starts_len, List.length_take]; (clear h0 hl b0 b1 hsz l0 l1 hlen hss fl fl1; omega)
    repeat walk_at "t"
    refine CallE_w (fix_spec (by clear h0 hl b0 b1 hsz l0 l1 hlen hsl hss fl fl1 sl; omega)) ?_
    repeat walk_at "t"
    refine binN_bytes (by rw [fix_len]; (clear h0 hl b0 b1 hsz l0 l1 hlen hsl hss fl fl1; omega)) ?_
    rw [← starts_succ spans hi]
    repeat walk_at "s"
    have hks1 := (hsp ks hkm).1
    have fs := fils_succ (bits := bits) hks
    refine CallE_v (len_list (by simp; (clear h0 hl b0 b1 hsz l0 l1 hlen hsl hss fl fl1 sl; omega))) ?_
    repeat walk_at "s"
    refine dsplit (fun hlt => ?_) fun hlt => ?_
    · have hE : ks ≠ [] := fun q => by rw [q] at hlt; exact absurd hlt (by decide)
      rw [if_neg hE] at fs
      repeat walk_at "s"
      refine CallE_w (one_spec (hsp ks hkm).2 hks1 b0 b1) ?_
      refine binN_bytes (by rw [← List.length_append, ← fs]; (clear h0 hl b0 b1 hsz l0 l1 hlen hsl fl sl hks1 hlt hE; omega)) ?_
      rw [← fs]
      repeat walk_at "s"
      exact ⟨_, rfl⟩
    · have hE : ks = [] := by
        cases ks with
        | nil => rfl
        | cons a r => exact absurd (by simp) hlt
      rw [if_pos hE, List.append_nil] at fs
      repeat walk_at "s"
      refine ⟨some (.list (ks.map .bytes)), ?_⟩
      rw [fs]
  · rintro st2 ⟨oa, rfl⟩
    rw [List.length_map, List.take_length]
    have sl : (starts bits spans).length ≤ 4000 := by rw [starts_len]; (clear h0 hl b0 b1 hsz l0 l1 hlen hss; omega)
    repeat walk_at "s"
    refine binN_bytes (by clear h0 hl b0 b1 hsz l0 l1 hlen hsl; omega) ?_
    repeat walk_at "s"
    refine CallE_w (fix_spec (by clear h0 hl b0 b1 hsz l0 l1 hlen hsl hss sl; omega)) ?_
    repeat walk_at "s"
    refine binN_bytes (by rw [List.length_append, fix_len]; (clear h0 hl b0 b1 hsz l0 l1 hlen hsl; omega)) ?_
    repeat walk_at "s"
    refine EV_List ?_
    repeat walk_at "s"
    refine ⟨by simp, ?_⟩
    repeat walk_at "s"
    have := bytes_ints (D := D) (cl := false) (n := 3) (hp := hp) (ns := [lg]) (fun j hj => ?_) (by simp)
    · refine CallE_v this ?_
      refine binN_bytes (by rw [List.length_append, List.length_append, fix_len]; simp [toB]; (clear h0 hl b0 b1 hsz l0 l1 hlen hsl; omega)) ?_
      repeat walk_at "s"
      unfold bodyL
      rw [hS]
      exact ⟨rfl, rfl⟩
    · cases List.mem_singleton.mp hj
      exact ⟨l0, l1⟩


/-! _law_lit, _law_says -/
noncomputable def bitAt (part : List UInt8) (x : Int) : Bool := !decide (oct part (x / 8).toNat / 2 ^ (x % 8).toNat % 2 = 0)
noncomputable def lastO (part : List UInt8) : Int := oct part (part.length - 1)
noncomputable def litB (part key : List UInt8) : Bool :=
  if part.length < 2 then false else if 30 < lastO part then true else (lamps key (lastO part).toNat ((8 * (part.length - 1) : Nat) : Int)).all (bitAt part)
theorem all_take {α : Type} {l : List α} {f : α → Bool} {i : Nat} {x : α} (h : l[i]? = some x) : (l.take (i + 1)).all f = ((l.take i).all f && f x) := by
  rw [List.take_add_one, List.all_append, h]; simp
theorem all_no {α : Type} {l : List α} {f : α → Bool} {i : Nat} {x : α} (h : l[i]? = some x) (hf : f x = false) : l.all f = false := by
  obtain ⟨h1, h2⟩ := List.getElem?_eq_some_iff.mp h
  rw [List.all_eq_false]
  exact ⟨x, h2 ▸ List.getElem_mem h1, by rw [hf]; decide⟩
theorem lit_spec {part key : List UInt8} (hp1 : part.length ≤ 1000000) (hk : key.length ≤ 1000000) : CallV false D 3 (.ref 266) [.bytes part, .bytes key] hp (.bool (litB part key)) := by
  refine CallT.enter' 2 ["part", "key"] ["probes", "lamp"] rfl rfl (by decide) (by decide) rfl (bind2 fun _ _ => rfl) rfl rfl ?_
  walk_at "enter"
  repeat walk_at "s"
  refine dsplit (fun hlt => ?_) fun hlt => ?_
  · have : litB part key = false := by unfold litB; rw [if_pos (by clear hp1 hk; omega)]
    rw [this]
    repeat walk_at "s"
    exact ⟨rfl, rfl⟩
  have e1 : ((part.length : Int) - 1).toNat = part.length - 1 := by (clear hp1 hk hlt; omega)
  repeat walk_at "s"
  rw [e1]
  have lo := oct_range part (part.length - 1)
  have lo' : oct part (part.length - 1) = lastO part := rfl
  rw [lo'] at lo
  have lo'' : ((part.getD (part.length - 1) 0).toNat : Int) = lastO part := rfl
  rw [lo'']
  refine dsplit (fun hlt2 => ?_) fun hlt2 => ?_
  · have : litB part key = true := by unfold litB; rw [if_neg (by clear hp1 hk e1 lo lo' lo'' hlt2; omega), if_pos hlt2]
    rw [this]
    repeat walk_at "s"
    exact ⟨rfl, rfl⟩
  have hL : litB part key = (lamps key (lastO part).toNat ((8 * (part.length - 1) : Nat) : Int)).all (bitAt part) := by unfold litB; rw [if_neg (by clear hp1 hk e1 lo lo' lo'' hlt2; omega), if_neg hlt2]
  repeat walk_at "s"
  refine SV1_for ?_
  repeat walk_at "s"
  have e2 : 8 * (part.length : Int) - 8 = ((8 * (part.length - 1) : Nat) : Int) := by (clear hp1 hk e1 lo lo' lo'' hlt2; omega)
  rw [e2]
  refine CallE_w (lamps_spec hk lo.1 (by clear hp1 hk hlt e1 lo lo' lo'' e2; omega) (by clear hp1 hk e1 lo lo' lo'' hlt2 e2; omega)) ?_
  generalize hLm : lamps key (lastO part).toNat ((8 * (part.length - 1) : Nat) : Int) = lm at *
  refine ⟨_, Iter.list, fun i st => (∃ (oa : Option AV), st = ⟨[("part", some (.bytes part)), ("key", some (.bytes key)), ("probes", some (.int (lastO part))), ("lamp", oa)], hp⟩) ∧ (lm.take i).all (bitAt part) = true, ⟨⟨_, rfl⟩, rfl⟩, ?_, ?_⟩
  · rintro i y st2 hy ⟨⟨oa, rfl⟩, hall⟩
    rw [List.getElem?_map] at hy
    obtain ⟨x, hx, rfl⟩ := Option.map_eq_some_iff.mp hy
    obtain ⟨hi, hxe⟩ := List.getElem?_eq_some_iff.mp hx
    have xr : 0 ≤ x ∧ x < ((8 * (part.length - 1) : Nat) : Int) := lamps_range (by clear hp1 hk e1 lo lo' lo'' hlt2 e2 hi hxe; omega) (by rw [hLm, ← hxe]; exact List.getElem_mem hi)
    have m8 : 0 ≤ x % 8 ∧ x % 8 < 8 := ⟨Int.emod_nonneg _ (by decide), Int.emod_lt_of_pos _ (by decide)⟩
    repeat walk_at "s"
    refine bin_pow m8.1 (by clear hp1 hk hlt e1 lo lo' lo'' hlt2 e2 hi hxe xr m8; omega) (by decide) ?_
    have pw : (0 : Int) < 2 ^ (x % 8).toNat ∧ (2 : Int) ^ (x % 8).toNat < 1000 := by
      obtain ⟨n, hn⟩ := Int.eq_ofNat_of_zero_le m8.1
      rw [hn]
      have : n = 0 ∨ n = 1 ∨ n = 2 ∨ n = 3 ∨ n = 4 ∨ n = 5 ∨ n = 6 ∨ n = 7 := by (clear hp1 hk hlt e1 lo lo' lo'' hlt2 e2 hi hxe xr m8; omega)
      rcases this with rfl | rfl | rfl | rfl | rfl | rfl | rfl | rfl <;> decide
    repeat walk_at "s"
    have hat := all_take (f := bitAt part) hx
    have hb : bitAt part x = !decide (((part.getD (x / 8).toNat 0).toNat : Int) / 2 ^ (x % 8).toNat % 2 = 0) := rfl
    refine dsplit (fun hz => ?_) fun hz => ?_
    · rw [decide_eq_true hz] at hb
      repeat walk_at "s"
      exact ⟨by rw [hL, all_no hx hb], rfl⟩
    · rw [decide_eq_false hz] at hb
      repeat walk_at "s"
      exact ⟨⟨_, rfl⟩, by rw [hat, hall, hb]; rfl⟩
  · rintro st2 ⟨⟨oa, rfl⟩, hall⟩
    rw [List.length_map, List.take_length] at hall
    repeat walk_at "s"
    exact ⟨by rw [hL, hall], rfl⟩


noncomputable def ansB (data : List UInt8) (offset : Int) (key : List UInt8) : Bool :=
  if data.length < 5 then true else
  if read32 data (data.length - 5) > data.length - 5 ∨ lastO data > 31 then true else
  if read32 data (data.length - 5) + 4 * (offset / 2 ^ (lastO data).toNat) + 4 > data.length - 5 then true else
  if read32 data (read32 data (data.length - 5) + 4 * (offset / 2 ^ (lastO data).toNat)).toNat > read32 data (read32 data (data.length - 5) + 4 * (offset / 2 ^ (lastO data).toNat) + 4).toNat ∨
     read32 data (read32 data (data.length - 5) + 4 * (offset / 2 ^ (lastO data).toNat) + 4).toNat > read32 data (data.length - 5) ∨
     read32 data (read32 data (data.length - 5) + 4 * (offset / 2 ^ (lastO data).toNat) + 4).toNat = read32 data (read32 data (data.length - 5) + 4 * (offset / 2 ^ (lastO data).toNat)).toNat + 1 then true else
  if read32 data (read32 data (data.length - 5) + 4 * (offset / 2 ^ (lastO data).toNat)).toNat < read32 data (read32 data (data.length - 5) + 4 * (offset / 2 ^ (lastO data).toNat) + 4).toNat then
    litB (cut data (some (read32 data (read32 data (data.length - 5) + 4 * (offset / 2 ^ (lastO data).toNat)).toNat)) (some (read32 data (read32 data (data.length - 5) + 4 * (offset / 2 ^ (lastO data).toNat) + 4).toNat))) key
  else false
theorem num4 {d : List UInt8} {i : Nat} (h : i + 4 ≤ d.length) : num ((d.drop i).take 4) = read32 d i := by
  obtain ⟨a, ea, va⟩ := drop_oct (d := d) (i := i) (by omega)
  obtain ⟨b, eb, vb⟩ := drop_oct (d := d) (i := i + 1) (by clear va; omega)
  obtain ⟨c, ec, vc⟩ := drop_oct (d := d) (i := i + 1 + 1) (by clear va vb; omega)
  obtain ⟨e, ee, ve⟩ := drop_oct (d := d) (i := i + 1 + 1 + 1) (by clear va vb vc; omega)
  rw [ea, eb, ec, ee]
  show num [a, b, c, e] = _
  simp only [num, read32]
  rw [va, vb, vc, ve, show i + 1 + 1 = i + 2 from rfl, show i + 1 + 1 + 1 = i + 3 from rfl]
  (clear h va vb vc ve; omega)
theorem cut4 {d : List UInt8} {i j : Int} (h0 : 0 ≤ i) (hj : j = i + 4) (h : i + 4 ≤ d.length) : num (cut d (some i) (some j)) = read32 d i.toNat ∧ (cut d (some i) (some j)).length ≤ 1000000 := by
  obtain ⟨n, rfl⟩ := Int.eq_ofNat_of_zero_le h0
  subst hj
  rw [cut_of 4 (m := 4) rfl (by clear h0; omega), num4 (by clear h0; omega)]
  exact ⟨rfl, by simp; (clear h0 h; omega)⟩
theorem cut_len {α : Type} (d : List α) (i j : Option Int) : (cut d i j).length ≤ d.length := by
  unfold cut; simp; omega
theorem pow2 {l : Int} (h0 : 0 ≤ l) (h1 : l ≤ 31) : (0 : Int) < 2 ^ l.toNat ∧ (2 : Int) ^ l.toNat < 2 ^ 60 := by
  refine ⟨Int.pow_pos (by decide), ?_⟩
  have : l.toNat ≤ 31 := by (clear h0; omega)
  have := Nat.pow_le_pow_right (n := 2) (by decide) this
  have e : (2 : Int) ^ l.toNat = ((2 ^ l.toNat : Nat) : Int) := by simp
  rw [e]; (rename_i zq1; clear h0 h1 zq1 e; omega)
theorem says_spec {data key : List UInt8} {offset : Int} (hp1 : data.length ≤ 1000000) (hk : key.length ≤ 1000000) (ho : 0 ≤ offset) : CallV false D 4 (.ref 273) [.bytes data, .int offset, .bytes key] hp (.bool (ansB data offset key)) := by
  refine CallT.enter' 3 ["data", "offset", "key"] ["room", "start", "lg", "span", "low", "high"] rfl rfl (by decide) (by decide) rfl (bind3 fun _ _ _ => rfl) rfl rfl ?_
  walk_at "enter"
  generalize hR : ansB data offset key = res
  unfold ansB at hR
  repeat walk_at "s"
  refine dsplit (fun hlt => ?_) fun hlt => ?_
  · rw [if_pos (by clear hp1 hk ho; omega)] at hR
    subst hR
    repeat walk_at "s"
    exact ⟨rfl, rfl⟩
  rw [if_neg (by clear hp1 hk ho; omega)] at hR
  repeat walk_at "s"
  have c1 := cut4 (d := data) (i := (data.length : Int) - 5) (j := (data.length : Int) - 5 + 4) (by clear hp1 hk ho; omega) rfl (by clear hp1 hk ho hlt; omega)
  have e1 : ((data.length : Int) - 5).toNat = data.length - 5 := by (clear hp1 hk ho hlt c1; omega)
  refine xSl (sl_bytes (by clear hk ho hlt c1 e1; omega)) ?_
  repeat walk_at "s"
  refine CallE_w (num_spec c1.2) ?_
  rw [c1.1, e1]
  have sr := read32_range data (data.length - 5)
  have lr := oct_range data (data.length - 1)
  have le : oct data (data.length - 1) = lastO data := rfl
  rw [le] at lr
  generalize read32 data (data.length - 5) = start at *
  repeat walk_at "s"
  have e2 : ((data.getD ((data.length : Int) - 5 + 4).toNat 0).toNat : Int) = lastO data := by
    have : ((data.length : Int) - 5 + 4).toNat = data.length - 1 := by (clear hp1 hk ho hlt c1 e1 lr le sr; omega)
    rw [this]; rfl
  rw [e2]
  generalize lastO data = lg at *
  refine dsplit (fun hs => ?_) fun hs => ?_
  · rw [if_pos (.inl hs)] at hR
    subst hR
    repeat walk_at "s"
    exact ⟨rfl, rfl⟩
  repeat walk_at "s"
  refine dsplit (fun hg => ?_) fun hg => ?_
  · rw [if_pos (.inr hg)] at hR
    subst hR
    repeat walk_at "s"
    exact ⟨rfl, rfl⟩
  rw [if_neg (by clear hp1 hk ho hlt c1 e1 sr lr le e2; omega)] at hR
  have p2 := pow2 (l := lg) (by clear hp1 hk ho hlt c1 e1 sr lr le hs hg; omega) (by clear hp1 hk ho hlt c1 e1 sr lr le e2 hs; omega)
  repeat walk_at "s"
  refine bin_pow (by clear hp1 hk ho hlt c1 e1 sr lr le hs hg p2; omega) (by clear hp1 hk ho hlt c1 e1 sr lr le e2 hs p2; omega) (by decide) ?_
  refine bin_divW p2.1 p2.2 ?_
  have s0 : 0 ≤ offset / 2 ^ lg.toNat := Int.ediv_nonneg ho (by clear hp1 hk ho hlt c1 e1 sr lr le e2 hs hg; omega)
  generalize offset / 2 ^ lg.toNat = span at *
  repeat walk_at "s"
  refine dsplit (fun hc => ?_) fun hc => ?_
  · rw [if_pos hc] at hR
    subst hR
    repeat walk_at "s"
    exact ⟨rfl, rfl⟩
  rw [if_neg hc] at hR
  have c2 := cut4 (d := data) (i := start + 4 * span) (j := start + 4 * span + 4) (by clear hp1 hk ho hlt c1 e1 lr le e2 hs hg p2 hc; omega) rfl (by clear hp1 hk ho hlt c1 e1 sr lr le e2 hs hg p2 s0; omega)
  have c3 := cut4 (d := data) (i := start + 4 * span + 4) (j := start + 4 * span + 8) (by clear hp1 hk ho hlt c1 e1 lr le e2 hs hg p2 hc c2; omega) (by clear hp1 hk ho hlt c1 e1 sr lr le e2 hs hg p2 s0 hc c2; omega) (by clear hp1 hk ho hlt c1 e1 sr lr le e2 hs hg p2 s0 c2; omega)
  repeat walk_at "s"
  refine xSl (sl_bytes (by clear hk ho hlt c1 e1 sr lr le e2 hs hg p2 s0 hc c2 c3; omega)) ?_
  repeat walk_at "s"
  refine CallE_w (num_spec c2.2) ?_
  rw [c2.1]
  repeat walk_at "s"
  refine xSl (sl_bytes (by clear hk ho hlt c1 e1 sr lr le e2 hs hg p2 s0 hc c2 c3; omega)) ?_
  repeat walk_at "s"
  refine CallE_w (num_spec c3.2) ?_
  rw [c3.1]
  have r2 := read32_range data (start + 4 * span).toNat
  have r3 := read32_range data (start + 4 * span + 4).toNat
  generalize read32 data (start + 4 * span).toNat = low at *
  generalize read32 data (start + 4 * span + 4).toNat = high at *
  repeat walk_at "s"
  refine dsplit (fun h1 => ?_) fun h1 => ?_
  · rw [if_pos (.inl h1)] at hR
    subst hR
    repeat walk_at "s"
    exact ⟨rfl, rfl⟩
  repeat walk_at "s"
  refine dsplit (fun h2 => ?_) fun h2 => ?_
  · rw [if_pos (.inr (.inl h2))] at hR
    subst hR
    repeat walk_at "s"
    exact ⟨rfl, rfl⟩
  repeat walk_at "s"
  refine dsplit (fun h3 => ?_) fun h3 => ?_
  · rw [if_pos (.inr (.inr h3))] at hR
    subst hR
    repeat walk_at "s"
    exact ⟨rfl, rfl⟩
  rw [if_neg (by clear hp1 hk ho hlt c1 e1 sr lr le e2 hs hg p2 s0 hc c2 r2 c3 r3; omega)] at hR
  repeat walk_at "s"
  refine EV_and ?_
  repeat walk_at "s"
  refine dsplit (fun h4 => ?_) fun h4 => ?_
  · rw [if_pos h4] at hR
    subst hR
    repeat walk_at "s"
    refine xSl (sl_bytes (by clear hk ho hlt c1 e1 sr lr le e2 hs hg p2 s0 hc c2 r2 c3 r3 h1 h2 h3 h4; omega)) ?_
    repeat walk_at "s"
    have cl := cut_len data (some low) (some high)
    refine CallE_w (lit_spec (by clear hk ho hlt c1 e1 sr lr le e2 hs hg p2 s0 hc c2 r2 c3 r3 h1 h2 h3 h4; omega) hk) ?_
    exact ⟨rfl, rfl⟩
  · rw [if_neg h4] at hR
    subst hR
    repeat walk_at "s"
    exact ⟨rfl, rfl⟩


/-! _law_altered -/
structure AtF (hpf : Int → Hp) (a : Addr) : Prop where
  has : ∀ k, Has (hpf k) a (.list [.int k])
  swap : ∀ k k', Swap (hpf k) a (.list [.int k']) (hpf k')
theorem take_at {hpf : Int → Hp} {tp : List Int} {k m : Int} {a : Addr} (F : AtF hpf a) (hk : 0 ≤ k) (hk2 : k < 1000000) (hm : 0 < m) (ht : 0 < tp.length) (ht2 : tp.length ≤ 40) :
    CallT false D 1 (.ref 227) [.list (tp.map .int), .val (.ref a), .int m] (hpf k) (fun x hp2 => ∃ v, x = .int v ∧ 0 ≤ v ∧ v < m ∧ hp2 = hpf (k + 1)) := take_spec (F.has k) (F.swap k (k + 1)) hk hk2 hm ht ht2
theorem pick_any {l : List Int} (hl : ∀ x ∈ l, 0 ≤ x ∧ x < 256) {j : Int} (h0 : 0 ≤ j) (h1 : j < l.length) : ∃ v, (l.map AV.int)[j.toNat]? = some (.int v) ∧ 0 ≤ v ∧ v < 256 := by
  have h : j.toNat < l.length := by omega
  refine ⟨l[j.toNat], ?_, hl _ (List.getElem_mem h)⟩
  rw [List.getElem?_map, List.getElem?_eq_getElem h]; rfl
theorem altered_spec {hpf : Int → Hp} {tp : List Int} {k : Int} {a : Addr} {body : List UInt8} (F : AtF hpf a) (hk : 0 ≤ k) (hk2 : k < 1000) (ht : 0 < tp.length) (ht2 : tp.length ≤ 40) (hb : 0 < body.length) (hb2 : body.length ≤ 400000) :
    CallT false D 2 (.ref 292) [.list (tp.map .int), .val (.ref a), .bytes body] (hpf k) (fun x hp2 => ∃ b k', x = .bytes b ∧ b.length ≤ 1000000 ∧ k ≤ k' ∧ k' ≤ k + 100 ∧ hp2 = hpf k') := by
  refine CallT.enter' 1 ["tape", "at", "body"] ["way", "part", "starts", "i", "spot"] rfl rfl (by decide) (by decide) rfl (bind3 fun _ _ _ => rfl) rfl rfl ?_
  walk_at "enter"
  repeat walk_at "t"
  refine CallE_t (take_at F hk (by clear hk ht ht2 hb hb2; omega) (by decide) ht ht2) fun way w0 w1 => ?_
  repeat walk_at "s"
  refine dsplit (fun hlt => ?_) fun hlt => ?_
  · repeat walk_at "s"
    exact ⟨_, k + 1, rfl, by (clear hk hk2 ht ht2 hb w0 w1 hlt; omega), by (clear hk hk2 ht ht2 hb hb2 w0 w1 hlt; omega), by (clear hk hk2 ht ht2 hb hb2 w0 w1 hlt; omega), rfl⟩
  repeat walk_at "s"
  refine dsplit (fun h4 => ?_) fun h4 => ?_
  · repeat walk_at "s"
    refine EV_Comp ["tape", "at"] ?_ (by kernel_rfl) (by decide) (by decide) rfl rfl
    repeat walk_at "s"
    refine CallE_t (take_at F (by clear hk2 ht ht2 hb hb2 w0 w1 hlt h4; omega) (by clear hk ht ht2 hb hb2 w0 w1 hlt h4; omega) (by decide) ht ht2) fun n n0 n1 => ?_
    repeat walk_at "s"
    refine ⟨_, iter_range (by clear hk hk2 ht ht2 hb hb2 w0 w1 hlt h4 n0; omega) (by clear hk hk2 ht ht2 hb hb2 w0 w1 hlt h4 n1; omega), by rw [rng_len]; (clear hk hk2 ht ht2 hb hb2 w0 w1 hlt h4 n0; omega), _, capt2 (by walk_at "lk") (by walk_at "lk"), fun i acc hp1 => ∃ ns k', acc = ns.map AV.int ∧ (∀ x ∈ ns, 0 ≤ x ∧ x < 256) ∧ ns.length = i ∧ hp1 = hpf k' ∧ k + 2 ≤ k' ∧ k' ≤ k + 2 + (i : Int),
      ⟨[], k + 1 + 1, rfl, (fun _ h => nomatch h), rfl, rfl, by (clear hk hk2 ht ht2 hb hb2 w0 w1 hlt h4 n0 n1; omega), by (clear hk hk2 ht ht2 hb hb2 w0 w1 hlt h4 n0 n1; omega)⟩, ?_, ?_⟩
    · rintro i y acc hp1 hy ⟨ns, k', rfl, hns, hnl, rfl, kk, kk2⟩
      obtain ⟨hi, rfl⟩ := rng_get hy
      repeat walk_at "s"
      refine ⟨by decide, ?_⟩
      repeat walk_at "s"
      refine CallE_t (take_at F (by clear hk2 ht ht2 hb hb2 w0 w1 hlt h4 n0 n1 hnl kk2 hi; omega) (by clear hk ht ht2 hb hb2 w0 w1 hlt h4 n0 hnl kk; omega) (by decide) ht ht2) fun j j0 j1 => ?_
      obtain ⟨v, hv, v0, v1⟩ := pick_any (l := [0, 1, 255, 3, 31, 90, 254, 2]) (by decide) j0 j1
      refine xSub (sub_tup j0 (by clear hk hk2 ht ht2 hb hb2 w0 w1 hlt h4 n0 n1 hnl kk kk2 hi j0 v0 v1; omega) hv) ?_
      refine ⟨rfl, ns ++ [v], k' + 1, by simp, ?_, by simp [hnl], rfl, by (clear hk hk2 ht ht2 hb hb2 w0 w1 hlt h4 n0 n1 hnl kk2 hi j0 j1 v0 v1; omega), by (clear hk hk2 ht ht2 hb hb2 w0 w1 hlt h4 n0 n1 hnl kk hi j0 j1 v0 v1; omega)⟩
      intro x hx
      rcases List.mem_append.mp hx with hx | hx
      · exact hns x hx
      · cases List.mem_singleton.mp hx; exact ⟨v0, v1⟩
    rw [rng_len]
    rintro acc hp1 _ ⟨ns, k', rfl, hns, hnl, rfl, kk, kk2⟩
    repeat walk_at "s"
    refine CallE_v (bytes_ints hns (by rename_i zq1; clear hk hk2 ht ht2 hb hb2 w0 w1 hlt h4 n0 zq1 kk kk2; omega)) ?_
    have hpl : (toB ns).length = n.toNat := by simp [toB, hnl]
    generalize toB ns = part at *
    repeat walk_at "s"
    refine SV1_for ?_
    repeat walk_at "s"
    refine CallE_t (take_at F (by rename_i zq1; clear hk2 ht ht2 hb hb2 w0 w1 hlt h4 n0 n1 zq1 hnl kk2 hpl; omega) (by rename_i zq1; clear hk ht ht2 hb hb2 w0 w1 hlt h4 n0 zq1 hnl kk hpl; omega) (by decide) ht ht2) fun m m0 m1 => ?_
    repeat walk_at "s"
    refine ⟨_, iter_range (by rename_i zq1; clear hk hk2 ht ht2 hb hb2 w0 w1 hlt h4 n0 n1 zq1 hnl kk kk2 hpl m0; omega) (by rename_i zq1; clear hk hk2 ht ht2 hb hb2 w0 w1 hlt h4 n0 n1 zq1 hnl kk kk2 hpl m1; omega), fun i st => ∃ k2 b oa, st = ⟨[("tape", some (.list (tp.map .int))), ("at", some (.val (.ref a))), ("body", some (.bytes body)), ("way", some (.int way)), ("part", some (.bytes part)), ("starts", some (.bytes b)), ("i", oa), ("spot", none)], hpf k2⟩ ∧
      b.length = 4 * i ∧ k' + 1 ≤ k2 ∧ k2 ≤ k' + 1 + (i : Int), ⟨_, _, _, rfl, rfl, by (rename_i zq1; clear hk hk2 ht ht2 hb hb2 w0 w1 hlt h4 n0 n1 zq1 hnl kk kk2 hpl m0 m1; omega), by (rename_i zq1; clear hk hk2 ht ht2 hb hb2 w0 w1 hlt h4 n0 n1 zq1 hnl kk kk2 hpl m0 m1; omega)⟩, ?_, ?_⟩
    · rintro i y st2 hy ⟨k2, b, oa, rfl, hbl, kk3, kk4⟩
      obtain ⟨hi, rfl⟩ := rng_get hy
      repeat walk_at "s"
      refine CallE_t (take_at F (by rename_i zq1; clear hk2 ht ht2 hb hb2 w0 w1 hlt h4 n0 n1 zq1 hnl kk2 hpl m0 m1 hbl kk4 hi; omega) (by rename_i zq1; clear hk ht ht2 hb hb2 w0 w1 hlt h4 n0 zq1 hnl kk hpl m0 hbl kk3; omega) (by decide) ht ht2) fun v v0 v1 => ?_
      repeat walk_at "s"
      refine CallE_w (fix_spec v0) ?_
      refine binN_bytes (by rw [fix_len]; (rename_i zq1; clear hk hk2 ht ht2 hb hb2 w0 w1 hlt h4 n0 n1 zq1 hnl kk kk2 hpl m0 kk3 kk4 v0 v1; omega)) ?_
      repeat walk_at "s"
      exact ⟨_, _, _, rfl, by rw [List.length_append, fix_len]; (rename_i zq1; clear hk hk2 ht ht2 hb hb2 w0 w1 hlt h4 n0 n1 zq1 hnl kk kk2 hpl m0 m1 kk3 kk4 hi v0 v1; omega), by (rename_i zq1; clear hk hk2 ht ht2 hb hb2 w0 w1 hlt h4 n0 n1 zq1 hnl kk kk2 hpl m0 m1 hbl kk4 hi v0 v1; omega), by (rename_i zq1; clear hk hk2 ht ht2 hb hb2 w0 w1 hlt h4 n0 n1 zq1 hnl kk kk2 hpl m0 m1 hbl kk3 hi v0 v1; omega)⟩
    · rintro st2 ⟨k2, b, oa, rfl, hbl, kk3, kk4⟩
      rw [rng_len] at hbl kk4
      repeat walk_at "s"
      refine binN_bytes (by rename_i zq1; clear hk hk2 ht ht2 hb hb2 w0 w1 hlt h4 n0 zq1 hnl kk kk2 m0 kk3 kk4; omega) ?_
      repeat walk_at "s"
      refine CallE_t (take_at F (by rename_i zq1; clear hk2 ht ht2 hb hb2 w0 w1 hlt h4 n0 n1 zq1 hnl kk2 hpl m0 m1 hbl kk4; omega) (by rename_i zq1; clear hk ht ht2 hb hb2 w0 w1 hlt h4 n0 zq1 hnl kk hpl m0 hbl kk3; omega) (by decide) ht ht2) fun v v0 v1 => ?_
      repeat walk_at "s"
      refine CallE_w (fix_spec (by rename_i zq1; clear hk hk2 ht ht2 hb hb2 w0 w1 hlt h4 n0 n1 zq1 hnl kk kk2 hpl m0 m1 hbl kk3 kk4 v0 v1; omega)) ?_
      refine binN_bytes (by rw [List.length_append, fix_len]; (rename_i zq1; clear hk hk2 ht ht2 hb hb2 w0 w1 hlt h4 n0 zq1 hnl kk kk2 m0 kk3 kk4 v0 v1; omega)) ?_
      repeat walk_at "s"
      refine EV_List ?_
      repeat walk_at "s"
      refine CallE_t (take_at F (by rename_i zq1; clear hk2 ht ht2 hb hb2 w0 w1 hlt h4 n0 n1 zq1 hnl kk2 hpl m0 m1 hbl kk4 v0 v1; omega) (by rename_i zq1; clear hk ht ht2 hb hb2 w0 w1 hlt h4 n0 zq1 hnl kk hpl m0 hbl kk3 v0 v1; omega) (by decide) ht ht2) fun w x0 x1 => ?_
      repeat walk_at "s"
      refine ⟨by simp, ?_⟩
      repeat walk_at "s"
      refine CallE_v (bytes_ints (ns := [w]) (fun j hj => by cases List.mem_singleton.mp hj; (rename_i zq1; clear hk hk2 ht ht2 hb hb2 w0 w1 hlt h4 n0 n1 zq1 hnl kk kk2 hpl m0 m1 hbl kk3 kk4 v0 v1; omega)) (by simp)) ?_
      refine binN_bytes (by simp [toB, fix_len]; (rename_i zq1; clear hk hk2 ht ht2 hb hb2 w0 w1 hlt h4 n0 zq1 hnl kk kk2 m0 kk3 kk4 v0 v1 x0 x1; omega)) ?_
      exact ⟨_, _, rfl, by simp [toB, fix_len]; (rename_i zq1; clear hk hk2 ht ht2 hb hb2 w0 w1 hlt h4 n0 zq1 hnl kk kk2 m0 kk3 kk4 v0 v1 x0 x1; omega), by (rename_i zq1; clear hk hk2 ht ht2 hb hb2 w0 w1 hlt h4 n0 n1 zq1 hnl kk2 hpl m0 m1 hbl kk4 v0 v1 x0 x1; omega), by (rename_i zq1; clear hk hk2 ht ht2 hb hb2 w0 w1 hlt h4 n0 zq1 hnl kk hpl m0 hbl kk3 v0 v1 x0 x1; omega), rfl⟩
  repeat walk_at "s"
  refine CallE_t (take_at F (by clear hk2 ht ht2 hb hb2 w0 w1 hlt h4; omega) (by clear hk ht ht2 hb hb2 w0 w1 hlt h4; omega) (by decide) ht ht2) fun x x0 x1 => ?_
  repeat walk_at "t"
  have m0 := Int.emod_nonneg x (b := (body.length : Int)) (by clear hk hk2 ht ht2 hb2 w0 w1 hlt h4 x0 x1; omega)
  have m1 := Int.emod_lt_of_pos x (b := (body.length : Int)) (by clear hk hk2 ht ht2 hb2 w0 w1 hlt h4 x0 x1 m0; omega)
  generalize x % (body.length : Int) = spot at *
  refine SV1_mid (fun st => ∃ k2 sp : Int, st = ⟨[("tape", some (.list (tp.map .int))), ("at", some (.val (.ref a))), ("body", some (.bytes body)), ("way", some (.int way)), ("part", none), ("starts", none), ("i", none), ("spot", some (.int sp))], hpf k2⟩ ∧
    0 ≤ sp ∧ sp < body.length ∧ k + 2 ≤ k2 ∧ k2 ≤ k + 3) ?_ ?_
  · repeat walk_at "s"
    refine dsplit (fun h2 => ?_) fun h2 => ?_
    · repeat walk_at "s"
      refine CallE_t (take_at F (by clear hk2 ht ht2 hb hb2 w0 w1 hlt h4 x0 x1 m0 m1 h2; omega) (by clear hk ht ht2 hb hb2 w0 w1 hlt h4 x0 x1 m0 m1 h2; omega) (by decide) ht ht2) fun y y0 y1 => ?_
      repeat walk_at "s"
      refine dsplit (fun h3 => ?_) fun h3 => ?_
      · repeat walk_at "s"
        have q0 := Int.emod_nonneg (spot % 13) (b := (body.length : Int)) (by clear hk hk2 ht ht2 hb hb2 w0 w1 hlt h4 x0 x1 h2 y0 y1 h3; omega)
        have q1 := Int.emod_lt_of_pos (spot % 13) (b := (body.length : Int)) (by clear hk hk2 ht ht2 hb hb2 w0 w1 hlt h4 x0 x1 h2 y0 y1 h3 q0; omega)
        exact ⟨rfl, _, _, rfl, by (clear hk hk2 ht ht2 hb hb2 w0 w1 hlt h4 x0 x1 m0 m1 h2 y0 y1 h3 q0; omega), by (clear hk hk2 ht ht2 hb hb2 w0 w1 hlt h4 x0 x1 m0 m1 h2 y0 y1 h3 q1; omega), by (clear hk hk2 ht ht2 hb hb2 w0 w1 hlt h4 x0 x1 m0 m1 h2 y0 y1 h3 q0 q1; omega), by (clear hk hk2 ht ht2 hb hb2 w0 w1 hlt h4 x0 x1 m0 m1 h2 y0 y1 h3 q0 q1; omega)⟩
      · repeat walk_at "s"
        exact ⟨rfl, _, _, rfl, by with_reducible assumption, by with_reducible assumption, by (clear hk hk2 ht ht2 hb hb2 w0 w1 hlt h4 x0 x1 m0 m1 h2 y0 y1 h3; omega), by (clear hk hk2 ht ht2 hb hb2 w0 w1 hlt h4 x0 x1 m0 m1 h2 y0 y1 h3; omega)⟩
    · repeat walk_at "s"
      exact ⟨rfl, _, _, rfl, by with_reducible assumption, by with_reducible assumption, by (clear hk hk2 ht ht2 hb hb2 w0 w1 hlt h4 x0 x1 m0 m1 h2; omega), by (clear hk hk2 ht ht2 hb hb2 w0 w1 hlt h4 x0 x1 m0 m1 h2; omega)⟩
  rintro st1 ⟨k2, sp, rfl, s0, s1, kk, kk2⟩
  repeat walk_at "s"
  refine dsplit (fun h2 => ?_) fun h2 => ?_
  · repeat walk_at "s"
    refine xSl (sl_bytes (by clear hk hk2 ht ht2 hb w0 w1 hlt h4 x0 x1 m0 m1 s0 s1 kk kk2 h2; omega)) ?_
    repeat walk_at "s"
    refine EV_List ?_
    repeat walk_at "s"
    refine CallE_t (take_at F (by clear hk2 ht ht2 hb hb2 w0 w1 hlt h4 x0 x1 m0 m1 s0 s1 kk2 h2; omega) (by clear hk ht ht2 hb hb2 w0 w1 hlt h4 x0 x1 m0 m1 s0 s1 kk h2; omega) (by decide) ht ht2) fun y y0 y1 => ?_
    repeat walk_at "s"
    refine ⟨by simp, ?_⟩
    repeat walk_at "s"
    have ob := oct_range body sp.toNat
    have br := bitXor_range (k := 8) (a := ((body.getD sp.toNat 0).toNat : Int)) (b := 1 + y) (by clear hk hk2 ht ht2 hb hb2 w0 w1 hlt h4 x0 x1 m0 m1 s0 s1 kk kk2 h2 y0 y1 ob; omega) (by clear hk hk2 ht ht2 hb hb2 w0 w1 hlt h4 x0 x1 m0 m1 s0 s1 kk kk2 h2 y1 ob; omega) ob.2 (by clear hk hk2 ht ht2 hb hb2 w0 w1 hlt h4 x0 x1 m0 m1 s0 s1 kk kk2 h2 y0 ob; omega)
    have z1 := cut_len body none (some sp)
    have z2 := cut_len body (some (sp + 1)) none
    refine CallE_v (bytes_ints (ns := [Builtin.bitXor ((body.getD sp.toNat 0).toNat : Int) (1 + y)]) (fun j hj => by cases List.mem_singleton.mp hj; exact br) (by simp)) ?_
    refine binN_bytes (by simp [toB]; (clear hk hk2 ht ht2 hb w0 w1 hlt h4 x0 x1 m0 m1 s0 s1 kk kk2 h2 y0 y1 ob br z2; omega)) ?_
    repeat walk_at "s"
    refine xSl (sl_bytes (by clear hk hk2 ht ht2 hb w0 w1 hlt h4 x0 x1 m0 m1 s0 s1 kk kk2 h2 y0 y1 ob br z1 z2; omega)) ?_
    refine binN_bytes (by simp [toB]; (clear hk hk2 ht ht2 hb w0 w1 hlt h4 x0 x1 m0 m1 s0 s1 kk kk2 h2 y0 y1 ob br; omega)) ?_
    exact ⟨_, _, rfl, by simp [toB]; (clear hk hk2 ht ht2 hb w0 w1 hlt h4 x0 x1 m0 m1 s0 s1 kk kk2 h2 y0 y1 ob br; omega), by (clear hk hk2 ht ht2 hb hb2 w0 w1 hlt h4 x0 x1 m0 m1 s0 s1 kk2 h2 y0 y1 ob br z1 z2; omega), by (clear hk hk2 ht ht2 hb hb2 w0 w1 hlt h4 x0 x1 m0 m1 s0 s1 kk h2 y0 y1 ob br z1 z2; omega), rfl⟩
  · repeat walk_at "s"
    refine xSl (sl_bytes (by clear hk hk2 ht ht2 hb w0 w1 hlt h4 x0 x1 m0 m1 s0 s1 kk kk2 h2; omega)) ?_
    repeat walk_at "s"
    refine CallE_t (take_at F (by clear hk2 ht ht2 hb hb2 w0 w1 hlt h4 x0 x1 m0 m1 s0 s1 kk2 h2; omega) (by clear hk ht ht2 hb hb2 w0 w1 hlt h4 x0 x1 m0 m1 s0 s1 kk h2; omega) (by decide) ht ht2) fun y y0 y1 => ?_
    repeat walk_at "s"
    have z1 := cut_len body none (some sp)
    have z2 := cut_len body (some (sp + 1 + y)) none
    refine xSl (sl_bytes (by clear hk hk2 ht ht2 hb w0 w1 hlt h4 x0 x1 m0 m1 s0 s1 kk kk2 h2 y0 y1 z1 z2; omega)) ?_
    refine binN_bytes (by clear hk hk2 ht ht2 hb w0 w1 hlt h4 x0 x1 m0 m1 s0 s1 kk kk2 h2 y0 y1; omega) ?_
    exact ⟨_, _, rfl, by simp [toB]; (clear hk hk2 ht ht2 hb w0 w1 hlt h4 x0 x1 m0 m1 s0 s1 kk kk2 h2 y0 y1; omega), by (clear hk hk2 ht ht2 hb hb2 w0 w1 hlt h4 x0 x1 m0 m1 s0 s1 kk2 h2 y0 y1 z1 z2; omega), by (clear hk hk2 ht ht2 hb hb2 w0 w1 hlt h4 x0 x1 m0 m1 s0 s1 kk h2 y0 y1 z1 z2; omega), rfl⟩


/-! Bloom -/
noncomputable def bloomD (bits : Int) : AO := .dict [("bits", .int bits), ("probes", .int (probesOf bits))]
theorem bloom_init {d : Addr} {bits : Int} (h0 : 1 ≤ bits) (h1 : bits ≤ 1000) : CallT false D 1 (.ref 122) [.obj 139 d, .int bits] (hp ++ [(d, .dict [])]) (fun x hp' => x = .none ∧ ∃ d', AV.obj 139 d = .obj 139 d' ∧ hp' = hp ++ [(d', bloomD bits)]) := by
  refine CallT.enter' 0 ["self", "bits"] ["probes"] rfl rfl (by decide) (by decide) rfl (bind2 fun _ _ => rfl) rfl rfl ?_
  walk_at "enter"
  have pr := probes_range (bits := bits)
  repeat walk_at "s"
  refine xSetA (setA_own (has_of_snoc hp) (swap_of_snoc hp) (by kernel_rfl) (by kernel_rfl) (by kernel_rfl) (by kernel_rfl) (Nat.le_of_ble_eq_true rfl)) ?_
  repeat walk_at "t"
  refine SV1_md (⟨[("self", some (.obj 139 d)), ("bits", some (.int bits)), ("probes", some (.int (max 1 (bits * 69 / 100))))], hp ++ [(d, .dict (putF "bits" (.int bits) []))]⟩) ?_ ?_
  · repeat walk_at "s"
    refine dsplit (fun hlt => ?_) fun hlt => ?_
    · repeat walk_at "s"
      refine ⟨rfl, ?_⟩
      rw [show max 1 (bits * 69 / 100) = 1 by (clear h0 h1 pr; omega)]
    · repeat walk_at "s"
      refine ⟨rfl, ?_⟩
      rw [show max 1 (bits * 69 / 100) = bits * 69 / 100 by (clear h0 h1 pr; omega)]
  repeat walk_at "t"
  refine SV1_md (⟨[("self", some (.obj 139 d)), ("bits", some (.int bits)), ("probes", some (.int (probesOf bits)))], hp ++ [(d, .dict (putF "bits" (.int bits) []))]⟩) ?_ ?_
  · repeat walk_at "s"
    refine dsplit (fun hlt => ?_) fun hlt => ?_
    · repeat walk_at "s"
      refine ⟨rfl, ?_⟩
      rw [show ((probesOf bits : Nat) : Int) = 30 by (clear h0 h1; omega)]
    · repeat walk_at "s"
      refine ⟨rfl, ?_⟩
      rw [show ((probesOf bits : Nat) : Int) = max 1 (bits * 69 / 100) by (clear h0 h1; omega)]
  repeat walk_at "s"
  refine xSetA (setA_own (has_of_snoc hp) (swap_of_snoc hp) (by kernel_rfl) (by kernel_rfl) (by kernel_rfl) (by kernel_rfl) (Nat.le_of_ble_eq_true rfl)) ?_
  repeat walk_at "s"
  exact ⟨trivial, d, rfl, rfl⟩
theorem bloom_new {bits : Int} (h0 : 1 ≤ bits) (h1 : bits ≤ 1000) : CallT false D 2 (.ref 139) [.int bits] hp (fun x hp' => ∃ d, x = .obj 139 d ∧ hp' = hp ++ [(d, bloomD bits)]) :=
  make_T (f := 122) (by kernel_rfl) (by kernel_rfl) (by kernel_rfl) (by decide : 1 < 2) fun d => bloom_init h0 h1
theorem bloom_initX {d : Addr} {bits : Int} (h0 : bits < 1) : CallX false D 1 (.ref 122) [.obj 139 d, .int bits] (hp ++ [(d, .dict [])]) 73 (fun hp' => ∃ r, hp' = hp ++ r) := by
  refine CallX.enter 0 ["self", "bits"] ["probes"] rfl rfl (by decide) (by decide) rfl (bind2 fun _ _ => rfl) rfl rfl ?_
  walk_at "enter"
  refine SVX_head (SV1X_if ?_)
  repeat walk_at "s"
  exact SVX_head (SV1X_raise rfl (by decide) (by kernel_rfl) exc_bad rfl ⟨_, rfl⟩)
theorem bloom_newX {bits : Int} (h0 : bits < 1) : CallX false D 2 (.ref 139) [.int bits] hp 73 (fun hp' => hp' = hp) :=
  make_TX (f := 122) (by kernel_rfl) (by kernel_rfl) (by kernel_rfl) (by decide : 1 < 2) fun d => bloom_initX h0
theorem atr_bits {d : Addr} {bits : Int} (h : Has hp d (bloomD bits)) : Atr D hp (.obj 139 d) "bits" (.int bits) :=
  atr_own (attr := none) h .head (by kernel_rfl) (by kernel_rfl) (by kernel_rfl) (by kernel_rfl) (fun _ e => nomatch e)
theorem atr_probes {d : Addr} {bits : Int} (h : Has hp d (bloomD bits)) : Atr D hp (.obj 139 d) "probes" (.int (probesOf bits)) :=
  atr_own (attr := none) h (.tail rfl .head) (by kernel_rfl) (by kernel_rfl) (by kernel_rfl) (by kernel_rfl) (fun _ e => nomatch e)
theorem bloom_getM {d : Addr} {bits : Int} (h : Has hp d (bloomD bits)) : GetM D hp (.obj 139 d) "make" (.ref 129) := getM_own h rfl (by kernel_rfl) (by kernel_rfl) (by kernel_rfl)
theorem bloom_getM2 {d : Addr} {bits : Int} (h : Has hp d (bloomD bits)) : GetM D hp (.obj 139 d) "may_have" (.ref 136) := getM_own h rfl (by kernel_rfl) (by kernel_rfl) (by kernel_rfl)


/-! Bloom.make -/
noncomputable def outL (f : Nat → Bool) (room : Nat) : List UInt8 := (List.range room).map fun i => (octF f i).toUInt8
theorem out_none (n : Nat) : List.replicate n (0 : UInt8) = outL (on []) n := by
  unfold outL
  refine List.ext_getElem (by simp) fun i h1 h2 => ?_
  simp [octF, oct8, on]
theorem out_len {f : Nat → Bool} {n : Nat} : (outL f n).length = n := by simp [outL]
theorem out_at {f : Nat → Bool} {n i : Nat} (h : i < n) : (((outL f n).getD i 0).toNat : Nat) = octF f i := by
  unfold outL
  rw [List.getD_eq_getElem?_getD, List.getElem?_map, List.getElem?_range h]
  show ((octF f i).toUInt8).toNat = _
  have := octF_lt f i
  rw [Nat.toUInt8_eq, UInt8.toNat_ofNat']
  (clear h; omega)
theorem oct8_or : ∀ (b0 b1 b2 b3 b4 b5 b6 b7 : Bool), (oct8 b0 b1 b2 b3 b4 b5 b6 b7 ||| 2 ^ 0 = oct8 true b1 b2 b3 b4 b5 b6 b7) ∧ (oct8 b0 b1 b2 b3 b4 b5 b6 b7 ||| 2 ^ 1 = oct8 b0 true b2 b3 b4 b5 b6 b7) ∧
    (oct8 b0 b1 b2 b3 b4 b5 b6 b7 ||| 2 ^ 2 = oct8 b0 b1 true b3 b4 b5 b6 b7) ∧ (oct8 b0 b1 b2 b3 b4 b5 b6 b7 ||| 2 ^ 3 = oct8 b0 b1 b2 true b4 b5 b6 b7) ∧ (oct8 b0 b1 b2 b3 b4 b5 b6 b7 ||| 2 ^ 4 = oct8 b0 b1 b2 b3 true b5 b6 b7) ∧
    (oct8 b0 b1 b2 b3 b4 b5 b6 b7 ||| 2 ^ 5 = oct8 b0 b1 b2 b3 b4 true b6 b7) ∧ (oct8 b0 b1 b2 b3 b4 b5 b6 b7 ||| 2 ^ 6 = oct8 b0 b1 b2 b3 b4 b5 true b7) ∧ (oct8 b0 b1 b2 b3 b4 b5 b6 b7 ||| 2 ^ 7 = oct8 b0 b1 b2 b3 b4 b5 b6 true) := by decide +kernel
theorem oct8_eq {a0 a1 a2 a3 a4 a5 a6 a7 b0 b1 b2 b3 b4 b5 b6 b7 : Bool} (h0 : b0 = a0) (h1 : b1 = a1) (h2 : b2 = a2) (h3 : b3 = a3) (h4 : b4 = a4) (h5 : b5 = a5) (h6 : b6 = a6) (h7 : b7 = a7) : oct8 a0 a1 a2 a3 a4 a5 a6 a7 = oct8 b0 b1 b2 b3 b4 b5 b6 b7 := by
  subst h0 h1 h2 h3 h4 h5 h6 h7; rfl
theorem octF_or {f f' : Nat → Bool} {i j : Nat} (hj : j < 8) (h1 : f' (8 * i + j) = true) (h2 : ∀ k, k < 8 → k ≠ j → f' (8 * i + k) = f (8 * i + k)) : octF f i ||| 2 ^ j = octF f' i := by
  have q := oct8_or (f (8 * i)) (f (8 * i + 1)) (f (8 * i + 2)) (f (8 * i + 3)) (f (8 * i + 4)) (f (8 * i + 5)) (f (8 * i + 6)) (f (8 * i + 7))
  obtain ⟨q0, q1, q2, q3, q4, q5, q6, q7⟩ := q
  have g : ∀ k, k < 8 → k ≠ j → f' (8 * i + k) = f (8 * i + k) := h2
  clear h2
  have : j = 0 ∨ j = 1 ∨ j = 2 ∨ j = 3 ∨ j = 4 ∨ j = 5 ∨ j = 6 ∨ j = 7 := by (clear q0 q1 q2 q3 q4 q5 q6 q7; omega)
  clear hj
  rcases this with rfl | rfl | rfl | rfl | rfl | rfl | rfl | rfl
  · exact q0.trans (oct8_eq h1 (g 1 (by decide) (by decide)) (g 2 (by decide) (by decide)) (g 3 (by decide) (by decide)) (g 4 (by decide) (by decide)) (g 5 (by decide) (by decide)) (g 6 (by decide) (by decide)) (g 7 (by decide) (by decide)))
  · exact q1.trans (oct8_eq (g 0 (by decide) (by decide)) h1 (g 2 (by decide) (by decide)) (g 3 (by decide) (by decide)) (g 4 (by decide) (by decide)) (g 5 (by decide) (by decide)) (g 6 (by decide) (by decide)) (g 7 (by decide) (by decide)))
  · exact q2.trans (oct8_eq (g 0 (by decide) (by decide)) (g 1 (by decide) (by decide)) h1 (g 3 (by decide) (by decide)) (g 4 (by decide) (by decide)) (g 5 (by decide) (by decide)) (g 6 (by decide) (by decide)) (g 7 (by decide) (by decide)))
  · exact q3.trans (oct8_eq (g 0 (by decide) (by decide)) (g 1 (by decide) (by decide)) (g 2 (by decide) (by decide)) h1 (g 4 (by decide) (by decide)) (g 5 (by decide) (by decide)) (g 6 (by decide) (by decide)) (g 7 (by decide) (by decide)))
  · exact q4.trans (oct8_eq (g 0 (by decide) (by decide)) (g 1 (by decide) (by decide)) (g 2 (by decide) (by decide)) (g 3 (by decide) (by decide)) h1 (g 5 (by decide) (by decide)) (g 6 (by decide) (by decide)) (g 7 (by decide) (by decide)))
  · exact q5.trans (oct8_eq (g 0 (by decide) (by decide)) (g 1 (by decide) (by decide)) (g 2 (by decide) (by decide)) (g 3 (by decide) (by decide)) (g 4 (by decide) (by decide)) h1 (g 6 (by decide) (by decide)) (g 7 (by decide) (by decide)))
  · exact q6.trans (oct8_eq (g 0 (by decide) (by decide)) (g 1 (by decide) (by decide)) (g 2 (by decide) (by decide)) (g 3 (by decide) (by decide)) (g 4 (by decide) (by decide)) (g 5 (by decide) (by decide)) h1 (g 7 (by decide) (by decide)))
  · exact q7.trans (oct8_eq (g 0 (by decide) (by decide)) (g 1 (by decide) (by decide)) (g 2 (by decide) (by decide)) (g 3 (by decide) (by decide)) (g 4 (by decide) (by decide)) (g 5 (by decide) (by decide)) (g 6 (by decide) (by decide)) h1)
theorem octF_same {f f' : Nat → Bool} {i : Nat} (h : ∀ j, j < 8 → f' (8 * i + j) = f (8 * i + j)) : octF f' i = octF f i := by
  unfold octF
  rw [show f' (8 * i) = f (8 * i) from h 0 (by decide), h 1 (by decide), h 2 (by decide), h 3 (by decide), h 4 (by decide), h 5 (by decide), h 6 (by decide), h 7 (by decide)]
theorem on_snoc {S : List Int} {x : Int} (p : Nat) : on (S ++ [x]) p = (on S p || decide ((p : Int) = x)) := by
  unfold on
  simp only [List.mem_append, List.mem_singleton, Bool.decide_or]
theorem out_set {S : List Int} {room i j : Nat} (hj : j < 8) (hi : i < room) : (outL (on S) room).set i (octF (on S) i ||| 2 ^ j).toUInt8 = outL (on (S ++ [((8 * i + j : Nat) : Int)])) room ∧ (octF (on S) i ||| 2 ^ j) < 256 := by
  have e := octF_or (f := on S) (f' := on (S ++ [((8 * i + j : Nat) : Int)])) (i := i) hj (by rw [on_snoc]; simp) (fun k hk hne => by rw [on_snoc, decide_eq_false (by clear hj hi hk; omega), Bool.or_false])
  rw [e]
  refine ⟨?_, octF_lt _ _⟩
  unfold outL
  refine List.ext_getElem (by simp) fun k h1 h2 => ?_
  rw [List.getElem_set]
  simp only [List.getElem_map, List.getElem_range]
  split
  · rename_i q; rw [q]
  · rename_i q
    rw [octF_same (f := on S) (f' := on (S ++ [((8 * i + j : Nat) : Int)])) (i := k) fun l hl => by rw [on_snoc, decide_eq_false (by clear hi e h1 h2; omega), Bool.or_false]]
theorem rot_eq {h : Int} (h0 : 0 ≤ h) (h1 : h < 4294967296) : (h / 131072 + h * 32768) % 4294967296 = rot h ∧ 0 ≤ rot h ∧ rot h < 4294967296 := by
  unfold rot; omega
theorem lamp_place {h wide : Int} (i : Nat) : (h + (i : Int) * rot h) % 4294967296 % wide = lamp h wide i := rfl
theorem lamp_next {h r : Int} (i : Nat) : ((h + (i : Int) * r) % 4294967296 + r) % 4294967296 = (h + ((i + 1 : Nat) : Int) * r) % 4294967296 := by
  have : ((i + 1 : Nat) : Int) * r = (i : Int) * r + r := by
    rw [show ((i + 1 : Nat) : Int) = (i : Int) + 1 by omega, Int.add_mul, Int.one_mul]
  rw [this]
  generalize (i : Int) * r = y
  (clear this; omega)
theorem has_app {hp r : Hp} {d : Addr} {o : AO} (h : Has hp d o) : Has (hp ++ r) d o := by
  induction h with
  | head => exact .head
  | tail _ ih => exact .tail ih
theorem make_spec0 {d : Addr} {keys : List (List UInt8)} {bits : Int} (hd : Has hp d (bloomD bits)) (hk : ∀ k ∈ keys, k.length ≤ 1000000) (hn : keys.length ≤ 1000) (b0 : 0 ≤ bits) (b1 : bits ≤ 1000) :
    CallT true D 3 (.ref 129) [.obj 139 d, .list (keys.map .bytes)] hp (fun x hp' => x = .bytes (oneL keys bits) ∧ ∃ a o, hp' = hp ++ [(a, o)]) := by
  refine CallT.enter' 2 ["self", "keys"] ["wanted", "length", "wide", "out", "key", "h", "delta", "probe", "place"] rfl rfl (by decide) (by decide) rfl (bind2 fun _ _ => rfl) rfl rfl ?_
  walk_at "enter"
  have rr := room_range b0 b1 hn
  have pr := probes_range (bits := bits)
  have hlen : ((keys.map AV.bytes).length : Int) = keys.length := by simp
  repeat walk_at "t"
  refine CallE_v (len_list (by simp; (clear b0 b1 rr pr hlen; omega))) ?_
  rw [hlen]
  repeat walk_at "t"
  refine xAtr (atr_bits hd) ?_
  repeat walk_at "t"
  refine SV1_md (⟨[("self", some (.obj 139 d)), ("keys", some (.list (keys.map .bytes))), ("wanted", some (.int (max 64 ((keys.length : Int) * bits)))), ("length", none), ("wide", none), ("out", none), ("key", none), ("h", none), ("delta", none), ("probe", none), ("place", none)], hp⟩) ?_ ?_
  · repeat walk_at "s"
    refine dsplit (fun hlt => ?_) fun hlt => ?_
    · repeat walk_at "s"
      refine ⟨rfl, ?_⟩
      rw [show max 64 ((keys.length : Int) * bits) = 64 by (clear hn b0 b1 rr pr hlen; omega)]
    · repeat walk_at "s"
      refine ⟨rfl, ?_⟩
      rw [show max 64 ((keys.length : Int) * bits) = (keys.length : Int) * bits by (clear hn b0 b1 rr pr hlen; omega)]
  repeat walk_at "t"
  rw [← rr.2.2]
  generalize hR : roomOf keys.length bits = room at *
  generalize hPr : probesOf bits = pb at *
  refine CallE_c (call_baN (n := 0) (P := fun x hp' => ∃ a, x = .val (.ref a) ∧ hp' = hp ++ [(a, .bytearray (outL (on []) room))]) (by clear hn b0 b1 hlen hR hPr pr; omega) (by clear hn b0 b1 hlen hR hPr pr; omega) fun a => ?_) ?_
  · rw [Int.toNat_natCast, out_none]
    exact ⟨a, rfl, rfl⟩
  rintro _ _ ⟨a, rfl, rfl⟩
  repeat walk_at "t"
  refine SV1_for ?_
  repeat walk_at "t"
  have e2 : (room : Int) * 8 = ((8 * room : Nat) : Int) := by (clear hn b0 b1 hlen hR rr hPr pr; omega)
  rw [e2]
  have hd' : ∀ o, Has (hp ++ [(a, o)]) d (bloomD bits) := fun o => has_app hd
  refine ⟨_, Iter.list, fun i st => ∃ (o1 o2 o3 o4 o5 : Option AV), st = ⟨[("self", some (.obj 139 d)), ("keys", some (.list (keys.map .bytes))), ("wanted", some (.int (max 64 ((keys.length : Int) * bits)))), ("length", some (.int room)), ("wide", some (.int ((8 * room : Nat) : Int))), ("out", some (.val (.ref a))), ("key", o1), ("h", o2), ("delta", o3), ("probe", o4), ("place", o5)],
    hp ++ [(a, .bytearray (outL (on (allLamps (keys.take i) pb ((8 * room : Nat) : Int))) room))]⟩, ⟨_, _, _, _, _, rfl⟩, ?_, ?_⟩
  · rintro i y st2 hy ⟨o1, o2, o3, o4, o5, rfl⟩
    rw [List.getElem?_map] at hy
    obtain ⟨key, hkey, rfl⟩ := Option.map_eq_some_iff.mp hy
    obtain ⟨hi, hke⟩ := List.getElem?_eq_some_iff.mp hkey
    have hkm : key ∈ keys := hke ▸ List.getElem_mem hi
    have hr := hash_range key
    have hrot := rot_eq hr.1 hr.2
    have lsz : (lamps key pb ((8 * room : Nat) : Int)).length = pb := by simp [lamps]
    have lat : ∀ j, j < pb → (lamps key pb ((8 * room : Nat) : Int))[j]? = some (lamp (hash key) ((8 * room : Nat) : Int) j) := fun j hj => by
      unfold lamps; rw [List.getElem?_map, List.getElem?_range hj]; rfl
    repeat walk_at "t"
    refine CallE_w (hash_spec (hk key hkm)) ?_
    repeat walk_at "t"
    refine bin_shl (by decide) (by decide) (by clear hn b0 b1 hlen hR rr hPr pr e2 hrot lsz; omega) ?_
    refine bin_orAdd 15 (hash key) (by show (0:Int) ≤ hash key / 131072; (clear hn b0 b1 hlen hR rr hPr pr e2 hrot lsz; omega)) (by show hash key / 131072 < 32768; (clear hn b0 b1 hlen hR rr hPr pr e2 hrot lsz; omega)) hr.1 rfl ?_
    repeat walk_at "t"
    refine bin_mask 32 (by show (0:Int) ≤ hash key / 131072 + hash key * 32768; (clear hn b0 b1 hlen hR rr hPr pr e2 hrot lsz; omega)) (by decide) ?_
    rw [show (hash key / 2 ^ Int.toNat 17 + hash key * 2 ^ 15) % 2 ^ 32 = rot (hash key) from hrot.1]
    repeat walk_at "t"
    refine SV1_for ?_
    repeat walk_at "t"
    refine xAtr (atr_probes (hd' _)) ?_
    rw [hPr]
    repeat walk_at "t"
    refine ⟨_, iter_range (by clear hn b0 b1 hlen hR rr hPr e2 hr hrot lsz; omega) (by clear hn b0 b1 hlen hR rr hPr pr e2 hr hrot lsz; omega), fun j st => ∃ (o4 o5 : Option AV), st = ⟨[("self", some (.obj 139 d)), ("keys", some (.list (keys.map .bytes))), ("wanted", some (.int (max 64 ((keys.length : Int) * bits)))), ("length", some (.int room)), ("wide", some (.int ((8 * room : Nat) : Int))), ("out", some (.val (.ref a))), ("key", some (.bytes key)), ("h", some (.int ((hash key + (j : Int) * rot (hash key)) % 4294967296))), ("delta", some (.int (rot (hash key)))), ("probe", o4), ("place", o5)],
      hp ++ [(a, .bytearray (outL (on (allLamps (keys.take i) pb ((8 * room : Nat) : Int) ++ (lamps key pb ((8 * room : Nat) : Int)).take j)) room))]⟩, ⟨o4, o5, ?_⟩, ?_, ?_⟩
    · rw [show (hash key + ((0 : Nat) : Int) * rot (hash key)) % 4294967296 = hash key by (clear hn b0 b1 hlen hR rr hPr pr e2 hrot lsz; omega), List.take_zero, List.append_nil]
    · rintro j y st3 hy ⟨o4', o5', rfl⟩
      obtain ⟨hj, rfl⟩ := rng_get hy
      have hj' : j < pb := by (clear hn b0 b1 hlen hR rr hPr pr e2 hr hrot lsz; omega)
      have lj := lat j hj'
      repeat walk_at "t"
      rw [lamp_place]
      have lr : 0 ≤ lamp (hash key) ((8 * room : Nat) : Int) j ∧ lamp (hash key) ((8 * room : Nat) : Int) j < ((8 * room : Nat) : Int) := ⟨Int.emod_nonneg _ (by clear hn b0 b1 hlen hR hPr pr e2 hr hrot lsz hj hj'; omega), Int.emod_lt_of_pos _ (by clear hn b0 b1 hlen hR hPr pr e2 hr hrot lsz hj hj'; omega)⟩
      obtain ⟨x, hx⟩ := Int.eq_ofNat_of_zero_le lr.1
      rw [hx] at lj lr ⊢
      repeat walk_at "t"
      have x8 : (x : Int) / 8 = ((x / 8 : Nat) : Int) := by (clear hn b0 b1 hlen hR rr hPr pr e2 hr hrot lsz hj hj' lr hx; omega)
      have m8 : (x : Int) % 8 = ((x % 8 : Nat) : Int) := by (clear hn b0 b1 hlen hR rr hPr pr e2 hr hrot lsz hj hj' lr hx x8; omega)
      rw [x8]
      refine xSub (sub_ba (has_of_snoc hp) (by clear hn b0 b1 hlen hR rr hPr pr e2 hr hrot lsz hj hj' lr hx x8 m8; omega) (by clear hn b0 b1 hlen hR hPr pr e2 hr hrot lsz hj hj' hx x8 m8; omega) (by rw [out_len]; (clear hn b0 b1 hlen hR rr hPr pr e2 hr hrot lsz hj hj' hx x8 m8; omega))) ?_
      repeat walk_at "t"
      rw [m8]
      refine bin_shl (by clear hn b0 b1 hlen hR rr hPr pr e2 hr hrot lsz hj hj' lr hx x8 m8; omega) (by clear hn b0 b1 hlen hR rr hPr pr e2 hr hrot lsz hj hj' lr hx x8 m8; omega) (by decide) ?_
      have hT' : ((allLamps (keys.take i) pb ((8 * room : Nat) : Int) ++ (lamps key pb ((8 * room : Nat) : Int)).take j) ++ [(x : Int)]) = allLamps (keys.take i) pb ((8 * room : Nat) : Int) ++ (lamps key pb ((8 * room : Nat) : Int)).take (j + 1) := by
        rw [List.append_assoc, List.take_add_one, lj]; rfl
      generalize hT : (allLamps (keys.take i) pb ((8 * room : Nat) : Int) ++ (lamps key pb ((8 * room : Nat) : Int)).take j) = T at *
      have os := out_set (S := T) (room := room) (i := x / 8) (j := x % 8) (by clear hn b0 b1 hlen hR rr hPr pr e2 hr hrot lsz hj hj' lr hx x8 m8; omega) (by clear hn b0 b1 hlen hR rr hPr pr e2 hr hrot lsz hj hj' hx x8 m8; omega)
      rw [show 8 * (x / 8) + x % 8 = x by (clear hn b0 b1 hlen hR rr hPr pr e2 hr hrot lsz hj hj' lr hx x8 m8 os; omega), hT'] at os
      rw [Int.toNat_natCast (x / 8), out_at (by clear hn b0 b1 hlen hR rr hPr pr e2 hr hrot lsz hj hj' hx x8 m8 os; omega), Int.toNat_natCast (x % 8), show (1 : Int) * 2 ^ (x % 8) = ((2 ^ (x % 8) : Nat) : Int) by simp]
      refine bin_or (Int.natCast_nonneg _) (Int.natCast_nonneg _) ?_
      rw [Int.toNat_natCast, Int.toNat_natCast]
      repeat walk_at "t"
      rw [x8]
      refine xSetI (setI_ba (has_of_snoc hp) (by clear hn b0 b1 hlen hR rr hPr pr e2 hr hrot lsz hj hj' lr hx x8 m8 os; omega) (by clear hn b0 b1 hlen hR hPr pr e2 hr hrot lsz hj hj' hx x8 m8 os; omega) (by rw [out_len]; (clear hn b0 b1 hlen hR rr hPr pr e2 hr hrot lsz hj hj' hx x8 m8 os; omega)) (by clear hn b0 b1 hlen hR rr hPr pr e2 hr hrot lsz hj hj' lr hx x8 m8 os; omega) (by clear hn b0 b1 hlen hR rr hPr pr e2 hr hrot lsz hj hj' lr hx x8 m8; omega) (by rw [out_len]; (clear hn b0 b1 hlen hR hPr pr e2 hr hrot lsz hj hj' lr hx x8 m8 os; omega)) (swap_of_snoc hp)) ?_
      rw [Int.toNat_natCast (x / 8), Int.toNat_natCast (octF (on T) (x / 8) ||| 2 ^ (x % 8)), os.1]
      repeat walk_at "t"
      have nn := Int.emod_nonneg (hash key + (j : Int) * rot (hash key)) (b := 4294967296) (by decide)
      refine bin_mask 32 (by clear hn b0 b1 hlen hR rr hPr pr e2 hr lsz hj hj' lr hx x8 m8 os nn; omega) (by decide) ?_
      rw [show ((hash key + (j : Int) * rot (hash key)) % 4294967296 + rot (hash key)) % 2 ^ 32 = _ from lamp_next j]
      repeat walk_at "t"
      exact ⟨_, _, rfl⟩
    · rintro st3 ⟨o4', o5', rfl⟩
      refine SV_nil ?_
      have tk : (lamps key pb ((8 * room : Nat) : Int)).take pb = lamps key pb ((8 * room : Nat) : Int) := List.take_of_length_le (by clear hn b0 b1 hlen hR rr hPr pr e2 hr hrot; omega)
      rw [rng_len, Int.toNat_natCast, tk]
      have : allLamps (keys.take (i + 1)) pb ((8 * room : Nat) : Int) = allLamps (keys.take i) pb ((8 * room : Nat) : Int) ++ lamps key pb ((8 * room : Nat) : Int) := by
        unfold allLamps
        rw [List.take_add_one, List.flatMap_append, hkey]
        simp
      rw [← this]
      exact ⟨_, _, _, _, _, rfl⟩
  · rintro st2 ⟨o1, o2, o3, o4, o5, rfl⟩
    rw [List.length_map, List.take_length]
    generalize hF : on (allLamps keys pb ((8 * room : Nat) : Int)) = f at *
    repeat walk_at "t"
    refine xGetM (getM_ba_append (has_of_snoc hp)) keepOk_builtin ?_
    repeat walk_at "t"
    refine xAtr (atr_probes (hd' _)) ?_
    rw [hPr]
    repeat walk_at "t"
    refine CallE_e (call_ba_append (n := 0) (has_of_snoc hp) (by clear hn b0 b1 hlen hR rr hPr pr e2; omega) (by clear hn b0 b1 hlen hR rr hPr e2; omega) (by rw [out_len]; (clear hn b0 b1 hlen hR hPr pr e2; omega)) (swap_of_snoc hp)) ?_
    repeat walk_at "t"
    refine CallE_v (bytes_ba (has_of_snoc hp) (by rw [List.length_append, out_len]; simp; (clear hn b0 b1 hlen hR hPr pr e2; omega))) ?_
    refine ⟨?_, a, _, rfl⟩
    unfold oneL filt outL
    rw [hR, hPr, hF]
    simp

theorem CallT.drop {K : Frag} {D : Wd K} {cl : Bool} {n : Nat} {f : Value} {xs : List AV} {hp : Hp} {P P' : AV → Hp → Prop} (h : CallT cl D n f xs hp P) (hd : ∀ x hp1, P x hp1 → ∃ a o hp2, Drop hp1 a o hp2 ∧ P' x hp2) : CallT cl D n f xs hp P' := by
  intro A U Z s vs G H r Q E k
  refine h A U Z s vs G H r Q E fun v x Z' hp1 s' p C rv => ?_
  obtain ⟨a, o, hp2, d, p'⟩ := hd x hp1 p
  have hm := (C.hr.drop d).1
  obtain ⟨pre, post, e1, e2⟩ := d.split
  refine k v x Z' hp2 s' p' (C.sub (fun q hq => ?_) hm.nodup) rv
  rw [e2] at hq
  rw [e1]
  rcases List.mem_append.mp hq with hq | hq
  · exact List.mem_append_left _ hq
  · exact List.mem_append_right _ (.tail _ hq)
theorem make_spec {d : Addr} {keys : List (List UInt8)} {bits : Int} (hd : Has hp d (bloomD bits)) (hk : ∀ k ∈ keys, k.length ≤ 1000000) (hn : keys.length ≤ 1000) (b0 : 0 ≤ bits) (b1 : bits ≤ 1000) :
    CallT true D 3 (.ref 129) [.obj 139 d, .list (keys.map .bytes)] hp (fun x hp' => x = .bytes (oneL keys bits) ∧ hp' = hp) :=
  (make_spec0 hd hk hn b0 b1).drop fun x hp1 ⟨e, a, o, e2⟩ => ⟨a, o, hp, e2 ▸ drop_of_snoc hp, e, rfl⟩


/-! Bloom.may_have -/
theorem and_bit {v j : Nat} (hv : v < 256) (hj : j < 8) : decide (((v &&& 2 ^ j : Nat) : Int) = 0) = decide ((v : Int) / 2 ^ j % 2 = 0) := by
  have : ∀ j : Fin 8, ∀ v : Fin 256, decide (((v.val &&& 2 ^ j.val : Nat) : Int) = 0) = decide ((v.val : Int) / 2 ^ j.val % 2 = 0) := by decide +kernel
  exact this ⟨j, hj⟩ ⟨v, hv⟩
theorem may_spec {d : Addr} {part key : List UInt8} (hp1 : part.length ≤ 1000000) (hk : key.length ≤ 1000000) : CallV false D 3 (.ref 136) [.obj 139 d, .bytes key, .bytes part] hp (.bool (litB part key)) := by
  refine CallT.enter' 2 ["self", "key", "held"] ["probes", "wide", "h", "delta", "probe", "place"] rfl rfl (by decide) (by decide) rfl (bind3 fun _ _ _ => rfl) rfl rfl ?_
  walk_at "enter"
  repeat walk_at "s"
  refine dsplit (fun hlt => ?_) fun hlt => ?_
  · have : litB part key = false := by unfold litB; rw [if_pos (by clear hp1 hk; omega)]
    rw [this]
    repeat walk_at "s"
    exact ⟨rfl, rfl⟩
  have e1 : ((part.length : Int) - 1).toNat = part.length - 1 := by (clear hp1 hk hlt; omega)
  repeat walk_at "s"
  rw [e1]
  have lo := oct_range part (part.length - 1)
  have lo' : oct part (part.length - 1) = lastO part := rfl
  rw [lo'] at lo
  have lo'' : ((part.getD (part.length - 1) 0).toNat : Int) = lastO part := rfl
  rw [lo'']
  refine dsplit (fun hlt2 => ?_) fun hlt2 => ?_
  · have : litB part key = true := by unfold litB; rw [if_neg (by clear hp1 hk e1 lo lo' lo'' hlt2; omega), if_pos hlt2]
    rw [this]
    repeat walk_at "s"
    exact ⟨rfl, rfl⟩
  have hL : litB part key = (lamps key (lastO part).toNat ((8 * (part.length - 1) : Nat) : Int)).all (bitAt part) := by unfold litB; rw [if_neg (by clear hp1 hk e1 lo lo' lo'' hlt2; omega), if_neg hlt2]
  have e2 : ((part.length : Int) - 1) * 8 = ((8 * (part.length - 1) : Nat) : Int) := by (clear hp1 hk e1 lo lo' lo'' hlt2; omega)
  have hr := hash_range key
  have hrot := rot_eq hr.1 hr.2
  generalize hpb : lastO part = pb at *
  repeat walk_at "s"
  rw [e2]
  refine CallE_w (hash_spec hk) ?_
  generalize hW : 8 * (part.length - 1) = wide at *
  repeat walk_at "s"
  refine bin_shl (by decide) (by decide) (by clear hp1 hk hlt e1 hrot hpb lo lo' lo'' hlt2 hW e2; omega) ?_
  refine bin_orAdd 15 (hash key) (by show (0:Int) ≤ hash key / 131072; (clear hp1 hk hlt e1 hrot hpb lo lo' lo'' hlt2 hW e2; omega)) (by show hash key / 131072 < 32768; (clear hp1 hk hlt e1 hrot hpb lo lo' lo'' hlt2 hW e2; omega)) hr.1 rfl ?_
  repeat walk_at "s"
  refine bin_mask 32 (by show (0:Int) ≤ hash key / 131072 + hash key * 32768; (clear hp1 hk hlt e1 hrot hpb lo lo' lo'' hlt2 hW e2; omega)) (by decide) ?_
  rw [show (hash key / 2 ^ Int.toNat 17 + hash key * 2 ^ 15) % 2 ^ 32 = rot (hash key) from hrot.1]
  repeat walk_at "s"
  refine SV1_for ?_
  repeat walk_at "s"
  refine ⟨_, iter_range (by clear hp1 hk hlt e1 hr hrot hpb lo lo' lo'' hW e2; omega) (by clear hp1 hk hlt e1 hr hrot hpb lo lo' hlt2 hW e2; omega), fun i st => (∃ (o1 o2 : Option AV), st = ⟨[("self", some (.obj 139 d)), ("key", some (.bytes key)), ("held", some (.bytes part)), ("probes", some (.int pb)), ("wide", some (.int (wide : Int))), ("h", some (.int ((hash key + (i : Int) * rot (hash key)) % 4294967296))), ("delta", some (.int (rot (hash key)))), ("probe", o1), ("place", o2)], hp⟩) ∧
    ((lamps key pb.toNat (wide : Int)).take i).all (bitAt part) = true, ⟨⟨none, none, ?_⟩, rfl⟩, ?_, ?_⟩
  · rw [show (hash key + ((0 : Nat) : Int) * rot (hash key)) % 4294967296 = hash key by (clear hp1 hk hlt e1 hrot hpb lo lo' lo'' hlt2 hW e2; omega)]
  · rintro i y st2 hy ⟨⟨o1, o2, rfl⟩, hall⟩
    obtain ⟨hi, rfl⟩ := rng_get hy
    have li : (lamps key pb.toNat (wide : Int))[i]? = some (lamp (hash key) (wide : Int) i) := by
      unfold lamps; rw [List.getElem?_map, List.getElem?_range hi]; rfl
    have lr : 0 ≤ lamp (hash key) (wide : Int) i ∧ lamp (hash key) (wide : Int) i < (wide : Int) := ⟨Int.emod_nonneg _ (by clear hp1 hk e1 hr hrot hpb lo lo' lo'' hlt2 hW hi; omega), Int.emod_lt_of_pos _ (by clear hp1 hk e1 hr hrot hpb lo lo' lo'' hlt2 hW hi; omega)⟩
    repeat walk_at "t"
    rw [lamp_place]
    obtain ⟨x, hx⟩ := Int.eq_ofNat_of_zero_le lr.1
    rw [hx] at li lr ⊢
    have x8 : (x : Int) / 8 = ((x / 8 : Nat) : Int) := by (clear hp1 hk hlt e1 hr hrot hpb lo lo' lo'' hlt2 hW e2 hi lr hx; omega)
    have m8 : (x : Int) % 8 = ((x % 8 : Nat) : Int) := by (clear hp1 hk hlt e1 hr hrot hpb lo lo' lo'' hlt2 hW e2 hi lr hx x8; omega)
    have hat := all_take (f := bitAt part) li
    have hv := (part.getD (x / 8) 0).toNat_lt
    have hb : bitAt part (x : Int) = !decide (((part.getD (x / 8) 0).toNat : Int) / 2 ^ (x % 8) % 2 = 0) := by
      unfold bitAt oct
      rw [x8, m8, Int.toNat_natCast, Int.toNat_natCast]
    rw [← and_bit hv (by clear hp1 hk hlt e1 hr hrot hpb lo lo' lo'' hlt2 hW e2 hi lr hx x8 m8 hv; omega)] at hb
    repeat walk_at "s"
    rw [x8, Int.toNat_natCast (x / 8), m8]
    refine bin_shl (by clear hp1 hk hlt e1 hr hrot hpb lo lo' lo'' hlt2 hW e2 hi lr hx x8 m8 hv; omega) (by clear hp1 hk hlt e1 hr hrot hpb lo lo' lo'' hlt2 hW e2 hi lr hx x8 m8 hv; omega) (by decide) ?_
    rw [Int.toNat_natCast (x % 8), show (1 : Int) * 2 ^ (x % 8) = ((2 ^ (x % 8) : Nat) : Int) by simp]
    refine bin_and (Int.natCast_nonneg _) (Int.natCast_nonneg _) ?_
    rw [Int.toNat_natCast, Int.toNat_natCast]
    repeat walk_at "s"
    refine dsplit (fun hz => ?_) fun hz => ?_
    · rw [decide_eq_true hz] at hb
      repeat walk_at "s"
      exact ⟨by rw [hL, all_no li hb], rfl⟩
    · rw [decide_eq_false hz] at hb
      have nn := Int.emod_nonneg (hash key + (i : Int) * rot (hash key)) (b := 4294967296) (by decide)
      repeat walk_at "s"
      refine bin_mask 32 (by clear hp1 hk hlt e1 hr hpb lo lo' lo'' hlt2 hW e2 hi lr hx x8 m8 hv hz nn; omega) (by decide) ?_
      rw [show ((hash key + (i : Int) * rot (hash key)) % 4294967296 + rot (hash key)) % 2 ^ 32 = _ from lamp_next i]
      repeat walk_at "s"
      exact ⟨⟨_, _, rfl⟩, by rw [hat, hall, hb]; rfl⟩
  · rintro st2 ⟨⟨o1, o2, rfl⟩, hall⟩
    rw [rng_len, List.take_of_length_le (by simp [lamps])] at hall
    repeat walk_at "s"
    exact ⟨by rw [hL, hall], rfl⟩


/-! FilterReader -/
noncomputable abbrev rdOk (data : List UInt8) : Prop := 5 ≤ data.length ∧ read32 data (data.length - 5) ≤ data.length - 5 ∧ lastO data ≤ 31
noncomputable def rdLg (data : List UInt8) : Int := if rdOk data then lastO data else 0
noncomputable def rdStart (data : List UInt8) : Int := if rdOk data then read32 data (data.length - 5) else 0
noncomputable def rdCount (data : List UInt8) : Int := if rdOk data then (data.length - 5 - read32 data (data.length - 5)) / 4 else 0
noncomputable def readerD (b : Addr) (data : List UInt8) : AO := .dict [("bloom", .obj 139 b), ("data", .bytes data), ("base_lg", .int (rdLg data)), ("start", .int (rdStart data)), ("count", .int (rdCount data))]
noncomputable def readerD' (b : Addr) (data : List UInt8) (l s c : Int) : AO := .dict [("bloom", .obj 139 b), ("data", .bytes data), ("base_lg", .int l), ("start", .int s), ("count", .int c)]
theorem atr_rd_bloom {d b : Addr} {data : List UInt8} {l s c : Int} (h : Has hp d (readerD' b data l s c)) : Atr D hp (.obj 216 d) "bloom" (.obj 139 b) :=
  atr_own (attr := none) h .head (by kernel_rfl) (by kernel_rfl) (by kernel_rfl) (by kernel_rfl) (fun _ e => nomatch e)
theorem atr_rd_data' {d : Addr} {x y : AV} {r : List (Str × AV)} (h : Has hp d (.dict (("bloom", x) :: ("data", y) :: r))) (hy : ∀ v, y = .val v → handedIn v = true) : Atr D hp (.obj 216 d) "data" y :=
  atr_own (attr := none) h (.tail rfl .head) (by kernel_rfl) (by kernel_rfl) (by kernel_rfl) (by kernel_rfl) hy
theorem atr_rd_data {d b : Addr} {data : List UInt8} {l s c : Int} (h : Has hp d (readerD' b data l s c)) : Atr D hp (.obj 216 d) "data" (.bytes data) := atr_rd_data' h (fun _ e => nomatch e)
theorem atr_rd_lg {d b : Addr} {data : List UInt8} {l s c : Int} (h : Has hp d (readerD' b data l s c)) : Atr D hp (.obj 216 d) "base_lg" (.int l) :=
  atr_own (attr := none) h (.tail rfl (.tail rfl .head)) (by kernel_rfl) (by kernel_rfl) (by kernel_rfl) (by kernel_rfl) (fun _ e => nomatch e)
theorem atr_rd_start {d b : Addr} {data : List UInt8} {l s c : Int} (h : Has hp d (readerD' b data l s c)) : Atr D hp (.obj 216 d) "start" (.int s) :=
  atr_own (attr := none) h (.tail rfl (.tail rfl (.tail rfl .head))) (by kernel_rfl) (by kernel_rfl) (by kernel_rfl) (by kernel_rfl) (fun _ e => nomatch e)
theorem atr_rd_count {d b : Addr} {data : List UInt8} {l s c : Int} (h : Has hp d (readerD' b data l s c)) : Atr D hp (.obj 216 d) "count" (.int c) :=
  atr_own (attr := none) h (.tail rfl (.tail rfl (.tail rfl (.tail rfl .head)))) (by kernel_rfl) (by kernel_rfl) (by kernel_rfl) (by kernel_rfl) (fun _ e => nomatch e)
theorem rd_getM {d b : Addr} {data : List UInt8} {l s c : Int} (h : Has hp d (readerD' b data l s c)) : GetM D hp (.obj 216 d) "may_have" (.ref 213) := getM_own h rfl (by kernel_rfl) (by kernel_rfl) (by kernel_rfl)
theorem rd_set {d : Addr} {fs fs' : List (Str × AV)} {name : Str} {v : AV} (e : putF name v fs = fs') (hz : fs.length ≤ 900) (ht : takerIn (KF P) 216 name = some none) : SetA D (hp ++ [(d, .dict fs)]) (.obj 216 d) name v (hp ++ [(d, .dict fs')]) := by
  subst e
  exact setA_own (has_of_snoc hp) (swap_of_snoc hp) (by kernel_rfl) (by kernel_rfl) ht (by kernel_rfl) hz
theorem reader_init {d b : Addr} {data : List UInt8} (hl : data.length ≤ 1000000) : CallT false D 2 (.ref 206) [.obj 216 d, .obj 139 b, .bytes data] (hp ++ [(d, .dict [])]) (fun x hp' => x = .none ∧ ∃ d', AV.obj 216 d = .obj 216 d' ∧ hp' = hp ++ [(d', readerD b data)]) := by
  refine CallT.enter' 1 ["self", "bloom", "data"] ["size", "start"] rfl rfl (by decide) (by decide) rfl (bind3 fun _ _ _ => rfl) rfl rfl ?_
  walk_at "enter"
  repeat walk_at "t"
  refine xSetA (rd_set rfl (Nat.le_of_ble_eq_true rfl) (by kernel_rfl)) ?_
  repeat walk_at "t"
  refine CallE_v bytes_by ?_
  repeat walk_at "t"
  refine xSetA (rd_set rfl (Nat.le_of_ble_eq_true rfl) (by kernel_rfl)) ?_
  repeat walk_at "t"
  refine xSetA (rd_set rfl (Nat.le_of_ble_eq_true rfl) (by kernel_rfl)) ?_
  repeat walk_at "t"
  refine xSetA (rd_set rfl (Nat.le_of_ble_eq_true rfl) (by kernel_rfl)) ?_
  repeat walk_at "t"
  refine xSetA (rd_set rfl (Nat.le_of_ble_eq_true rfl) (by kernel_rfl)) ?_
  change SV D _ ⟨_, hp ++ [(d, readerD' b data 0 0 0)]⟩ _ _
  repeat walk_at "t"
  refine xAtr (atr_rd_data (has_of_snoc hp)) ?_
  repeat walk_at "s"
  refine dsplit (fun h5 => ?_) fun h5 => ?_
  · have e5 : ((data.length : Int) - 5).toNat = data.length - 5 := by (clear hl h5; omega)
    have e1 : ((data.length : Int) - 1).toNat = data.length - 1 := by (clear hl h5 e5; omega)
    have sr := read32_range data (data.length - 5)
    have lr := oct_range data (data.length - 1)
    have le : ((data.getD (data.length - 1) 0).toNat : Int) = lastO data := rfl
    have lr' : oct data (data.length - 1) = lastO data := rfl
    rw [lr'] at lr
    repeat walk_at "s"
    refine xAtr (atr_rd_data (has_of_snoc hp)) ?_
    repeat walk_at "s"
    refine CallE_w (read_spec (by clear hl e5 e1 sr lr le lr'; omega) (by clear hl h5 e5 e1 sr lr le lr'; omega) (by clear h5 e5 e1 sr lr le lr'; omega)) ?_
    rw [e5]
    repeat walk_at "s"
    refine dsplit (fun hs => ?_) fun hs => ?_
    · repeat walk_at "s"
      refine xAtr (atr_rd_data (has_of_snoc hp)) ?_
      repeat walk_at "s"
      rw [e1, le]
      refine dsplit (fun hg => ?_) fun hg => ?_
      · have ok : rdOk data := ⟨by (clear hl e5 e1 sr lr le lr' hs hg; omega), hs, hg⟩
        repeat walk_at "s"
        refine xAtr (atr_rd_data (has_of_snoc hp)) ?_
        repeat walk_at "s"
        rw [e1, le]
        refine xSetA (rd_set rfl (Nat.le_of_ble_eq_true rfl) (by kernel_rfl)) ?_
        repeat walk_at "s"
        refine xSetA (rd_set rfl (Nat.le_of_ble_eq_true rfl) (by kernel_rfl)) ?_
        repeat walk_at "s"
        refine xSetA (rd_set rfl (Nat.le_of_ble_eq_true rfl) (by kernel_rfl)) ?_
        repeat walk_at "s"
        refine ⟨trivial, d, rfl, ?_⟩
        unfold readerD rdLg rdStart rdCount
        rw [if_pos ok, if_pos ok, if_pos ok]
        rfl
      · have no : ¬ rdOk data := fun q => hg q.2.2
        repeat walk_at "s"
        refine ⟨trivial, d, rfl, ?_⟩
        unfold readerD rdLg rdStart rdCount
        rw [if_neg no, if_neg no, if_neg no]
        rfl
    · have no : ¬ rdOk data := fun q => hs q.2.1
      repeat walk_at "s"
      refine ⟨trivial, d, rfl, ?_⟩
      unfold readerD rdLg rdStart rdCount
      rw [if_neg no, if_neg no, if_neg no]
      rfl
  · have no : ¬ rdOk data := fun q => h5 (by have := q.1; (clear hl h5 q; omega))
    repeat walk_at "s"
    refine ⟨trivial, d, rfl, ?_⟩
    unfold readerD rdLg rdStart rdCount
    rw [if_neg no, if_neg no, if_neg no]
    rfl
theorem reader_new {b : Addr} {data : List UInt8} (hl : data.length ≤ 1000000) : CallT false D 3 (.ref 216) [.obj 139 b, .bytes data] hp (fun x hp' => ∃ d, x = .obj 216 d ∧ hp' = hp ++ [(d, readerD b data)]) :=
  make_T (f := 206) (by kernel_rfl) (by kernel_rfl) (by kernel_rfl) (by decide : 2 < 3) fun d => reader_init hl
theorem rdmay_spec {d b : Addr} {bits : Int} {data key : List UInt8} {offset : Int} (hd : Has hp d (readerD b data)) (hb : Has hp b (bloomD bits)) (hl : data.length ≤ 1000000) (hk : key.length ≤ 1000000) (ho : 0 ≤ offset) :
    CallV false D 4 (.ref 213) [.obj 216 d, .int offset, .bytes key] hp (.bool (ansB data offset key)) := by
  refine CallT.enter' 3 ["self", "offset", "key"] ["span", "place", "low", "high"] rfl rfl (by decide) (by decide) rfl (bind3 fun _ _ _ => rfl) rfl rfl ?_
  walk_at "enter"
  repeat walk_at "t"
  refine xAtr (atr_rd_lg hd) ?_
  by_cases ok : rdOk data
  · have l1 : rdLg data = lastO data := if_pos ok
    have s1 : rdStart data = read32 data (data.length - 5) := if_pos ok
    have c1 : rdCount data = (data.length - 5 - read32 data (data.length - 5)) / 4 := if_pos ok
    rw [l1]
    generalize hR : ansB data offset key = res
    unfold ansB at hR
    obtain ⟨o1, o2, o3⟩ := ok
    rw [if_neg (by clear hl hk ho l1 s1 c1 o2 o3; omega), if_neg (by clear hl hk ho l1 s1 c1 o1; omega)] at hR
    have sr := read32_range data (data.length - 5)
    have lr := oct_range data (data.length - 1)
    have le : oct data (data.length - 1) = lastO data := rfl
    rw [le] at lr
    have p2 := pow2 (l := lastO data) (by clear hl hk ho l1 s1 c1 o1 o2 o3 sr le; omega) (by with_reducible assumption)
    have s0 : 0 ≤ offset / 2 ^ (lastO data).toNat := Int.ediv_nonneg ho (by clear hl hk ho l1 s1 c1 o1 o2 o3 sr lr le; omega)
    refine bin_shr (by clear hl hk ho l1 s1 c1 o1 o2 o3 sr le p2 s0; omega) ?_
    generalize read32 data (data.length - 5) = start at *
    generalize offset / 2 ^ (lastO data).toNat = span at *
    repeat walk_at "t"
    refine SV1_if ?_
    repeat walk_at "t"
    refine xAtr (atr_rd_count hd) ?_
    rw [c1]
    repeat walk_at "s"
    refine dsplit (fun hc => ?_) fun hc => ?_
    · rw [if_pos (by clear hl hk ho l1 o1 o3 lr le p2 s1 c1 o2 sr s0; omega)] at hR
      subst hR
      repeat walk_at "s"
      exact ⟨rfl, rfl⟩
    rw [if_neg (by clear hl hk ho l1 o1 o3 lr le p2 s1 c1 o2 sr s0; omega)] at hR
    repeat walk_at "s"
    refine xAtr (atr_rd_start hd) ?_
    rw [s1]
    repeat walk_at "s"
    refine xAtr (atr_rd_data hd) ?_
    repeat walk_at "s"
    refine CallE_w (read_spec (by clear hl hk ho l1 o1 o3 lr le p2 s1 c1 o2 hc; omega) (by clear hl hk ho l1 o1 o3 lr le p2 s1 c1 o2 sr s0; omega) (by clear hk ho l1 o1 o3 lr le p2 s1 c1 o2 sr s0 hc; omega)) ?_
    repeat walk_at "s"
    refine xAtr (atr_rd_data hd) ?_
    repeat walk_at "s"
    refine CallE_w (read_spec (by clear hl hk ho l1 o1 o3 lr le p2 s1 c1 o2 hc; omega) (by clear hl hk ho l1 o1 o3 lr le p2 s1 c1 o2 sr s0; omega) (by clear hk ho l1 o1 o3 lr le p2 s1 c1 o2 sr s0 hc; omega)) ?_
    have r2 := read32_range data (start + 4 * span).toNat
    have r3 := read32_range data (start + 4 * span + 4).toNat
    generalize read32 data (start + 4 * span).toNat = low at *
    generalize read32 data (start + 4 * span + 4).toNat = high at *
    repeat walk_at "s"
    refine dsplit (fun h1 => ?_) fun h1 => ?_
    · rw [if_pos (.inl h1)] at hR
      subst hR
      repeat walk_at "s"
      exact ⟨rfl, rfl⟩
    repeat walk_at "s"
    refine xAtr (atr_rd_start hd) ?_
    rw [s1]
    repeat walk_at "s"
    refine dsplit (fun h2 => ?_) fun h2 => ?_
    · rw [if_pos (.inr (.inl h2))] at hR
      subst hR
      repeat walk_at "s"
      exact ⟨rfl, rfl⟩
    repeat walk_at "s"
    refine dsplit (fun h3 => ?_) fun h3 => ?_
    · rw [if_neg (by clear hl hk ho l1 o1 o3 lr le p2 s1 c1 o2 sr s0 hc r2 r3 h1; omega), if_neg (by clear hl hk ho l1 o1 o3 lr le p2 s1 c1 o2 sr s0 hc r2 r3 h1 h2; omega)] at hR
      subst hR
      repeat walk_at "s"
      exact ⟨rfl, rfl⟩
    repeat walk_at "s"
    refine dsplit (fun h4 => ?_) fun h4 => ?_
    · rw [if_pos (by clear hl hk ho l1 o1 o3 lr le p2 s1 c1 o2 sr s0 hc r2 r3 h1 h2; omega)] at hR
      subst hR
      repeat walk_at "s"
      exact ⟨rfl, rfl⟩
    rw [if_neg (by clear hl hk ho l1 o1 o3 lr le p2 s1 c1 o2 sr s0 hc r2 r3 h1 h3; omega), if_pos (by clear hl hk ho l1 o1 o3 lr le p2 s1 c1 o2 sr s0 hc r2 r3 h1 h2 h3; omega)] at hR
    subst hR
    repeat walk_at "s"
    refine xAtr (atr_rd_bloom hd) ?_
    repeat walk_at "s"
    refine xGetM (bloom_getM2 hb) (keepOk_ref (by kernel_rfl)) ?_
    repeat walk_at "s"
    refine xAtr (atr_rd_data hd) ?_
    repeat walk_at "s"
    refine xSl (sl_bytes (by clear hk ho l1 o1 o3 lr le p2 s1 c1 o2 sr s0 hc r2 r3 h1 h2 h3 h4; omega)) ?_
    have cl := cut_len data (some low) (some high)
    repeat walk_at "s"
    refine CallE_w (may_spec (by clear hk ho l1 o1 o3 lr le p2 s1 c1 o2 sr s0 hc r2 r3 h1 h2 h3 h4; omega) hk) ?_
    exact ⟨rfl, rfl⟩
  · have l1 : rdLg data = 0 := if_neg ok
    have c1 : rdCount data = 0 := if_neg ok
    have hR : ansB data offset key = true := by
      unfold ansB
      by_cases h5 : data.length < 5
      · rw [if_pos h5]
      · rw [if_neg h5, if_pos]
        refine Decidable.byContradiction fun h => ok ⟨by (clear hl hk ho ok l1 c1 h; omega), by (clear hl hk ho ok l1 c1 h5; omega), by (clear hl hk ho ok l1 c1 h5; omega)⟩
    rw [hR, l1]
    repeat walk_at "t"
    refine SV1_if ?_
    repeat walk_at "t"
    refine xAtr (atr_rd_count hd) ?_
    rw [c1]
    repeat walk_at "s"
    refine dyes (by show 0 ≤ offset / 1; (clear hl hk ok l1 c1; omega)) ?_
    repeat walk_at "s"
    exact ⟨rfl, rfl⟩


/-! FilterBuilder -/
noncomputable abbrev builderD (b : Addr) (lg : Int) (k o f : Addr) (fin : Bool) : AO := .dict [("bloom", .obj 139 b), ("base_lg", .int lg), ("keys", .val (.ref k)), ("offsets", .val (.ref o)), ("filters", .val (.ref f)), ("finished", .bool fin)]
theorem has_pre {r : Hp} {a : Addr} {o : AO} (h : Has r a o) : ∀ hp : Hp, Has (hp ++ r) a o
  | [] => h
  | _ :: s => .tail (has_pre h s)
theorem swap_app {hp hp' r : Hp} {a : Addr} {o : AO} (w : Swap hp a o hp') : Swap (hp ++ r) a o (hp' ++ r) := by
  induction w with
  | head => exact .head
  | tail _ ih => exact .tail ih
theorem fb_set {d : Addr} {fs fs' : List (Str × AV)} {name : Str} {v : AV} {hp hp' : Hp} (hd : Has hp d (.dict fs)) (w : Swap hp d (.dict fs') hp') (e : putF name v fs = fs') (hz : fs.length ≤ 900) (ht : takerIn (KF P) 188 name = some none) : SetA D hp (.obj 188 d) name v hp' := by
  subst e
  exact setA_own hd w (by kernel_rfl) (by kernel_rfl) ht (by kernel_rfl) hz
section
variable {b d k o f : Addr} {lg : Int} {fin : Bool}
theorem atr_fb_bloom (h : Has hp d (builderD b lg k o f fin)) : Atr D hp (.obj 188 d) "bloom" (.obj 139 b) :=
  atr_own (attr := none) h .head (by kernel_rfl) (by kernel_rfl) (by kernel_rfl) (by kernel_rfl) (fun _ e => nomatch e)
theorem atr_fb_lg (h : Has hp d (builderD b lg k o f fin)) : Atr D hp (.obj 188 d) "base_lg" (.int lg) :=
  atr_own (attr := none) h (.tail rfl .head) (by kernel_rfl) (by kernel_rfl) (by kernel_rfl) (by kernel_rfl) (fun _ e => nomatch e)
theorem atr_fb_keys (h : Has hp d (builderD b lg k o f fin)) : Atr D hp (.obj 188 d) "keys" (.val (.ref k)) :=
  atr_own (attr := none) h (.tail rfl (.tail rfl .head)) (by kernel_rfl) (by kernel_rfl) (by kernel_rfl) (by kernel_rfl) (fun v e => by cases e; rfl)
theorem atr_fb_offsets (h : Has hp d (builderD b lg k o f fin)) : Atr D hp (.obj 188 d) "offsets" (.val (.ref o)) :=
  atr_own (attr := none) h (.tail rfl (.tail rfl (.tail rfl .head))) (by kernel_rfl) (by kernel_rfl) (by kernel_rfl) (by kernel_rfl) (fun v e => by cases e; rfl)
theorem atr_fb_filters (h : Has hp d (builderD b lg k o f fin)) : Atr D hp (.obj 188 d) "filters" (.val (.ref f)) :=
  atr_own (attr := none) h (.tail rfl (.tail rfl (.tail rfl (.tail rfl .head)))) (by kernel_rfl) (by kernel_rfl) (by kernel_rfl) (by kernel_rfl) (fun v e => by cases e; rfl)
theorem atr_fb_finished (h : Has hp d (builderD b lg k o f fin)) : Atr D hp (.obj 188 d) "finished" (.bool fin) :=
  atr_own (attr := none) h (.tail rfl (.tail rfl (.tail rfl (.tail rfl (.tail rfl .head))))) (by kernel_rfl) (by kernel_rfl) (by kernel_rfl) (by kernel_rfl) (fun _ e => nomatch e)
theorem fb_getM_start (h : Has hp d (builderD b lg k o f fin)) : GetM D hp (.obj 188 d) "start_block" (.ref 164) := getM_own h rfl (by kernel_rfl) (by kernel_rfl) (by kernel_rfl)
theorem fb_getM_add (h : Has hp d (builderD b lg k o f fin)) : GetM D hp (.obj 188 d) "add_key" (.ref 171) := getM_own h rfl (by kernel_rfl) (by kernel_rfl) (by kernel_rfl)
theorem fb_getM_close (h : Has hp d (builderD b lg k o f fin)) : GetM D hp (.obj 188 d) "close_span" (.ref 178) := getM_own h rfl (by kernel_rfl) (by kernel_rfl) (by kernel_rfl)
theorem fb_getM_finish (h : Has hp d (builderD b lg k o f fin)) : GetM D hp (.obj 188 d) "finish" (.ref 185) := getM_own h rfl (by kernel_rfl) (by kernel_rfl) (by kernel_rfl)
end
theorem fb_init {d b : Addr} {lg : Int} (l0 : 0 ≤ lg) (l1 : lg ≤ 31) : CallT true D 1 (.ref 157) [.obj 188 d, .obj 139 b, .int lg] (hp ++ [(d, .dict [])]) (fun x hp' => x = .none ∧ ∃ d' k o f, AV.obj 188 d = .obj 188 d' ∧ hp' = hp ++ [(d', builderD b lg k o f false), (k, .plain []), (o, .plain []), (f, .bytearray [])]) := by
  refine CallT.enter' 0 ["self", "bloom", "base_lg"] [] rfl rfl (by decide) (by decide) rfl (bind3 fun _ _ _ => rfl) rfl rfl ?_
  walk_at "enter"
  repeat walk_at "s"
  refine xSetA (fb_set (has_of_snoc hp) (swap_of_snoc hp) rfl (Nat.le_of_ble_eq_true rfl) (by kernel_rfl)) ?_
  repeat walk_at "s"
  refine xSetA (fb_set (has_of_snoc hp) (swap_of_snoc hp) rfl (Nat.le_of_ble_eq_true rfl) (by kernel_rfl)) ?_
  repeat walk_at "s"
  refine EV_ListP ?_
  repeat walk_at "s"
  refine ⟨by decide, fun k => ?_⟩
  repeat walk_at "s"
  refine xSetA (fb_set (has_app (has_of_snoc hp)) (swap_app (swap_of_snoc hp)) rfl (Nat.le_of_ble_eq_true rfl) (by kernel_rfl)) ?_
  repeat walk_at "s"
  refine EV_ListP ?_
  repeat walk_at "s"
  refine ⟨by decide, fun o => ?_⟩
  repeat walk_at "s"
  refine xSetA (fb_set (has_app (has_app (has_of_snoc hp))) (swap_app (swap_app (swap_of_snoc hp))) rfl (Nat.le_of_ble_eq_true rfl) (by kernel_rfl)) ?_
  repeat walk_at "s"
  refine CallE_c (call_ba0 (n := 0) (P := fun x hp' => ∃ f, x = .val (.ref f) ∧ hp' = _ ++ [(f, .bytearray [])]) fun f => ⟨f, rfl, rfl⟩) ?_
  rintro _ _ ⟨f, rfl, rfl⟩
  repeat walk_at "s"
  refine xSetA (fb_set (has_app (has_app (has_app (has_of_snoc hp)))) (swap_app (swap_app (swap_app (swap_of_snoc hp)))) rfl (Nat.le_of_ble_eq_true rfl) (by kernel_rfl)) ?_
  repeat walk_at "s"
  refine xSetA (fb_set (has_app (has_app (has_app (has_of_snoc hp)))) (swap_app (swap_app (swap_app (swap_of_snoc hp)))) rfl (Nat.le_of_ble_eq_true rfl) (by kernel_rfl)) ?_
  repeat walk_at "s"
  refine ⟨trivial, d, k, o, f, rfl, ?_⟩
  rw [List.append_assoc, List.append_assoc, List.append_assoc]
  rfl
theorem fb_new {b : Addr} {lg : Int} (l0 : 0 ≤ lg) (l1 : lg ≤ 31) : CallT true D 2 (.ref 188) [.obj 139 b, .int lg] hp (fun x hp' => ∃ d k o f, x = .obj 188 d ∧ hp' = hp ++ [(d, builderD b lg k o f false), (k, .plain []), (o, .plain []), (f, .bytearray [])]) :=
  make_T (f := 157) (P := fun x hp' => ∃ d k o f, x = .obj 188 d ∧ hp' = hp ++ [(d, builderD b lg k o f false), (k, .plain []), (o, .plain []), (f, .bytearray [])]) (by kernel_rfl) (by kernel_rfl) (by kernel_rfl) (by decide : 1 < 2) fun d => fb_init l0 l1
theorem fb_initX {d b : Addr} {lg : Int} (h0 : lg < 0 ∨ 31 < lg) : CallX false D 1 (.ref 157) [.obj 188 d, .obj 139 b, .int lg] (hp ++ [(d, .dict [])]) 73 (fun hp' => ∃ r, hp' = hp ++ r) := by
  refine CallX.enter 0 ["self", "bloom", "base_lg"] [] rfl rfl (by decide) (by decide) rfl (bind3 fun _ _ _ => rfl) rfl rfl ?_
  walk_at "enter"
  refine SVX_head (SV1X_if ?_)
  repeat walk_at "s"
  refine dsplit (fun h1 => ?_) fun h1 => ?_
  · repeat walk_at "s"
    exact SVX_head (SV1X_raise rfl (by decide) (by kernel_rfl) exc_bad rfl ⟨_, rfl⟩)
  · repeat walk_at "s"
    exact SVX_head (SV1X_raise rfl (by decide) (by kernel_rfl) exc_bad rfl ⟨_, rfl⟩)
theorem fb_newX {b : Addr} {lg : Int} (h0 : lg < 0 ∨ 31 < lg) : CallX false D 2 (.ref 188) [.obj 139 b, .int lg] hp 73 (fun hp' => hp' = hp) :=
  make_TX (f := 157) (by kernel_rfl) (by kernel_rfl) (by kernel_rfl) (by decide : 1 < 2) fun d => fb_initX h0

section
variable {b d k o f : Addr} {lg bits : Int} {fin : Bool}
theorem add_specX {x : AV} (h : Has hp d (builderD b lg k o f true)) : CallX false D 1 (.ref 171) [.obj 188 d, x] hp 85 (fun hp' => hp' = hp) := by
  refine CallX.enter 0 ["self", "key"] [] rfl rfl (by decide) (by decide) rfl (bind2 fun _ _ => rfl) rfl rfl ?_
  walk_at "enter"
  refine SVX_head (SV1X_if (BV_plain ?_))
  repeat walk_at "s"
  refine xAtr (atr_fb_finished h) ?_
  repeat walk_at "s"
  exact SVX_head (SV1X_raise rfl (by decide) (by kernel_rfl) exc_order rfl rfl)
theorem finish_specX (h : Has hp d (builderD b lg k o f true)) : CallX false D 1 (.ref 185) [.obj 188 d] hp 85 (fun hp' => hp' = hp) := by
  refine CallX.enter 0 ["self"] ["out", "place"] rfl rfl (by decide) (by decide) rfl (bind1 fun _ => rfl) rfl rfl ?_
  walk_at "enter"
  refine SVX_head (SV1X_if (BV_plain ?_))
  repeat walk_at "s"
  refine xAtr (atr_fb_finished h) ?_
  repeat walk_at "s"
  exact SVX_head (SV1X_raise rfl (by decide) (by kernel_rfl) exc_order rfl rfl)
theorem start_specX {offset : Int} {offs : List AV} (h : Has hp d (builderD b lg k o f fin)) (ho : Has hp o (.plain offs)) (hz : offs.length ≤ 1000000) (l0 : 0 ≤ lg) (hs : fin = true ∨ offset / 2 ^ lg.toNat < offs.length) : CallX false D 1 (.ref 164) [.obj 188 d, .int offset] hp 85 (fun hp' => hp' = hp) := by
  refine CallX.enter 0 ["self", "offset"] ["span"] rfl rfl (by decide) (by decide) rfl (bind2 fun _ _ => rfl) rfl rfl ?_
  walk_at "enter"
  cases fin with
  | true =>
    refine SVX_head (SV1X_if (BV_plain ?_))
    repeat walk_at "s"
    refine xAtr (atr_fb_finished h) ?_
    repeat walk_at "s"
    exact SVX_head (SV1X_raise rfl (by decide) (by kernel_rfl) exc_order rfl rfl)
  | false =>
    have hs' : offset / 2 ^ lg.toNat < offs.length := hs.elim (fun e => nomatch e) id
    refine SVX_cons (SV1_if (BV_plain ?_))
    repeat walk_at "s"
    refine xAtr (atr_fb_finished h) ?_
    repeat walk_at "s"
    refine SVX_cons ?_
    repeat walk_at "s"
    refine xAtr (atr_fb_lg h) ?_
    refine bin_shr l0 ?_
    repeat walk_at "s"
    refine SVX_head (SV1X_if ?_)
    repeat walk_at "s"
    refine xAtr (atr_fb_offsets h) ?_
    repeat walk_at "s"
    refine CallE_v (len_plain ho (by clear l0 hs hs'; omega)) ?_
    repeat walk_at "s"
    exact SVX_head (SV1X_raise rfl (by decide) (by kernel_rfl) exc_order rfl rfl)
theorem add_spec {key : List UInt8} {ks : List AV} {hp' : Hp} (h : Has hp d (builderD b lg k o f false)) (hk : Has hp k (.plain ks)) (w : Swap hp k (.plain (ks ++ [.bytes key])) hp') (hz : ks.length ≤ 1000000) :
    CallT false D 1 (.ref 171) [.obj 188 d, .bytes key] hp (fun x hp2 => x = .none ∧ hp2 = hp') := by
  refine CallT.enter' 0 ["self", "key"] [] rfl rfl (by decide) (by decide) rfl (bind2 fun _ _ => rfl) rfl rfl ?_
  walk_at "enter"
  refine SV_cons (SV1_if (BV_plain ?_))
  repeat walk_at "s"
  refine xAtr (atr_fb_finished h) ?_
  repeat walk_at "s"
  refine xAtr (atr_fb_keys h) ?_
  repeat walk_at "s"
  refine xGetM (getM_append hk) keepOk_builtin ?_
  repeat walk_at "s"
  refine CallE_v bytes_by ?_
  repeat walk_at "s"
  refine CallE_e (call_append (cl := false) (n := 0) hk w hz) ?_
  repeat walk_at "s"
  exact ⟨trivial, rfl⟩
end


/-! close_span, start_block, finish -/
noncomputable abbrev BH (b d k o f : Addr) (bits lg : Int) (ks : List (List UInt8)) (os : List Nat) (fil : List UInt8) (fin : Bool) : Hp :=
  [(b, bloomD bits), (d, builderD b lg k o f fin), (k, .plain (ks.map .bytes)), (o, .plain (os.map fun (n : Nat) => AV.int (n : Int))), (f, .bytearray fil)]
theorem perm_bh {α : Type} (a b k o f : α) : [a, b, k, o, f].Perm ([a, b, o, f] ++ [k]) := .cons _ (.cons _ (show ([k] ++ [o, f]).Perm ([o, f] ++ [k]) from List.perm_append_comm))
section
variable {b d k o f : Addr} {lg bits : Int} {fin : Bool}
theorem close_spec {ks : List (List UInt8)} {os : List Nat} {fil : List UInt8} (hk : ∀ k ∈ ks, k.length ≤ 1000000) (hn : ks.length ≤ 1000) (b0 : 0 ≤ bits) (b1 : bits ≤ 1000) (ho : os.length ≤ 1000000)
    (hz : (fil ++ if ks = [] then [] else oneL ks bits).length ≤ 1000000) :
    CallT true D 4 (.ref 178) [.obj 188 d] (BH b d k o f bits lg ks os fil fin) (fun x hp' => x = .none ∧ ∃ k', hp' = BH b d k' o f bits lg [] (os ++ [fil.length]) (fil ++ if ks = [] then [] else oneL ks bits) fin) := by
  refine CallT.enter' 3 ["self"] [] rfl rfl (by decide) (by decide) rfl (bind1 fun _ => rfl) rfl rfl ?_
  walk_at "enter"
  unfold BH
  repeat walk_at "s"
  refine xAtr (atr_fb_offsets (by walk_at "has")) ?_
  repeat walk_at "s"
  refine xGetM (getM_append (by walk_at "has")) keepOk_builtin ?_
  repeat walk_at "s"
  refine xAtr (atr_fb_filters (by walk_at "has")) ?_
  repeat walk_at "s"
  refine CallE_v (len_ba (by walk_at "has") (by rw [List.length_append] at hz; (clear hn b0 b1 ho; omega))) ?_
  repeat walk_at "s"
  refine CallE_e (call_append (cl := false) (n := 0) (by walk_at "has") (by walk_at "swap") (by simp; with_reducible assumption)) ?_
  repeat walk_at "s"
  refine xAtr (atr_fb_keys (by walk_at "has")) ?_
  repeat walk_at "s"
  refine CallE_v (len_plain (by walk_at "has") (by simp; (clear b0 b1 ho hz; omega))) ?_
  repeat walk_at "s"
  by_cases hE : ks = []
  · subst hE
    rw [if_pos rfl] at hz ⊢
    refine dno (by simp) ?_
    repeat walk_at "s"
    refine ⟨trivial, k, ?_⟩
    rw [List.append_nil, List.map_append]
    rfl
  rw [if_neg hE] at hz ⊢
  have hlen : (0 : Int) < (ks.map AV.bytes).length := by
    have := List.length_pos_iff.mpr hE
    simp; with_reducible assumption
  refine dyes hlen ?_
  repeat walk_at "s"
  refine xAtr (atr_fb_filters (by walk_at "has")) ?_
  repeat walk_at "s"
  refine xGetM (getM_ba_extend (by walk_at "has")) keepOk_builtin ?_
  repeat walk_at "s"
  refine xAtr (atr_fb_bloom (by walk_at "has")) ?_
  repeat walk_at "s"
  refine xGetM (bloom_getM (bits := bits) (by walk_at "has")) (keepOk_ref (by kernel_rfl)) ?_
  refine EVs_cons (EV_freeze ?_)
  repeat walk_at "s"
  refine xAtr (atr_fb_keys (by walk_at "has")) ?_
  refine ⟨k, rfl, _, _, _, by walk_at "drop", rfl, ?_⟩
  repeat walk_at "s"
  refine CallE_w (make_spec (by walk_at "has") hk hn b0 b1) ?_
  repeat walk_at "s"
  refine CallE_e (call_ba_extend (n := 0) (by walk_at "has") (by rw [List.length_append] at hz; (clear hn b0 b1 ho hE hlen; omega)) (by walk_at "swap")) ?_
  repeat walk_at "s"
  refine EV_ListP ?_
  repeat walk_at "s"
  refine ⟨by decide, fun k' => ?_⟩
  repeat walk_at "s"
  refine xSetA (fb_set (fs' := [("bloom", .obj 139 b), ("base_lg", .int lg), ("keys", .val (.ref k')), ("offsets", .val (.ref o)), ("filters", .val (.ref f)), ("finished", .bool fin)]) (has_app (by walk_at "has")) (swap_app (by walk_at "swap")) rfl (Nat.le_of_ble_eq_true rfl) (by kernel_rfl)) ?_
  refine SV_perm (hp' := [(b, bloomD bits), (d, builderD b lg k' o f fin), (k', .plain []), (o, .plain (os.map (fun (n : Nat) => AV.int (n : Int)) ++ [.int (fil.length : Int)])), (f, .bytearray (fil ++ oneL ks bits))])
    (perm_bh _ _ _ _ _) ?_
  repeat walk_at "s"
  refine ⟨trivial, k', ?_⟩
  rw [List.map_append]
  rfl
theorem start_spec0 {offset : Int} {ks : List (List UInt8)} {os : List Nat} {fil : List UInt8} (hk : ∀ k ∈ ks, k.length ≤ 1000000) (hn : ks.length ≤ 1000) (b0 : 0 ≤ bits) (b1 : bits ≤ 1000) (l0 : 0 ≤ lg) (hs : os.length ≤ offset / 2 ^ lg.toNat) (hs2 : offset / 2 ^ lg.toNat ≤ 1000) (G : Nat → List Nat) (L : Nat → List UInt8)
    (g0 : G 0 = os) (f0 : L 0 = fil) (gs : ∀ i, G (i + 1) = G i ++ [(L i).length]) (fs : ∀ i, L (i + 1) = L i ++ (if i = 0 then (if ks = [] then [] else oneL ks bits) else [])) (hz : ∀ i, (L i).length ≤ 1000000) :
    CallT true D 5 (.ref 164) [.obj 188 d, .int offset] (BH b d k o f bits lg ks os fil false) (fun x hp' => x = .none ∧ ∃ k', hp' = BH b d k' o f bits lg (if offset / 2 ^ lg.toNat = os.length then ks else []) (G (offset / 2 ^ lg.toNat - os.length).toNat) (L (offset / 2 ^ lg.toNat - os.length).toNat) false) := by
  have hG : ∀ i, (G i).length = os.length + i := fun i => by
    induction i with
    | zero => rw [g0]; rfl
    | succ n ih => rw [gs, List.length_append, ih]; rfl
  refine CallT.enter' 4 ["self", "offset"] ["span"] rfl rfl (by decide) (by decide) rfl (bind2 fun _ _ => rfl) rfl rfl ?_
  walk_at "enter"
  refine SV_cons (SV1_if (BV_plain ?_))
  repeat walk_at "s"
  refine xAtr (atr_fb_finished (by walk_at "has")) ?_
  repeat walk_at "s"
  refine xAtr (atr_fb_lg (by walk_at "has")) ?_
  refine bin_shr l0 ?_
  generalize hSp : offset / 2 ^ lg.toNat = span at *
  repeat walk_at "s"
  refine xAtr (atr_fb_offsets (by walk_at "has")) ?_
  repeat walk_at "s"
  refine CallE_v (len_plain (by walk_at "has") (by simp; (clear hn b0 b1 l0 hSp; omega))) ?_
  rw [List.length_map]
  repeat walk_at "s"
  refine SV1_while (fun m st => ∃ (i : Nat) (k' : Addr), m = (span - os.length).toNat - i ∧ (i : Int) ≤ span - os.length ∧ st = ⟨[("self", some (.obj 188 d)), ("offset", some (.int offset)), ("span", some (.int span))], BH b d k' o f bits lg (if i = 0 then ks else []) (G i) (L i) false⟩) (span - os.length).toNat
    ⟨0, k, rfl, by (clear hn b0 b1 l0 hSp hs2; omega), by rw [g0, f0]; rfl⟩ ?_
  rintro m st ⟨i, k', rfl, hi, rfl⟩
  have hgi := hG i
  repeat walk_at "s"
  refine xAtr (atr_fb_offsets (by walk_at "has")) ?_
  repeat walk_at "s"
  refine CallE_v (len_plain (by walk_at "has") (by simp; (clear hn b0 b1 l0 hSp hs; omega))) ?_
  rw [List.length_map]
  repeat walk_at "s"
  refine dsplit (fun hlt => ?_) fun hlt => ?_
  · repeat walk_at "s"
    refine xGetM (fb_getM_close (by walk_at "has")) (keepOk_ref (by kernel_rfl)) ?_
    repeat walk_at "s"
    have e : (L i ++ if (if i = 0 then ks else []) = [] then [] else oneL (if i = 0 then ks else []) bits) = L (i + 1) := by
      rw [fs i]
      by_cases q : i = 0
      · rw [if_pos q, if_pos q]
      · rw [if_neg q, if_neg q, if_pos rfl]
    have hk' : ∀ k ∈ (if i = 0 then ks else []), k.length ≤ 1000000 := by split; exact hk; exact fun _ h => nomatch h
    refine CallE_c (close_spec hk' (by split; exact hn; exact Nat.zero_le _) b0 b1 (by clear hn b0 b1 l0 hSp hs hi hgi; omega) (by rw [e]; exact hz _)) ?_
    rintro _ _ ⟨rfl, k'', rfl⟩
    rw [e, ← gs]
    repeat walk_at "s"
    exact ⟨_, by (clear hn b0 b1 l0 hSp hs hs2 hi; omega), i + 1, k'', rfl, by (clear hn b0 b1 l0 hSp hs hs2 hi; omega), by rw [if_neg (Nat.succ_ne_zero i)]⟩
  · have hi' : (i : Int) = span - os.length := by (clear hn b0 b1 l0 hSp hs hs2; omega)
    have hi2 : (span - os.length).toNat = i := by (clear hn b0 b1 l0 hSp hs hs2 hi hgi hlt; omega)
    repeat walk_at "s"
    refine ⟨trivial, k', ?_⟩
    rw [hi2]
    by_cases q : i = 0
    · rw [if_pos q, if_pos (by clear hn b0 b1 l0 hSp hs hs2 hi hgi hlt hi2; omega)]
    · rw [if_neg q, if_neg (by clear hn b0 b1 l0 hSp hs hs2 hi hgi hlt hi'; omega)]
end


theorem fils_snoc {bits : Int} (l : List (List (List UInt8))) (x : List (List UInt8)) : fils bits (l ++ [x]) = fils bits l ++ (if x = [] then [] else oneL x bits) := by
  unfold fils
  rw [List.flatMap_append]
  simp
theorem offs_snoc {bits : Int} (l : List (List (List UInt8))) (x : List (List UInt8)) : offs bits (l ++ [x]) = offs bits l ++ [(fils bits l).length] := by
  have h := offs_take (bits := bits) (l ++ [x]) (i := l.length) (by simp)
  rw [List.take_of_length_le (by simp), List.take_left'  rfl] at h
  exact h
theorem fils_empties {bits : Int} (l : List (List (List UInt8))) (n : Nat) : fils bits (l ++ List.replicate n []) = fils bits l := by
  unfold fils
  rw [List.flatMap_append]
  have : ∀ n : Nat, (List.replicate n ([] : List (List UInt8))).flatMap (fun ks => if ks = [] then [] else oneL ks bits) = [] := fun n => by
    induction n with
    | zero => rfl
    | succ n ih => rw [List.replicate_succ, List.flatMap_cons, ih]; rfl
  rw [this, List.append_nil]
theorem held_last {held : List (List (List UInt8))} (h : held ≠ []) : held = held.dropLast ++ [lastOf held] := by
  have e : lastOf held = held.getLast h := by unfold lastOf; rw [List.getLast?_eq_some_getLast h]; rfl
  rw [e]
  exact (List.dropLast_concat_getLast h).symm
theorem grow_drop {held : List (List (List UInt8))} (n : Nat) : (held ++ List.replicate (n + 1) []).dropLast = held ++ List.replicate n [] := by
  rw [List.replicate_succ', ← List.append_assoc, List.dropLast_concat]
theorem grow_last {held : List (List (List UInt8))} (n : Nat) : lastOf (held ++ List.replicate n []) = if n = 0 then lastOf held else [] := by
  cases n with
  | zero => rw [List.replicate_zero, List.append_nil]; rfl
  | succ n =>
    rw [List.replicate_succ', ← List.append_assoc, if_neg (Nat.succ_ne_zero n)]
    unfold lastOf
    rw [List.getLast?_concat]; rfl
noncomputable def grow (held : List (List (List UInt8))) (n : Nat) : List (List (List UInt8)) := held ++ List.replicate n []
noncomputable def BHh (b d k o f : Addr) (bits lg : Int) (held : List (List (List UInt8))) (fin : Bool) : Hp := BH b d k o f bits lg (lastOf held) (offs bits held.dropLast) (fils bits held.dropLast) fin
theorem fils_drop_le {bits : Int} (held : List (List (List UInt8))) : (fils bits held.dropLast).length ≤ (fils bits held).length := by
  rw [List.dropLast_eq_take]; exact fils_take_le _ _
section
variable {b d k o f : Addr} {lg bits : Int} {fin : Bool} {held : List (List (List UInt8))}
structure HOk (bits : Int) (held : List (List (List UInt8))) : Prop where
  ne : held ≠ []
  keys : ∀ ks ∈ held, ks.length ≤ 1000 ∧ ∀ k ∈ ks, k.length ≤ 1000000
  len : held.length ≤ 1000
  b0 : 0 ≤ bits
  b1 : bits ≤ 1000
  sz : (fils bits held).length ≤ 1000000
theorem HOk.last (H : HOk bits held) : (lastOf held).length ≤ 1000 ∧ ∀ k ∈ lastOf held, k.length ≤ 1000000 := by
  have h : lastOf held ∈ held.dropLast ++ [lastOf held] := List.mem_append_right _ (.head _)
  rw [← held_last H.ne] at h
  exact H.keys _ h
theorem HOk.pos (H : HOk bits held) : 0 < held.length := List.length_pos_iff.mpr H.ne
theorem start_spec {offset : Int} (H : HOk bits held) (l0 : 0 ≤ lg) (hs : held.length ≤ offset / 2 ^ lg.toNat + 1) (hs2 : offset / 2 ^ lg.toNat ≤ 1000) :
    CallT true D 5 (.ref 164) [.obj 188 d, .int offset] (BHh b d k o f bits lg held false) (fun x hp' => x = .none ∧ ∃ k', hp' = BHh b d k' o f bits lg (grow held (offset / 2 ^ lg.toNat + 1 - held.length).toNat) false) := by
  have hp := H.pos
  have ol : (offs bits held.dropLast).length = held.length - 1 := by rw [offs_len, List.length_dropLast]
  have := start_spec0 (D := D) (b := b) (d := d) (k := k) (o := o) (f := f) (lg := lg) (bits := bits) (offset := offset) (ks := lastOf held) (os := offs bits held.dropLast) (fil := fils bits held.dropLast) H.last.2 H.last.1 H.b0 H.b1 l0 (by rw [ol]; (clear l0 hs2 ol; omega)) hs2
    (fun i => offs bits (grow held i).dropLast) (fun i => fils bits (grow held i).dropLast) (by unfold grow; simp) (by unfold grow; simp) (fun i => ?_) (fun i => ?_) (fun i => ?_)
  · refine this.mono (Nat.le_refl _) ?_
    rintro x hp' ⟨rfl, k', rfl⟩
    refine ⟨rfl, k', ?_⟩
    unfold BHh
    have e : (offset / 2 ^ lg.toNat - ((offs bits held.dropLast).length : Int)).toNat = (offset / 2 ^ lg.toNat + 1 - (held.length : Int)).toNat := by rw [ol]; (clear l0 hs hs2 ol; omega)
    have e2 : lastOf (grow held (offset / 2 ^ lg.toNat + 1 - (held.length : Int)).toNat) = if offset / 2 ^ lg.toNat = ((offs bits held.dropLast).length : Int) then lastOf held else [] := by
      unfold grow
      rw [grow_last, ol]
      by_cases q : (offset / 2 ^ lg.toNat + 1 - (held.length : Int)).toNat = 0
      · rw [if_pos q, if_pos (by clear l0 hs2 ol e; omega)]
      · rw [if_neg q, if_neg (by clear l0 hs hs2 hp ol; omega)]
    rw [e, e2]
  · have e : (grow held (i + 1)).dropLast = grow held i := grow_drop i
    have ne : grow held i ≠ [] := by unfold grow; simp [H.ne]
    rw [e]
    conv => lhs; rw [held_last ne]
    exact offs_snoc _ _
  · have e : (grow held (i + 1)).dropLast = grow held i := grow_drop i
    have ne : grow held i ≠ [] := by unfold grow; simp [H.ne]
    rw [e]
    conv => lhs; rw [held_last ne]
    rw [fils_snoc]
    unfold grow
    rw [grow_last]
    by_cases q : i = 0
    · rw [if_pos q, if_pos q]
    · rw [if_neg q, if_neg q, if_pos rfl]
  · refine Nat.le_trans (fils_drop_le _) ?_
    unfold grow
    rw [fils_empties]
    exact H.sz
end


theorem put_fix {n : Int} (h0 : 0 ≤ n) (h1 : n < 4294967296) : toB [n % 256, n / 256 % 256, n / 65536 % 256, n / 16777216] = fixL n := by
  have e : n / 16777216 = n / 16777216 % 256 := by omega
  rw [e]
  have : fixL n = toB [n / 256 ^ 0 % 256, n / 256 ^ 1 % 256, n / 256 ^ 2 % 256, n / 256 ^ 3 % 256] := rfl
  rw [this, Int.pow_zero, Int.ediv_one, show (256 : Int) ^ 1 = 256 from rfl, show (256 : Int) ^ 2 = 65536 from rfl, show (256 : Int) ^ 3 = 16777216 from rfl]
section
variable {b d k o f : Addr} {lg bits : Int} {fin : Bool} {held : List (List (List UInt8))}
theorem finish_spec (H : HOk bits held) (l0 : 0 ≤ lg) (l1 : lg ≤ 31) :
    CallT true D 5 (.ref 185) [.obj 188 d] (BHh b d k o f bits lg held false) (fun x hp' => x = .bytes (bodyL held bits lg) ∧ ∃ k' r, hp' = (b, bloomD bits) :: (d, builderD b lg k' o f true) :: r) := by
  have hp := H.pos
  refine CallT.enter' 4 ["self"] ["out", "place"] rfl rfl (by decide) (by decide) rfl (bind1 fun _ => rfl) rfl rfl ?_
  walk_at "enter"
  unfold BHh
  refine SV_cons (SV1_if (BV_plain ?_))
  repeat walk_at "s"
  refine xAtr (atr_fb_finished (by walk_at "has")) ?_
  repeat walk_at "t"
  have eS : spansOf held = if lastOf held = [] then held.dropLast else held := rfl
  have fz : (fils bits (spansOf held)).length ≤ 1000000 := by
    rw [eS]; split
    · exact Nat.le_trans (fils_drop_le _) H.sz
    · exact H.sz
  have sz : (starts bits (spansOf held)).length ≤ 4000 := by
    rw [starts_len]
    have := H.len
    rw [eS]; split
    · rw [List.length_dropLast]; (clear l0 l1 hp fz; omega)
    · (rename_i zq1; clear l0 l1 hp fz zq1; omega)
  have hlast := H.last
  refine SV1_mid (fun st => ∃ k' ks', st = ⟨[("self", some (.obj 188 d)), ("out", none), ("place", none)], BH b d k' o f bits lg ks' (offs bits (spansOf held)) (fils bits (spansOf held)) false⟩) ?_ ?_
  · repeat walk_at "s"
    refine xAtr (atr_fb_keys (by walk_at "has")) ?_
    repeat walk_at "s"
    refine CallE_v (len_plain (by walk_at "has") (by simp; (clear l0 l1 hp fz sz; omega))) ?_
    repeat walk_at "s"
    by_cases hE : lastOf held = []
    · refine dno (by rw [hE]; simp) ?_
      repeat walk_at "s"
      rw [eS, if_pos hE]
      exact ⟨rfl, _, _, rfl⟩
    · have hlen : (0 : Int) < ((lastOf held).map AV.bytes).length := by
        have := List.length_pos_iff.mpr hE
        simp; with_reducible assumption
      refine dyes hlen ?_
      repeat walk_at "s"
      refine xGetM (fb_getM_close (by walk_at "has")) (keepOk_ref (by kernel_rfl)) ?_
      repeat walk_at "s"
      have e : (fils bits held.dropLast ++ if lastOf held = [] then [] else oneL (lastOf held) bits) = fils bits held := by
        rw [← fils_snoc, ← held_last H.ne]
      refine CallE_c (close_spec hlast.2 hlast.1 H.b0 H.b1 (by rw [offs_len, List.length_dropLast]; have := H.len; (clear l0 l1 hp fz sz hlast hE hlen; omega)) (by rw [e]; exact H.sz)) ?_
      rintro _ _ ⟨rfl, k'', rfl⟩
      rw [e, ← offs_snoc, ← held_last H.ne]
      repeat walk_at "s"
      rw [eS, if_neg hE]
      exact ⟨rfl, _, _, rfl⟩
  rintro _ ⟨k', ks', rfl⟩
  generalize hS : spansOf held = spans at *
  unfold BH
  repeat walk_at "t"
  refine xSetA (fb_set (fs' := [("bloom", .obj 139 b), ("base_lg", .int lg), ("keys", .val (.ref k')), ("offsets", .val (.ref o)), ("filters", .val (.ref f)), ("finished", .bool true)]) (by walk_at "has") (by walk_at "swap") rfl (Nat.le_of_ble_eq_true rfl) (by kernel_rfl)) ?_
  repeat walk_at "t"
  refine xAtr (atr_fb_filters (by walk_at "has")) ?_
  repeat walk_at "t"
  refine CallE_c (call_baB (n := 0) (P := fun x hp' => ∃ a, x = .val (.ref a) ∧ hp' = _ ++ [(a, .bytearray (fils bits spans))]) (by walk_at "has") (by clear l0 l1 hp hlast sz; omega) fun a => ⟨a, rfl, rfl⟩) ?_
  rintro _ _ ⟨a, rfl, rfl⟩
  simp only [List.cons_append, List.nil_append]
  repeat walk_at "t"
  refine SV1_for (EV_freeze ?_)
  repeat walk_at "t"
  refine xAtr (atr_fb_offsets (by walk_at "has")) ?_
  refine ⟨o, rfl, _, _, _, by walk_at "drop", rfl, ?_⟩
  have ob : ∀ n ∈ offs bits spans, n ≤ 1000000 := fun n hn => by
    unfold offs at hn
    obtain ⟨i, _, rfl⟩ := List.mem_map.mp hn
    exact Nat.le_trans (fils_take_le _ _) fz
  refine ⟨_, Iter.list, fun i st => ∃ (oa : Option AV), st = ⟨[("self", some (.obj 188 d)), ("out", some (.val (.ref a))), ("place", oa)],
    [(b, bloomD bits), (d, builderD b lg k' o f true), (k', .plain (ks'.map .bytes)), (f, .bytearray (fils bits spans)), (a, .bytearray (fils bits spans ++ ((offs bits spans).take i).flatMap fun (n : Nat) => fixL n))]⟩, ⟨none, by simp⟩, ?_, ?_⟩
  · rintro i y st2 hy ⟨oa, rfl⟩
    rw [List.getElem?_map] at hy
    obtain ⟨n, hn, rfl⟩ := Option.map_eq_some_iff.mp hy
    obtain ⟨hi, hne⟩ := List.getElem?_eq_some_iff.mp hn
    have hnb := ob n (hne ▸ List.getElem_mem hi)
    have hil : i ≤ 4000 := by rw [starts_len] at sz; rw [offs_len] at hi; (rename_i zq1; clear l0 l1 hp hlast fz zq1 hne hnb; omega)
    repeat walk_at "t"
    refine xGetM (getM_ba_extend (by walk_at "has")) keepOk_builtin ?_
    repeat walk_at "t"
    refine CallE_w (put_spec (by clear l0 l1 hp hlast fz sz hi hne hnb hil; omega) (by clear l0 l1 hp hlast fz sz hi hne hil; omega)) ?_
    rw [put_fix (by clear l0 l1 hp hlast fz sz hi hne hnb hil; omega) (by clear l0 l1 hp hlast fz sz hi hne hil; omega)]
    repeat walk_at "t"
    have fl : (((offs bits spans).take i).flatMap fun (n : Nat) => fixL n).length ≤ 16000 := by
      rw [List.length_flatMap, show (fun n : Nat => (fixL n).length) = fun _ => 4 from rfl, List.map_const', List.sum_replicate_nat, List.length_take]
      (clear l0 l1 hp hlast fz sz hi hne hnb; omega)
    refine CallE_e (call_ba_extend (n := 0) (by walk_at "has") (by rw [fix_len, List.length_append]; (clear l0 l1 hp hlast sz hi hne hnb hil; omega)) (by walk_at "swap")) ?_
    repeat walk_at "t"
    refine ⟨some (.int n), ?_⟩
    have : ((offs bits spans).take (i + 1)).flatMap (fun (n : Nat) => fixL n) = ((offs bits spans).take i).flatMap (fun (n : Nat) => fixL n) ++ fixL n := by
      rw [List.take_add_one, hn, List.flatMap_append]; simp
    rw [this, List.append_assoc]
  · rintro st2 ⟨oa, rfl⟩
    rw [List.length_map, List.take_length]
    have hs : ((offs bits spans).flatMap fun (n : Nat) => fixL n) = starts bits spans := rfl
    rw [hs]
    repeat walk_at "t"
    refine xGetM (getM_ba_extend (by walk_at "has")) keepOk_builtin ?_
    repeat walk_at "t"
    refine xAtr (atr_fb_filters (by walk_at "has")) ?_
    repeat walk_at "t"
    refine CallE_v (len_ba (by walk_at "has") (by clear l0 l1 hp hlast sz; omega)) ?_
    repeat walk_at "t"
    refine CallE_w (put_spec (by clear l0 l1 hp hlast fz sz; omega) (by clear l0 l1 hp hlast sz; omega)) ?_
    rw [put_fix (by clear l0 l1 hp hlast fz sz; omega) (by clear l0 l1 hp hlast sz; omega)]
    repeat walk_at "t"
    refine CallE_e (call_ba_extend (n := 0) (by walk_at "has") (by rw [fix_len, List.length_append]; (clear l0 l1 hp hlast; omega)) (by walk_at "swap")) ?_
    repeat walk_at "t"
    refine xGetM (getM_ba_append (by walk_at "has")) keepOk_builtin ?_
    repeat walk_at "t"
    refine xAtr (atr_fb_lg (by walk_at "has")) ?_
    repeat walk_at "t"
    refine CallE_e (call_ba_append (n := 0) (by walk_at "has") l0 (by clear l0 hp hlast fz sz; omega) (by rw [List.length_append, List.length_append, fix_len]; (clear l0 l1 hp hlast; omega)) (by walk_at "swap")) ?_
    repeat walk_at "t"
    refine CallE_v (bytes_ba (by walk_at "has") (by rw [List.length_append, List.length_append, List.length_append, fix_len]; simp; (clear l0 l1 hp hlast; omega))) ?_
    unfold bodyL
    rw [hS]
    exact ⟨rfl, k', _, rfl⟩
end


/-! _law_refused, _law_bad -/
section
variable {b d k o f : Addr} {lg bits : Int} {fin : Bool} {held : List (List (List UInt8))}
theorem refused_start {offset : Int} (H : HOk bits held) (l0 : 0 ≤ lg) (hs : held.length ≤ offset / 2 ^ lg.toNat + 1) (hs2 : offset / 2 ^ lg.toNat ≤ 1000) :
    CallT true D 6 (.ref 280) [.obj 188 d, .int 1, .int offset] (BHh b d k o f bits lg held false) (fun x hp' => x = .bool false ∧ ∃ k', hp' = BHh b d k' o f bits lg (grow held (offset / 2 ^ lg.toNat + 1 - held.length).toNat) false) := by
  refine CallT.enterF 5 ["builder", "act", "told"] [] rfl rfl (by decide) (by decide) rfl (bind3 fun _ _ _ => rfl) rfl rfl ?_
  walk_at "enter"
  refine SVF_cons (SV1F_try ?_)
  repeat walk_at "s"
  refine xGetM (fb_getM_start (by unfold BHh BH; walk_at "has")) (keepOk_ref (by kernel_rfl)) ?_
  repeat walk_at "s"
  refine CallE_c (start_spec H l0 hs hs2) ?_
  rintro _ _ ⟨rfl, k', rfl⟩
  repeat walk_at "s"
  refine SVF_of ?_
  repeat walk_at "s"
  exact ⟨rfl, k', rfl⟩
theorem refused_startX {offset : Int} {os : List AV} (h : Has hp d (builderD b lg k o f fin)) (ho : Has hp o (.plain os)) (hz : os.length ≤ 1000000) (l0 : 0 ≤ lg) (hs : fin = true ∨ offset / 2 ^ lg.toNat < os.length) :
    CallT false D 6 (.ref 280) [.obj 188 d, .int 1, .int offset] hp (fun x hp' => x = .bool true ∧ hp' = hp) := by
  refine CallT.enterF 5 ["builder", "act", "told"] [] rfl rfl (by decide) (by decide) rfl (bind3 fun _ _ _ => rfl) rfl rfl ?_
  walk_at "enter"
  refine SVF_cons (SV1F_tryX ?_ rfl (by decide) (by kernel_rfl) exc_order)
  refine SVX_head (SV1X_if ?_)
  repeat walk_at "s"
  refine SVX_head (SV1X_if ?_)
  repeat walk_at "s"
  refine SVX_head (SV1X_expr (EVX_Method ?_))
  repeat walk_at "s"
  refine ex_getM (fb_getM_start h) (keepOk_ref (by kernel_rfl)) ?_
  repeat walk_at "s"
  refine CallXE_c (start_specX h ho hz l0 hs) ?_
  rintro hp' rfl
  repeat walk_at "s"
  exact ⟨rfl, rfl⟩
theorem refused_addX {x : AV} (h : Has hp d (builderD b lg k o f true)) : CallT false D 6 (.ref 280) [.obj 188 d, .int 0, x] hp (fun x hp' => x = .bool true ∧ hp' = hp) := by
  refine CallT.enterF 5 ["builder", "act", "told"] [] rfl rfl (by decide) (by decide) rfl (bind3 fun _ _ _ => rfl) rfl rfl ?_
  walk_at "enter"
  refine SVF_cons (SV1F_tryX ?_ rfl (by decide) (by kernel_rfl) exc_order)
  refine SVX_head (SV1X_if ?_)
  repeat walk_at "s"
  refine SVX_head (SV1X_expr (EVX_Method ?_))
  repeat walk_at "s"
  refine ex_getM (fb_getM_add h) (keepOk_ref (by kernel_rfl)) ?_
  repeat walk_at "s"
  refine CallXE_c (add_specX h) ?_
  rintro hp' rfl
  repeat walk_at "s"
  exact ⟨rfl, rfl⟩
theorem refused_finX {x : AV} (h : Has hp d (builderD b lg k o f true)) : CallT false D 6 (.ref 280) [.obj 188 d, .int 2, x] hp (fun x hp' => x = .bool true ∧ hp' = hp) := by
  refine CallT.enterF 5 ["builder", "act", "told"] [] rfl rfl (by decide) (by decide) rfl (bind3 fun _ _ _ => rfl) rfl rfl ?_
  walk_at "enter"
  refine SVF_cons (SV1F_tryX ?_ rfl (by decide) (by kernel_rfl) exc_order)
  refine SVX_head (SV1X_if ?_)
  repeat walk_at "s"
  refine SVX_head (SV1X_if ?_)
  repeat walk_at "s"
  refine SVX_head (SV1X_expr (EVX_Method ?_))
  repeat walk_at "s"
  refine ex_getM (fb_getM_finish h) (keepOk_ref (by kernel_rfl)) ?_
  repeat walk_at "s"
  refine CallXE_c (finish_specX h) ?_
  rintro hp' rfl
  repeat walk_at "s"
  exact ⟨rfl, rfl⟩
theorem bad_spec (h0 : bits ≤ 0) (h1 : lg < 0 ∨ 31 < lg) : CallT true D 4 (.ref 287) [.int bits, .int lg] hp (fun x hp' => x = .bool true ∧ ∃ r, hp' = hp ++ r) := by
  refine CallT.enterF 3 ["bits", "lg"] ["n"] rfl rfl (by decide) (by decide) rfl (bind2 fun _ _ => rfl) rfl rfl ?_
  walk_at "enter"
  refine SVF_cons (SV1F_of ?_)
  repeat walk_at "s"
  refine SVF_cons (SV1F_try ?_)
  repeat walk_at "s"
  refine CallE_c (bloom_new (by decide) (by decide)) ?_
  rintro _ _ ⟨d1, rfl, rfl⟩
  repeat walk_at "s"
  refine CallE_c (fb_new (by decide) (by decide)) ?_
  rintro _ _ ⟨d2, k2, o2, f2, rfl, rfl⟩
  repeat walk_at "s"
  refine CallE_c (bloom_new (by decide) (by decide)) ?_
  rintro _ _ ⟨d3, rfl, rfl⟩
  repeat walk_at "s"
  refine CallE_c (fb_new (by decide) (by decide)) ?_
  rintro _ _ ⟨d4, k4, o4, f4, rfl, rfl⟩
  repeat walk_at "s"
  rw [List.append_assoc, List.append_assoc, List.append_assoc]
  generalize [(d1, bloomD 1)] ++ _ = r
  refine SVF_cons (SV1F_tryX ?_ rfl (by decide) (by kernel_rfl) exc_bad)
  refine SVX_head (SV1X_expr (EVX_Call ?_))
  repeat walk_at "s"
  refine CallXE_c (bloom_newX (by clear h1; omega)) ?_
  rintro hp' rfl
  repeat walk_at "s"
  refine SVF_cons (SV1F_tryX ?_ rfl (by decide) (by kernel_rfl) exc_bad)
  refine SVX_head (SV1X_expr (EVX_Call ?_))
  repeat walk_at "s"
  refine CallE_c (bloom_new (by decide) (by decide)) ?_
  rintro _ _ ⟨d5, rfl, rfl⟩
  repeat walk_at "s"
  refine CallXE_c (fb_newX h1) ?_
  rintro hp' rfl
  repeat walk_at "s"
  refine SVF_of ?_
  repeat walk_at "s"
  exact ⟨rfl, r ++ [(d5, bloomD 1)], List.append_assoc ..⟩
end


/-! what has been put in is found -/
theorem oct_app {p q : List UInt8} {i : Nat} : oct (p ++ q) (p.length + i) = oct q i := by
  unfold oct
  rw [List.getD_eq_getElem?_getD, List.getD_eq_getElem?_getD, List.getElem?_append_right (by omega)]
  simp
theorem oct_left {p q : List UInt8} {i : Nat} (h : i < p.length) : oct (p ++ q) i = oct p i := by
  unfold oct
  rw [List.getD_eq_getElem?_getD, List.getD_eq_getElem?_getD, List.getElem?_append_left h]
theorem read_app {p q : List UInt8} {i : Nat} : read32 (p ++ q) (p.length + i) = read32 q i := by
  unfold read32
  rw [oct_app, show p.length + i + 1 = p.length + (i + 1) by omega, oct_app, show p.length + i + 2 = p.length + (i + 2) by omega, oct_app, show p.length + i + 3 = p.length + (i + 3) by omega, oct_app]
theorem toB_oct {j : Int} (h0 : 0 ≤ j) (h1 : j < 256) : ((j.toNat.toUInt8).toNat : Int) = j := by
  rw [Nat.toUInt8_eq, UInt8.toNat_ofNat']
  omega
theorem fixL_eq (n : Int) : fixL n = [(n % 256).toNat.toUInt8, (n / 256 % 256).toNat.toUInt8, (n / 65536 % 256).toNat.toUInt8, (n / 16777216 % 256).toNat.toUInt8] := by
  have : fixL n = toB [n / 256 ^ 0 % 256, n / 256 ^ 1 % 256, n / 256 ^ 2 % 256, n / 256 ^ 3 % 256] := rfl
  rw [this, Int.pow_zero, Int.ediv_one, show (256 : Int) ^ 1 = 256 from rfl, show (256 : Int) ^ 2 = 65536 from rfl, show (256 : Int) ^ 3 = 16777216 from rfl]
  rfl
theorem read_fix {n : Int} {q : List UInt8} (h0 : 0 ≤ n) (h1 : n < 4294967296) : read32 (fixL n ++ q) 0 = n := by
  have e0 : oct (fixL n ++ q) 0 = n % 256 := by
    rw [fixL_eq]; exact toB_oct (by clear h0 h1; omega) (by clear h0 h1; omega)
  have e1 : oct (fixL n ++ q) 1 = n / 256 % 256 := by
    rw [fixL_eq]; exact toB_oct (by clear h0 h1 e0; omega) (by clear h0 h1 e0; omega)
  have e2 : oct (fixL n ++ q) 2 = n / 65536 % 256 := by
    rw [fixL_eq]; exact toB_oct (by clear h0 h1 e0 e1; omega) (by clear h0 h1 e0 e1; omega)
  have e3 : oct (fixL n ++ q) 3 = n / 16777216 % 256 := by
    rw [fixL_eq]; exact toB_oct (by clear h0 h1 e0 e1 e2; omega) (by clear h0 h1 e0 e1 e2; omega)
  unfold read32
  rw [e0, e1, e2, e3]
  (clear e0 e1 e2 e3; omega)
noncomputable def tab (l : List Nat) : List UInt8 := l.flatMap fun (n : Nat) => fixL n
theorem tab_len (l : List Nat) : (tab l).length = 4 * l.length := by
  unfold tab
  rw [List.length_flatMap, show (fun n : Nat => (fixL n).length) = fun _ => 4 from rfl, List.map_const', List.sum_replicate_nat]
  omega
theorem read_tab {p q : List UInt8} {l : List Nat} {i n : Nat} (h : l[i]? = some n) (hn : n < 4294967296) : read32 (p ++ (tab l ++ q)) (p.length + 4 * i) = n := by
  obtain ⟨hi, he⟩ := List.getElem?_eq_some_iff.mp h
  have e : tab l = tab (l.take i) ++ (fixL n ++ tab (l.drop (i + 1))) := by
    unfold tab
    conv => lhs; rw [← List.take_append_drop i l, List.drop_eq_getElem_cons hi, he]
    rw [List.flatMap_append, List.flatMap_cons]
  have e4 : 4 * i = (tab (l.take i)).length := by rw [tab_len, List.length_take]; (clear hn; omega)
  rw [read_app, e, List.append_assoc, List.append_assoc, e4]
  have := read_app (p := tab (l.take i)) (q := fixL n ++ (tab (l.drop (i + 1)) ++ q)) (i := 0)
  exact this.trans (read_fix (by clear hn hi he e4 this; omega) (by clear hi he e4 this; omega))
theorem oneL_len (ks : List (List UInt8)) (bits : Int) : (oneL ks bits).length = roomOf ks.length bits + 1 := by simp [oneL, filt]
theorem oct8_bit : ∀ (b0 b1 b2 b3 b4 b5 b6 b7 : Bool), (!decide ((oct8 b0 b1 b2 b3 b4 b5 b6 b7 : Int) / 2 ^ 0 % 2 = 0)) = b0 ∧ (!decide ((oct8 b0 b1 b2 b3 b4 b5 b6 b7 : Int) / 2 ^ 1 % 2 = 0)) = b1 ∧ (!decide ((oct8 b0 b1 b2 b3 b4 b5 b6 b7 : Int) / 2 ^ 2 % 2 = 0)) = b2 ∧
    (!decide ((oct8 b0 b1 b2 b3 b4 b5 b6 b7 : Int) / 2 ^ 3 % 2 = 0)) = b3 ∧ (!decide ((oct8 b0 b1 b2 b3 b4 b5 b6 b7 : Int) / 2 ^ 4 % 2 = 0)) = b4 ∧ (!decide ((oct8 b0 b1 b2 b3 b4 b5 b6 b7 : Int) / 2 ^ 5 % 2 = 0)) = b5 ∧ (!decide ((oct8 b0 b1 b2 b3 b4 b5 b6 b7 : Int) / 2 ^ 6 % 2 = 0)) = b6 ∧
    (!decide ((oct8 b0 b1 b2 b3 b4 b5 b6 b7 : Int) / 2 ^ 7 % 2 = 0)) = b7 := by decide +kernel
theorem octF_bit (f : Nat → Bool) {i j : Nat} (hj : j < 8) : (!decide ((octF f i : Int) / 2 ^ j % 2 = 0)) = f (8 * i + j) := by
  obtain ⟨q0, q1, q2, q3, q4, q5, q6, q7⟩ := oct8_bit (f (8 * i)) (f (8 * i + 1)) (f (8 * i + 2)) (f (8 * i + 3)) (f (8 * i + 4)) (f (8 * i + 5)) (f (8 * i + 6)) (f (8 * i + 7))
  unfold octF
  have : j = 0 ∨ j = 1 ∨ j = 2 ∨ j = 3 ∨ j = 4 ∨ j = 5 ∨ j = 6 ∨ j = 7 := by omega
  rcases this with rfl | rfl | rfl | rfl | rfl | rfl | rfl | rfl
  · exact q0
  · exact q1
  · exact q2
  · exact q3
  · exact q4
  · exact q5
  · exact q6
  · exact q7
theorem bitAt_filt {f : Nat → Bool} {room pb x : Nat} (h : x < 8 * room) : bitAt (filt f room pb) (x : Int) = f x := by
  have x8 : (x : Int) / 8 = ((x / 8 : Nat) : Int) := by (clear h; omega)
  have m8 : (x : Int) % 8 = ((x % 8 : Nat) : Int) := by (clear h x8; omega)
  unfold bitAt
  rw [x8, m8, Int.toNat_natCast, Int.toNat_natCast]
  have e : oct (filt f room pb) (x / 8) = (octF f (x / 8) : Int) := by
    have h8 : x / 8 < room := by (clear x8 m8; omega)
    have : filt f room pb = outL f room ++ [pb.toUInt8] := rfl
    rw [this, oct_left (by rw [out_len]; exact h8)]
    unfold oct
    rw [out_at h8]
  rw [e, octF_bit f (by clear h x8 m8 e; omega), show 8 * (x / 8) + x % 8 = x by (clear h x8 m8 e; omega)]
theorem lit_one {ks : List (List UInt8)} {bits : Int} {key : List UInt8} (b0 : 0 ≤ bits) (b1 : bits ≤ 1000) (hn : ks.length ≤ 1000) (hk : key ∈ ks) : litB (oneL ks bits) key = true := by
  have rr := room_range b0 b1 hn
  have pr := probes_range (bits := bits)
  have ol := oneL_len ks bits
  have lo : lastO (oneL ks bits) = probesOf bits := by
    unfold lastO
    rw [ol]
    have : oneL ks bits = outL (on (allLamps ks (probesOf bits) ((8 * roomOf ks.length bits : Nat) : Int))) (roomOf ks.length bits) ++ [(probesOf bits).toUInt8] := rfl
    rw [this]
    have e := oct_app (p := outL (on (allLamps ks (probesOf bits) ((8 * roomOf ks.length bits : Nat) : Int))) (roomOf ks.length bits)) (q := [(probesOf bits).toUInt8]) (i := 0)
    rw [out_len] at e
    show oct _ (roomOf ks.length bits + 0) = _
    rw [e]
    show (((probesOf bits).toUInt8).toNat : Int) = _
    rw [Nat.toUInt8_eq, UInt8.toNat_ofNat']
    (clear b0 b1 hn rr ol e; omega)
  unfold litB
  rw [lo, if_neg (by clear b0 b1 hn pr lo; omega), if_neg (by clear b0 b1 hn rr ol lo; omega), ol, Int.toNat_natCast, Nat.add_sub_cancel, List.all_eq_true]
  intro x hx
  have xr := lamps_range (by clear b0 b1 hn pr ol lo; omega) hx
  obtain ⟨n, rfl⟩ := Int.eq_ofNat_of_zero_le xr.1
  unfold oneL
  rw [bitAt_filt (by clear b0 b1 hn rr pr ol lo; omega)]
  unfold on
  rw [decide_eq_true_eq]
  unfold allLamps
  exact List.mem_flatMap.mpr ⟨key, hk, hx⟩

theorem offs_get {bits : Int} {spans : List (List (List UInt8))} {i : Nat} (h : i ≤ spans.length) : (offs bits spans ++ [(fils bits spans).length])[i]? = some (fils bits (spans.take i)).length := by
  rcases Nat.lt_or_eq_of_le h with h | h
  · rw [List.getElem?_append_left (by rw [offs_len]; exact h)]
    unfold offs
    rw [List.getElem?_map, List.getElem?_range h]; rfl
  · rw [List.getElem?_append_right (by rw [offs_len]; (rename_i zq1; clear zq1; omega)), offs_len, h, Nat.sub_self, List.take_length]; rfl
theorem body_eq {held : List (List (List UInt8))} {bits lg : Int} : bodyL held bits lg = fils bits (spansOf held) ++ (tab (offs bits (spansOf held) ++ [(fils bits (spansOf held)).length]) ++ toB [lg]) := by
  unfold bodyL tab starts
  rw [List.flatMap_append]
  simp
theorem cut_mid {p m q : List UInt8} : cut (p ++ m ++ q) (some (p.length : Int)) (some ((p.length + m.length : Nat) : Int)) = m := by
  rw [show ((p.length + m.length : Nat) : Int) = (p.length : Int) + (m.length : Int) by omega, cut_of m.length rfl (by simp), List.append_assoc, List.drop_left' rfl, List.take_left' rfl]
theorem cut_fils {bits : Int} {spans : List (List (List UInt8))} {span : Nat} {ks : List (List UInt8)} (efs : fils bits (spans.take (span + 1)) = fils bits (spans.take span) ++ oneL ks bits) (rest : List UInt8) :
    cut (fils bits spans ++ rest) (some ((fils bits (spans.take span)).length : Int)) (some ((fils bits (spans.take (span + 1))).length : Int)) = oneL ks bits := by
  have hf : fils bits spans = fils bits (spans.take (span + 1)) ++ fils bits (spans.drop (span + 1)) := by
    unfold fils
    rw [← List.flatMap_append, List.take_append_drop]
  have e : fils bits spans ++ rest = fils bits (spans.take span) ++ oneL ks bits ++ (fils bits (spans.drop (span + 1)) ++ rest) := by
    rw [← efs, ← List.append_assoc, ← hf]
  have lt : (fils bits (spans.take (span + 1))).length = (fils bits (spans.take span)).length + (oneL ks bits).length := by rw [efs, List.length_append]
  rw [lt, e]
  generalize fils bits (spans.take span) = p
  generalize oneL ks bits = m
  exact cut_mid
theorem body_true {held : List (List (List UInt8))} {bits lg : Int} {span : Nat} {ks : List (List UInt8)} {key : List UInt8} (H : HOk bits held) (l0 : 0 ≤ lg) (l1 : lg ≤ 31) (hs : held[span]? = some ks) (hk : key ∈ ks) (hlt : (key.length : Int) < 2 ^ lg.toNat) :
    ansB (bodyL held bits lg) ((span : Int) * 2 ^ lg.toNat + key.length) key = true := by
  have hne : ks ≠ [] := fun q => by rw [q] at hk; cases hk
  obtain ⟨hi, he⟩ := List.getElem?_eq_some_iff.mp hs
  have hsp : (spansOf held)[span]? = some ks := by
    unfold spansOf
    split
    · rename_i hE
      rw [List.getElem?_dropLast]
      by_cases q : span < held.length - 1
      · rw [if_pos q]; exact hs
      · refine absurd ?_ hne
        have : lastOf held = ks := by
          unfold lastOf
          rw [List.getLast?_eq_getElem?, show held.length - 1 = span by (clear l0 l1 hlt hne; omega), hs]; rfl
        rw [← this]; exact hE
    · exact hs
  have hfz : (fils bits (spansOf held)).length ≤ 1000000 := by
    unfold spansOf; split
    · exact Nat.le_trans (fils_drop_le _) H.sz
    · exact H.sz
  have hks := H.keys ks (he ▸ List.getElem_mem hi)
  rw [body_eq]
  generalize spansOf held = spans at *
  obtain ⟨hi2, _⟩ := List.getElem?_eq_some_iff.mp hsp
  have p2 := pow2 l0 l1
  have espan : ((span : Int) * 2 ^ lg.toNat + key.length) / 2 ^ lg.toNat = span := by
    rw [Int.add_comm, Int.add_mul_ediv_right _ _ (by clear l0 l1 hlt hne hks hfz; omega), Int.ediv_eq_zero_of_lt (by clear l0 l1 hlt hne hks hfz p2; omega) hlt]; (clear l0 l1 hlt hne hks hfz p2; omega)
  have hT := tab_len (offs bits spans ++ [(fils bits spans).length])
  rw [List.length_append, offs_len] at hT
  have hT' : (tab (offs bits spans ++ [(fils bits spans).length])).length = 4 * spans.length + 4 := by rw [hT]; simp; (clear l0 l1 hlt hne hks hfz p2 espan hT; omega)
  have f1 := fils_take_le (bits := bits) spans span
  have f2 := fils_take_le (bits := bits) spans (span + 1)
  have rd : ∀ i, i ≤ spans.length → read32 (fils bits spans ++ (tab (offs bits spans ++ [(fils bits spans).length]) ++ toB [lg])) ((fils bits spans).length + 4 * i) = ((fils bits (spans.take i)).length : Int) := fun i hi =>
    read_tab (offs_get hi) (by have := fils_take_le (bits := bits) spans i; (clear l0 l1 hlt hne hks p2 espan hT hT' f1 f2 hi; omega))
  have hlen : (fils bits spans ++ (tab (offs bits spans ++ [(fils bits spans).length]) ++ toB [lg])).length = (fils bits spans).length + 4 * spans.length + 5 := by
    rw [List.length_append, List.length_append, hT']; simp [toB]; (clear l0 l1 hlt hne hks hfz p2 espan hT hT' f1 f2; omega)
  have hlast : lastO (fils bits spans ++ (tab (offs bits spans ++ [(fils bits spans).length]) ++ toB [lg])) = lg := by
    unfold lastO
    rw [hlen, ← List.append_assoc]
    have e := oct_app (p := fils bits spans ++ tab (offs bits spans ++ [(fils bits spans).length])) (q := toB [lg]) (i := 0)
    rw [List.length_append, hT'] at e
    refine e.trans ?_
    exact toB_oct l0 (by clear l0 hlt hne hks hfz p2 espan hT hT' f1 f2 hlen e; omega)
  have e0 := rd spans.length (Nat.le_refl _)
  have e1 := rd span (by clear l0 l1 hlt hne hks hfz p2 espan hT hT' f1 f2 hlen hlast e0; omega)
  have e2 := rd (span + 1) (by clear l0 l1 hlt hne hks hfz p2 espan hT hT' f1 f2 hlen hlast e0 e1; omega)
  have efs := fils_succ (bits := bits) hsp
  rw [if_neg hne] at efs
  have hcut : cut (fils bits spans ++ (tab (offs bits spans ++ [(fils bits spans).length]) ++ toB [lg])) (some ((fils bits (spans.take span)).length : Int)) (some ((fils bits (spans.take (span + 1))).length : Int)) = oneL ks bits := cut_fils efs _
  have ol := oneL_len ks bits
  have lt : (fils bits (spans.take (span + 1))).length = (fils bits (spans.take span)).length + (oneL ks bits).length := by rw [efs, List.length_append]
  rw [List.take_length] at e0
  generalize hD : fils bits spans ++ (tab (offs bits spans ++ [(fils bits spans).length]) ++ toB [lg]) = data at *
  unfold ansB
  have i0 : data.length - 5 = (fils bits spans).length + 4 * spans.length := by (clear l0 l1 hlt hne hks hfz p2 espan hT hT' f1 f2 ol lt hlast e0 e1 e2; omega)
  rw [hlast, espan, i0, e0]
  have i1 : (((fils bits spans).length : Int) + 4 * (span : Int)).toNat = (fils bits spans).length + 4 * span := by (clear l0 l1 hlt hne hks hfz p2 espan hT hT' f1 f2 ol lt hlen hlast e0 e1 e2 i0; omega)
  have i2 : (((fils bits spans).length : Int) + 4 * (span : Int) + 4).toNat = (fils bits spans).length + 4 * (span + 1) := by (clear l0 l1 hlt hne hks hfz p2 espan hT hT' f1 f2 ol lt hlen hlast e0 e1 e2 i0 i1; omega)
  rw [i1, i2, e1, e2, hcut, lit_one H.b0 H.b1 hks.1 hk, if_neg (by clear l0 l1 hlt hne hks hfz p2 espan hT hT' f1 f2 ol lt hlen hlast e0 e1 e2 i1 i2; omega), if_neg (by clear l0 hlt hne hks hfz p2 espan hT hT' f1 f2 ol lt hlen hlast e0 e1 e2 i1 i2; omega), if_neg (by clear l0 l1 hlt hne hks hfz p2 espan hT hT' f1 f2 ol lt hlen hlast e0 e1 e2 i1 i2; omega)]
  have rr := room_range H.b0 H.b1 hks.1
  rw [if_neg (by clear l0 l1 hlt hne hks hfz p2 espan hT hT' f1 hlen hlast e0 e1 e2 i0 i1 i2; omega), if_pos (by clear l0 l1 hlt hne hks hfz p2 espan hT hT' f1 f2 hlen hlast e0 e1 e2 i0 i1 i2 rr; omega)]


/-! law: the parts -/
theorem take_hd {rest : Hp} {tp : List Int} {k m : Int} {a : Addr} (hk : 0 ≤ k) (hk2 : k < 1000000) (hm : 0 < m) (ht : 0 < tp.length) (ht2 : tp.length ≤ 40) :
    CallT false D 1 (.ref 227) [.list (tp.map .int), .val (.ref a), .int m] ((a, .list [.int k]) :: rest) (fun x hp2 => ∃ v, x = .int v ∧ 0 ≤ v ∧ v < m ∧ hp2 = (a, .list [.int (k + 1)]) :: rest) :=
  take_at (hpf := fun k => (a, .list [.int k]) :: rest) ⟨fun _ => .head, fun _ _ => .head⟩ hk hk2 hm ht ht2
section
variable {b d k o f : Addr} {lg bits : Int} {fin : Bool} {held : List (List (List UInt8))}
theorem start_specF {offset : Int} (h : Has hp d (builderD b lg k o f true)) : CallX false D 1 (.ref 164) [.obj 188 d, .int offset] hp 85 (fun hp' => hp' = hp) := by
  refine CallX.enter 0 ["self", "offset"] ["span"] rfl rfl (by decide) (by decide) rfl (bind2 fun _ _ => rfl) rfl rfl ?_
  walk_at "enter"
  refine SVX_head (SV1X_if (BV_plain ?_))
  repeat walk_at "s"
  refine xAtr (atr_fb_finished h) ?_
  repeat walk_at "s"
  exact SVX_head (SV1X_raise rfl (by decide) (by kernel_rfl) exc_order rfl rfl)
theorem refused_startF {offset : Int} (h : Has hp d (builderD b lg k o f true)) : CallT false D 6 (.ref 280) [.obj 188 d, .int 1, .int offset] hp (fun x hp' => x = .bool true ∧ hp' = hp) := by
  refine CallT.enterF 5 ["builder", "act", "told"] [] rfl rfl (by decide) (by decide) rfl (bind3 fun _ _ _ => rfl) rfl rfl ?_
  walk_at "enter"
  refine SVF_cons (SV1F_tryX ?_ rfl (by decide) (by kernel_rfl) exc_order)
  refine SVX_head (SV1X_if ?_)
  repeat walk_at "s"
  refine SVX_head (SV1X_if ?_)
  repeat walk_at "s"
  refine SVX_head (SV1X_expr (EVX_Method ?_))
  repeat walk_at "s"
  refine ex_getM (fb_getM_start h) (keepOk_ref (by kernel_rfl)) ?_
  repeat walk_at "s"
  refine CallXE_c (start_specF h) ?_
  rintro hp' rfl
  repeat walk_at "s"
  exact ⟨rfl, rfl⟩
end
noncomputable def addK (held : List (List (List UInt8))) (key : List UInt8) : List (List (List UInt8)) := held.dropLast ++ [lastOf held ++ [key]]
theorem addK_last {held : List (List (List UInt8))} {key : List UInt8} : lastOf (addK held key) = lastOf held ++ [key] := by unfold addK lastOf; simp
theorem addK_drop {held : List (List (List UInt8))} {key : List UInt8} : (addK held key).dropLast = held.dropLast := by unfold addK; simp
theorem addK_len {held : List (List (List UInt8))} {key : List UInt8} (h : held ≠ []) : (addK held key).length = held.length := by
  unfold addK
  rw [List.length_append, List.length_dropLast]
  have := List.length_pos_iff.mpr h
  simp; (clear h; omega)
noncomputable def heldL (held : List (List (List UInt8))) : List AV := held.map fun ks => .list (ks.map .bytes)
theorem heldL_len {held : List (List (List UInt8))} : (heldL held).length = held.length := by simp [heldL]
theorem heldL_last {held : List (List (List UInt8))} (h : held ≠ []) : (heldL held)[held.length - 1]? = some (.list ((lastOf held).map .bytes)) := by
  unfold heldL
  rw [List.getElem?_map]
  unfold lastOf
  rw [List.getLast?_eq_getElem?]
  have := List.length_pos_iff.mpr h
  rw [List.getElem?_eq_getElem (by clear h; omega)]; rfl
theorem heldL_set {held : List (List (List UInt8))} {key : List UInt8} (h : held ≠ []) : (heldL held).set (held.length - 1) (.list ((lastOf held).map AV.bytes ++ [.bytes key])) = heldL (addK held key) := by
  have hl := List.length_pos_iff.mpr h
  have e : heldL held = heldL held.dropLast ++ [.list ((lastOf held).map .bytes)] := by
    conv => lhs; rw [held_last h]
    unfold heldL
    rw [List.map_append]; rfl
  rw [e, List.set_append_right _ _ (by rw [heldL_len, List.length_dropLast]; (clear h hl; omega)), heldL_len, List.length_dropLast, Nat.sub_self]
  unfold addK heldL
  simp
theorem heldL_snoc {held : List (List (List UInt8))} : heldL held ++ [.list []] = heldL (held ++ [[]]) := by simp [heldL]
theorem grow_succ {held : List (List (List UInt8))} {n : Nat} : grow held n ++ [[]] = grow held (n + 1) := by
  unfold grow
  rw [List.append_assoc, List.replicate_succ']
theorem grow_len {held : List (List (List UInt8))} {n : Nat} : (grow held n).length = held.length + n := by unfold grow; simp
theorem grow_zero {held : List (List (List UInt8))} : grow held 0 = held := by unfold grow; simp
/-- what holds of the spans while keys are put in -/
structure Inv (bits : Int) (i : Nat) (held : List (List (List UInt8))) : Prop where
  ne : held ≠ []
  keys : ∀ ks ∈ held, ks.length ≤ i ∧ ∀ k ∈ ks, k.length ≤ 5
  len : held.length ≤ 6 + 2 * i
theorem fils_small {bits : Int} (b0 : 1 ≤ bits) (b1 : bits ≤ 60) : ∀ {held : List (List (List UInt8))}, (∀ ks ∈ held, ks.length ≤ 6) → (fils bits held).length ≤ 60 * held.length
  | [], _ => by simp [fils]
  | ks :: r, h => by
    have ih := fils_small b0 b1 fun x hx => h x (.tail _ hx)
    have e : fils bits (ks :: r) = (if ks = [] then [] else oneL ks bits) ++ fils bits r := by unfold fils; rw [List.flatMap_cons]
    have h1 : (if ks = [] then [] else oneL ks bits).length ≤ 60 := by
      split
      · simp
      · have hk := h ks (.head _)
        have rr := room_range (n := ks.length) (bits := bits) (by rename_i zq1; clear b1 ih zq1 hk; omega) (by rename_i zq1; clear b0 ih zq1 hk; omega) (by rename_i zq1; clear b0 b1 ih zq1; omega)
        have : (ks.length : Int) * bits ≤ 6 * 60 := Int.mul_le_mul (by rename_i zq1; clear b0 b1 ih zq1 rr; omega) b1 (by rename_i zq1; clear b1 ih zq1 hk rr; omega) (by decide)
        rw [oneL_len]
        (rename_i zq1; clear b0 b1 ih zq1 hk; omega)
    rw [e, List.length_append, List.length_cons]
    (clear b0 b1; omega)
theorem Inv.ok {bits : Int} {i : Nat} {held : List (List (List UInt8))} (I : Inv bits i held) (hi : i ≤ 6) (b0 : 1 ≤ bits) (b1 : bits ≤ 60) : HOk bits held := by
  have hf := fils_small (bits := bits) b0 b1 (held := held) fun ks hks => Nat.le_trans (I.keys ks hks).1 hi
  have := I.len
  exact ⟨I.ne, fun ks hks => ⟨by have := (I.keys ks hks).1; (rename_i zq1; clear b0 b1 hf zq1; omega), fun k hk => by have := (I.keys ks hks).2 k hk; (rename_i zq1; clear hi b0 b1 hf zq1; omega)⟩, by (clear b0 b1 hf; omega), by (clear hi b1 hf this; omega), by (clear hi b0 hf this; omega), by (clear b0 b1; omega)⟩
theorem Inv.up {bits : Int} {i j : Nat} {held : List (List (List UInt8))} (I : Inv bits i held) (h : i ≤ j) : Inv bits j held :=
  ⟨I.ne, fun ks hks => ⟨Nat.le_trans (I.keys ks hks).1 h, (I.keys ks hks).2⟩, by have := I.len; omega⟩
theorem Inv.add {bits : Int} {i : Nat} {held : List (List (List UInt8))} {key : List UInt8} (I : Inv bits i held) (hk : key.length ≤ 5) : Inv bits (i + 1) (addK held key) := by
  have hl : lastOf held ∈ held := by
    have h : lastOf held ∈ held.dropLast ++ [lastOf held] := List.mem_append_right _ (.head _)
    rwa [← held_last I.ne] at h
  refine ⟨by unfold addK; simp, fun ks hks => ?_, by rw [addK_len I.ne]; have := I.len; (clear hk; omega)⟩
  unfold addK at hks
  rcases List.mem_append.mp hks with hks | hks
  · have := I.keys ks (List.dropLast_subset _ hks)
    exact ⟨by (clear hk; omega), this.2⟩
  · cases List.mem_singleton.mp hks
    have := I.keys _ hl
    refine ⟨by rw [List.length_append]; simp; (clear hk; omega), fun k hk' => ?_⟩
    rcases List.mem_append.mp hk' with q | q
    · exact this.2 k q
    · cases List.mem_singleton.mp q; exact hk
theorem Inv.grow {bits : Int} {i n : Nat} {held : List (List (List UInt8))} (I : Inv bits i held) (hn : (grow held n).length ≤ 6 + 2 * (i + 1)) : Inv bits (i + 1) (grow held n) := by
  refine ⟨by unfold Mine.grow; simp [I.ne], fun ks hks => ?_, hn⟩
  unfold Mine.grow at hks
  rcases List.mem_append.mp hks with hks | hks
  · have := I.keys ks hks
    exact ⟨by (clear hn; omega), this.2⟩
  · have := List.eq_of_mem_replicate hks
    subst this
    exact ⟨Nat.zero_le _, fun _ h => nomatch h⟩
theorem ifNT {X Y : Prop} (q : Y) : if (!true) = true then X else Y := q
theorem ifNF {X Y : Prop} (q : X) : if (!false) = true then X else Y := q


/-! law -/
theorem pick_bits {v : Int} (h0 : 0 ≤ v) (h1 : v < 6) : ∃ bits, ([1, 2, 4, 10, 25, 60].map AV.int)[v.toNat]? = some (.int bits) ∧ 1 ≤ bits ∧ bits ≤ 60 := by
  obtain ⟨n, rfl⟩ := Int.eq_ofNat_of_zero_le h0
  have : n = 0 ∨ n = 1 ∨ n = 2 ∨ n = 3 ∨ n = 4 ∨ n = 5 := by (clear h0; omega)
  rcases this with rfl | rfl | rfl | rfl | rfl | rfl <;> exact ⟨_, rfl, by decide, by decide⟩
theorem pow_lg {lg : Int} (h0 : 0 ≤ lg) (h1 : lg < 6) : (0 : Int) < 2 ^ lg.toNat ∧ (2 : Int) ^ lg.toNat ≤ 32 := by
  obtain ⟨n, rfl⟩ := Int.eq_ofNat_of_zero_le h0
  have : n = 0 ∨ n = 1 ∨ n = 2 ∨ n = 3 ∨ n = 4 ∨ n = 5 := by (clear h0; omega)
  rcases this with rfl | rfl | rfl | rfl | rfl | rfl <;> decide
theorem div_range {p off lo hi : Int} (hp : 0 < p) (h1 : lo * p ≤ off) (h2 : off < hi * p) : lo ≤ off / p ∧ off / p < hi := ⟨(Int.le_ediv_iff_mul_le hp).mpr h1, (Int.ediv_lt_iff_lt_mul hp).mpr h2⟩
theorem body_len {held : List (List (List UInt8))} {bits lg : Int} : (bodyL held bits lg).length = (fils bits (spansOf held)).length + 4 * (spansOf held).length + 5 := by
  rw [body_eq, List.length_append, List.length_append, tab_len, List.length_append, offs_len]
  simp [toB]; omega
theorem pick_bad {v : Int} (h0 : 0 ≤ v) (h1 : v < 3) : ∃ bad, [AV.int (0 - 1), AV.int 32, AV.int 33][v.toNat]? = some (.int bad) ∧ (bad < 0 ∨ 31 < bad) := by
  obtain ⟨n, rfl⟩ := Int.eq_ofNat_of_zero_le h0
  have : n = 0 ∨ n = 1 ∨ n = 2 := by (clear h0; omega)
  rcases this with rfl | rfl | rfl
  · exact ⟨_, rfl, .inl (by decide)⟩
  · exact ⟨_, rfl, .inr (by decide)⟩
  · exact ⟨_, rfl, .inr (by decide)⟩
noncomputable abbrev LL (script tape at_ bits lg builder held keys turn act x key offset span refused body bloom reader data part : Option AV) : Loc :=
  [("script", script), ("tape", tape), ("at", at_), ("bits", bits), ("lg", lg), ("builder", builder), ("held", held), ("keys", keys), ("turn", turn), ("act", act), ("x", x), ("key", key), ("offset", offset), ("span", span), ("refused", refused), ("body", body), ("bloom", bloom), ("reader", reader), ("data", data), ("part", part)]
set_option maxHeartbeats 8000000 in
theorem law_spec {ns : List Int} (hn : ns.length ≤ 63) : CallT true D 8 (.ref 297) [.list (ns.map .int)] [] (fun x hp' => x = .bool true) := by
  refine CallT.enter' 7 ["script"] ["tape", "at", "bits", "lg", "builder", "held", "keys", "turn", "act", "x", "key", "offset", "span", "refused", "body", "bloom", "reader", "data", "part"] rfl rfl (by decide) (by decide) rfl (bind1 fun _ => rfl) rfl rfl ?_
  walk_at "enter"
  repeat walk_at "t"
  refine SV1_loose (SV1_assignComp [] ?_ (fun _ => rfl) (by decide) (by kernel_rfl) (by decide) (by decide) rfl rfl)
  repeat walk_at "t"
  refine xSl (sl_list (by simp; omega)) ?_
  have cl := cut_len (ns.map AV.int) none (some 40)
  have cm : ∃ tp : List Int, cut (ns.map AV.int) none (some 40) = tp.map AV.int ∧ tp.length ≤ 40 := by
    have e := clipAt_cast (ns.map AV.int).length 40
    rw [if_neg (by decide)] at e
    refine ⟨ns.take (clipAt (ns.map AV.int).length 40), ?_, by rw [List.length_take]; (clear hn cl; omega)⟩
    unfold cut
    simp only [Option.elim, List.drop_zero, Nat.sub_zero, List.map_take]
  obtain ⟨tp0, ct, cl0⟩ := cm
  rw [ct]
  refine ⟨_, Iter.list, by simp; (clear hn cl; omega), _, Capt.nil, fun i acc hp1 => acc = (tp0.take i).map AV.int ∧ hp1 = [], ⟨rfl, rfl⟩, ?_, ?_⟩
  · rintro i y acc hp1 hy ⟨rfl, rfl⟩
    repeat walk_at "t"
    refine ⟨rfl, ?_, rfl⟩
    rw [List.getElem?_map] at hy
    obtain ⟨n, hn, rfl⟩ := Option.map_eq_some_iff.mp hy
    rw [List.take_add_one, hn]
    simp
  rintro acc hp1 _ ⟨rfl, rfl⟩
  rw [List.length_map, List.take_length]
  clear ct cl
  refine ⟨_, by walk_at "put", ?_⟩
  repeat walk_at "t"
  refine SV1_mid (fun st => ∃ tp : List Int, 0 < tp.length ∧ tp.length ≤ 40 ∧ st = ⟨LL (some (.list (ns.map .int))) (some (.list (tp.map .int))) none none none none none none none none none none none none none none none none none none, []⟩) ?_ ?_
  · repeat walk_at "s"
    refine CallE_v (len_list (by simp; (rename_i zq1; clear hn zq1; omega))) ?_
    repeat walk_at "s"
    refine dsplit (fun hz => ?_) fun hz => ?_
    · repeat walk_at "s"
      refine EV_List ?_
      repeat walk_at "s"
      refine ⟨by decide, ?_⟩
      repeat walk_at "s"
      exact ⟨rfl, [0], by decide, by decide, rfl⟩
    · repeat walk_at "s"
      exact ⟨rfl, tp0, by rw [List.length_map] at hz; (rename_i zq1; clear hn cl0 zq1; omega), cl0, rfl⟩
  rintro _ ⟨tp, ht, ht2, rfl⟩
  repeat walk_at "t"
  refine EV_ListT ?_
  repeat walk_at "t"
  refine ⟨by decide, fun a => ?_⟩
  repeat walk_at "t"
  refine ⟨by decide, ?_⟩
  repeat walk_at "t"
  refine CallE_t (take_hd (by decide) (by decide) (by decide) ht ht2) fun v v0 v1 => ?_
  obtain ⟨bits, hbits, b0, b1⟩ := pick_bits v0 v1
  refine xSub (sub_tup v0 (by rename_i zq1; clear hn cl0 zq1 ht ht2 v0 b0 b1; omega) hbits) ?_
  repeat walk_at "t"
  refine CallE_t (take_hd (by decide) (by decide) (by decide) ht ht2) fun lg l0 l1 => ?_
  repeat walk_at "t"
  refine CallE_c (bloom_new b0 (by rename_i zq1; clear hn cl0 zq1 ht ht2 v0 v1 b0 l0 l1; omega)) ?_
  rintro _ _ ⟨b, rfl, rfl⟩
  repeat walk_at "t"
  refine CallE_c (fb_new l0 (by rename_i zq1; clear hn cl0 zq1 ht ht2 v0 v1 b0 b1 l0; omega)) ?_
  rintro _ _ ⟨d, k, o, f, rfl, rfl⟩
  repeat walk_at "t"
  refine EV_ListT ?_
  repeat walk_at "t"
  refine EV_List ?_
  repeat walk_at "t"
  refine ⟨by decide, ?_⟩
  repeat walk_at "t"
  refine ⟨by decide, fun h => ?_⟩
  repeat walk_at "t"
  refine EV_List ?_
  repeat walk_at "t"
  refine ⟨by decide, ?_⟩
  repeat walk_at "t"
  simp only [List.nil_append, List.cons_append]
  refine SV1_for ?_
  repeat walk_at "t"
  refine CallE_t (take_hd (by decide) (by decide) (by decide) ht ht2) fun turns t0 t1 => ?_
  repeat walk_at "t"
  have pp := pow_lg l0 l1
  have Iinit : Inv bits 0 [[]] := ⟨by decide, by decide, by decide⟩
  refine ⟨_, iter_range (by rename_i zq1; clear hn cl0 zq1 ht ht2 v0 v1 b0 b1 l0 l1 t0 pp; omega) (by rename_i zq1; clear hn cl0 zq1 ht ht2 v0 v1 b0 b1 l0 l1 t1 pp; omega), fun i st => ∃ (held : List (List (List UInt8))) (ks : List (List UInt8)) (kk : Int) (kb h : Addr) (o1 o2 o3 o4 o5 o6 o7 : Option AV),
    st = ⟨LL (some (.list (ns.map .int))) (some (.list (tp.map .int))) (some (.val (.ref a))) (some (.int bits)) (some (.int lg)) (some (.obj 188 d)) (some (.val (.ref h))) (some (.list (ks.map .bytes))) o1 o2 o3 o4 o5 o6 o7 none none none none none,
      (a, .list [.int kk]) :: (BHh b d kb o f bits lg held false ++ [(h, .list (heldL held))])⟩ ∧ Inv bits i held ∧ 0 ≤ kk ∧ kk ≤ 10 + 2 * (i : Int) ∧ (∀ k ∈ ks, k.length ≤ 5) ∧ ks.length ≤ i,
    ⟨[[]], [], _, k, h, _, _, _, _, _, _, _, rfl, Iinit, by decide, by decide, (fun _ h => nomatch h), Nat.le_refl _⟩, ?_, ?_⟩
  · rintro i y st2 hy ⟨held, ks, kk, kb, h', o1, o2, o3, o4, o5, o6, o7, rfl, I, k0, k1, hks, hkl⟩
    obtain ⟨hi, rfl⟩ := rng_get hy
    have H := I.ok (by rename_i zq1; clear hn cl0 zq1 ht ht2 v0 v1 b0 b1 l0 l1 t0 pp k0 k1 hkl; omega) b0 b1
    have hpos := H.pos
    have Il := I.len
    unfold BHh BH
    simp only [List.cons_append, List.nil_append]
    repeat walk_at "t"
    refine CallE_t (take_hd (by with_reducible assumption) (by rename_i zq1; clear hn cl0 zq1 ht ht2 v0 v1 b0 b1 l0 l1 t0 pp k0 hkl hpos Il; omega) (by decide) ht ht2) fun act a0 a1 => ?_
    repeat walk_at "t"
    refine CallE_t (take_hd (by rename_i zq1; clear hn cl0 zq1 ht ht2 v0 v1 b0 b1 l0 l1 t0 t1 pp k1 hkl hi hpos Il a0 a1; omega) (by rename_i zq1; clear hn cl0 zq1 ht ht2 v0 v1 b0 b1 l0 l1 t0 pp k0 hkl hpos Il a0 a1; omega) (by decide) ht ht2) fun x x0 x1 => ?_
    repeat walk_at "s"
    refine dsplit (fun hact => ?_) fun hact => ?_
    · repeat walk_at "s"
      refine CallE_b (word_spec (Int.emod_nonneg _ (by decide)) (Int.emod_lt_of_pos _ (by decide))) fun key kl => ?_
      repeat walk_at "s"
      refine xGetM (fb_getM_add (by walk_at "has")) (keepOk_ref (by kernel_rfl)) ?_
      repeat walk_at "s"
      have hlk := H.last
      refine CallE_e (add_spec (by walk_at "has") (by walk_at "has") (by walk_at "swap") (by simp; (rename_i zq1; clear hn cl0 zq1 ht ht2 v0 v1 b0 b1 l0 l1 t0 t1 pp k0 k1 hkl hi hpos Il a0 a1 x0 x1 hact kl; omega))) ?_
      repeat walk_at "s"
      refine CallE_v (len_tlist (by walk_at "has") (by rw [heldL_len]; (rename_i zq1; clear hn cl0 zq1 ht ht2 v0 v1 b0 b1 l0 l1 t0 pp k0 k1 hkl hpos a0 a1 x0 x1 hact kl hlk; omega))) ?_
      rw [heldL_len]
      repeat walk_at "s"
      have e1 : ((held.length : Int) - 1).toNat = held.length - 1 := by (rename_i zq1; clear hn cl0 zq1 ht ht2 v0 v1 b0 b1 l0 l1 t0 t1 pp k0 k1 hkl hi hpos Il a0 a1 x0 x1 hact kl hlk; omega)
      refine xSub (sub_tlist (by walk_at "has") (by rename_i zq1; clear hn cl0 zq1 ht ht2 v0 v1 b0 b1 l0 l1 t0 t1 pp k0 k1 hkl hi Il a0 a1 x0 x1 hact kl hlk e1; omega) (by rename_i zq1; clear hn cl0 zq1 ht ht2 v0 v1 b0 b1 l0 l1 t0 pp k0 k1 hkl hpos a0 a1 x0 x1 hact kl hlk e1; omega) (by rw [e1]; exact heldL_last H.ne)) ?_
      repeat walk_at "s"
      refine EV_List ?_
      repeat walk_at "s"
      refine ⟨by simp, ?_⟩
      refine binG_of (bin_lists (by simp; (rename_i zq1; clear hn cl0 zq1 ht ht2 v0 v1 b0 b1 l0 l1 t0 t1 pp k0 k1 hkl hi hpos Il a0 a1 x0 x1 hact kl e1; omega)) ?_)
      repeat walk_at "s"
      refine CallE_v (len_tlist (by walk_at "has") (by rw [heldL_len]; (rename_i zq1; clear hn cl0 zq1 ht ht2 v0 v1 b0 b1 l0 l1 t0 pp k0 k1 hkl hpos a0 a1 x0 x1 hact kl hlk e1; omega))) ?_
      rw [heldL_len]
      repeat walk_at "s"
      refine xSetI (setI_list (by walk_at "has") (by rename_i zq1; clear hn cl0 zq1 ht ht2 v0 v1 b0 b1 l0 l1 t0 t1 pp k0 k1 hkl hi Il a0 a1 x0 x1 hact kl hlk e1; omega) (by rename_i zq1; clear hn cl0 zq1 ht ht2 v0 v1 b0 b1 l0 l1 t0 pp k0 k1 hkl hpos a0 a1 x0 x1 hact kl hlk e1; omega) (by rw [heldL_len]; (rename_i zq1; clear hn cl0 zq1 ht ht2 v0 v1 b0 b1 l0 l1 t0 t1 pp k0 k1 hkl hi hpos Il a0 a1 x0 x1 hact kl hlk e1; omega)) (by walk_at "swap")) ?_
      rw [e1, heldL_set H.ne]
      repeat walk_at "s"
      refine EV_List ?_
      repeat walk_at "s"
      refine ⟨by simp, ?_⟩
      refine binG_of (bin_lists (by simp; (rename_i zq1; clear hn cl0 zq1 ht ht2 v0 v1 b0 b1 l0 l1 t0 pp k0 k1 hpos Il a0 a1 x0 x1 hact kl hlk e1; omega)) ?_)
      repeat walk_at "s"
      refine ⟨addK held key, ks ++ [key], kk + 1 + 1, kb, h', some (.int i), some (.int act), some (.int x), some (.bytes key), o5, o6, o7, ?_, I.add kl, by (rename_i zq1; clear hn cl0 zq1 ht ht2 v0 v1 b0 b1 l0 l1 t0 t1 pp k1 hkl hi hpos Il a0 a1 x0 x1 hact kl hlk e1; omega), by (rename_i zq1; clear hn cl0 zq1 ht ht2 v0 v1 b0 b1 l0 l1 t0 t1 pp k0 hkl hi hpos Il a0 a1 x0 x1 hact kl hlk e1; omega), ?_, by simp; with_reducible assumption⟩
      · simp only [addK_last, addK_drop, List.map_append, List.map_cons, List.map_nil]
      · intro q hq
        rcases List.mem_append.mp hq with hq | hq
        · exact hks q hq
        · cases List.mem_singleton.mp hq; exact kl
    · repeat walk_at "t"
      refine bin_pow l0 (by rename_i zq1; clear hn cl0 zq1 ht ht2 v0 v1 b0 b1 l0 t0 t1 pp k0 k1 hkl hi hpos Il a0 a1 x0 x1 hact; omega) (by decide) ?_
      generalize hP : (2 : Int) ^ lg.toNat = p at *
      refine bin_mul (.inl (by decide)) ?_
      refine bin_mod (by rename_i zq1; clear hn cl0 zq1 ht ht2 v0 v1 b0 b1 l0 l1 t0 t1 k0 k1 hkl hi hpos Il a0 a1 x0 x1 hact hP; omega) ?_
      have r0 := Int.emod_nonneg x (b := 6 * p) (by rename_i zq1; clear hn cl0 zq1 ht ht2 v0 v1 b0 b1 l0 l1 t0 t1 k0 k1 hkl hi hpos Il a0 a1 x0 x1 hact hP; omega)
      have r1 := Int.emod_lt_of_pos x (b := 6 * p) (by rename_i zq1; clear hn cl0 zq1 ht ht2 v0 v1 b0 b1 l0 l1 t0 t1 k0 k1 hkl hi hpos Il a0 a1 x0 x1 hact hP r0; omega)
      have q0 := Int.emod_nonneg x (b := 2 * p) (by rename_i zq1; clear hn cl0 zq1 ht ht2 v0 v1 b0 b1 l0 l1 t0 t1 k0 k1 hkl hi hpos Il a0 a1 x0 x1 hact hP r0 r1; omega)
      have q1 := Int.emod_lt_of_pos x (b := 2 * p) (by rename_i zq1; clear hn cl0 zq1 ht ht2 v0 v1 b0 b1 l0 l1 t0 t1 k0 k1 hkl hi hpos Il a0 a1 x0 x1 hact hP r0 r1 q0; omega)
      have d1 := div_range (p := p) (off := x % (6 * p) - 1) (lo := -1) (hi := 6) pp.1 (by rename_i zq1; clear hn cl0 zq1 ht ht2 v0 v1 b0 b1 l0 l1 t0 t1 k0 k1 hkl hi hpos Il a0 a1 x0 x1 hact hP r1 q0 q1; omega) (by rename_i zq1; clear hn cl0 zq1 ht ht2 v0 v1 b0 b1 l0 l1 t0 t1 k0 k1 hkl hi hpos Il a0 a1 x0 x1 hact hP pp r0 q0 q1; omega)
      repeat walk_at "t"
      refine SV1_mid (fun st => ∃ off : Int, st = ⟨LL (some (.list (ns.map .int))) (some (.list (tp.map .int))) (some (.val (.ref a))) (some (.int bits)) (some (.int lg)) (some (.obj 188 d)) (some (.val (.ref h'))) (some (.list (ks.map .bytes))) (some (.int i)) (some (.int act)) (some (.int x)) o4 (some (.int off)) o6 o7 none none none none none,
        (a, .list [.int (kk + 1 + 1)]) :: (BHh b d kb o f bits lg held false ++ [(h', .list (heldL held))])⟩ ∧ -1 ≤ off / p ∧ (off / p < 6 ∨ off / p < held.length + 1)) ?_ ?_
      · repeat walk_at "s"
        refine dsplit (fun ha2 => ?_) fun ha2 => ?_
        · repeat walk_at "s"
          refine CallE_v (len_tlist (by walk_at "has") (by rw [heldL_len]; (rename_i zq1; clear hn cl0 zq1 ht ht2 v0 v1 b0 b1 l0 l1 t0 k0 k1 hkl hpos a0 a1 x0 x1 hact hP pp r0 r1 q0 q1 d1 ha2; omega))) ?_
          rw [heldL_len]
          repeat walk_at "s"
          refine bin_pow l0 (by rename_i zq1; clear hn cl0 zq1 ht ht2 v0 v1 b0 b1 l0 t0 t1 k0 k1 hkl hi hpos Il a0 a1 x0 x1 hact hP pp r0 r1 q0 q1 d1 ha2; omega) (by decide) ?_
          rw [hP]
          refine bin_mul (.inr (by rename_i zq1; clear hn cl0 zq1 ht ht2 v0 v1 b0 b1 l0 l1 t0 t1 k0 k1 hkl hi hpos Il a0 a1 x0 x1 hact hP r0 r1 q0 q1 d1 ha2; omega)) ?_
          repeat walk_at "s"
          refine bin_pow l0 (by rename_i zq1; clear hn cl0 zq1 ht ht2 v0 v1 b0 b1 l0 t0 t1 k0 k1 hkl hi hpos Il a0 a1 x0 x1 hact hP pp r0 r1 q0 q1 d1 ha2; omega) (by decide) ?_
          rw [hP]
          refine bin_mul (.inl (by decide)) ?_
          refine bin_mod (by rename_i zq1; clear hn cl0 zq1 ht ht2 v0 v1 b0 b1 l0 l1 t0 t1 k0 k1 hkl hi hpos Il a0 a1 x0 x1 hact hP pp r0 r1 d1 ha2; omega) ?_
          repeat walk_at "s"
          have d2 := div_range (p := p) (off := ((held.length : Int) - 1) * p + x % (2 * p)) (lo := (held.length : Int) - 1) (hi := (held.length : Int) + 1) pp.1 (by rename_i zq1; clear hn cl0 zq1 ht ht2 v0 v1 b0 b1 l0 l1 t0 t1 k0 k1 hkl hi hpos Il a0 a1 x0 x1 hact hP pp r0 r1 q1 d1 ha2; omega) (by rw [show ((held.length : Int) + 1) * p = ((held.length : Int) - 1) * p + 2 * p by rw [← Int.add_mul]; congr 1; (rename_i zq1; clear hn cl0 zq1 ht ht2 v0 v1 b0 b1 l0 l1 t0 t1 k0 k1 hkl hi hpos Il a0 a1 x0 x1 hact hP pp r0 r1 q0 q1 d1 ha2; omega)]; (rename_i zq1; clear hn cl0 zq1 ht ht2 v0 v1 b0 b1 l0 l1 t0 t1 k0 k1 hkl hi hpos Il a0 a1 x0 x1 hact hP pp r0 r1 q0 d1 ha2; omega))
          exact ⟨rfl, _, rfl, by (rename_i zq1; clear hn cl0 zq1 ht ht2 v0 v1 b0 b1 l0 l1 t0 t1 k0 k1 hkl hi hpos Il a0 a1 x0 x1 hact hP pp r0 r1 q0 q1 d1 ha2; omega), .inr d2.2⟩
        · repeat walk_at "s"
          exact ⟨rfl, _, rfl, d1.1, .inl d1.2⟩
      rintro _ ⟨off, rfl, g0, g1⟩
      by_cases hsp : off / p < held.length - 1
      · unfold BHh BH
        simp only [List.cons_append, List.nil_append]
        repeat walk_at "t"
        refine bin_pow l0 (by rename_i zq1; clear hn cl0 zq1 ht ht2 v0 v1 b0 b1 l0 t0 t1 k0 k1 hkl hi hpos Il a0 a1 x0 x1 hact hP pp r0 r1 q0 q1 d1 g0 g1 hsp; omega) (by decide) ?_
        rw [hP]
        refine bin_divW pp.1 (by rename_i zq1; clear hn cl0 zq1 ht ht2 v0 v1 b0 b1 l0 l1 t0 t1 k0 k1 hkl hi hpos Il a0 a1 x0 x1 hact hP r0 r1 q0 q1 d1 g0 g1 hsp; omega) ?_
        repeat walk_at "t"
        refine CallE_w (refused_startX (b := b) (d := d) (k := kb) (o := o) (f := f) (lg := lg) (fin := false) (by walk_at "has") (by walk_at "has") (by rw [List.length_map, offs_len, List.length_dropLast]; (rename_i zq1; clear hn cl0 zq1 ht ht2 v0 v1 b0 b1 l0 l1 t0 k0 k1 hkl hpos a0 a1 x0 x1 hact hP pp r0 r1 q0 q1 d1 g0 g1 hsp; omega)) l0 (.inr (by rw [hP, List.length_map, offs_len, List.length_dropLast]; (rename_i zq1; clear hn cl0 zq1 ht ht2 v0 v1 b0 b1 l0 l1 t0 t1 k0 k1 hkl hi hpos Il a0 a1 x0 x1 hact hP pp r0 r1 q0 q1 d1 g0 g1; omega)))) ?_
        repeat walk_at "s"
        refine CallE_v (len_tlist (by walk_at "has") (by rw [heldL_len]; (rename_i zq1; clear hn cl0 zq1 ht ht2 v0 v1 b0 b1 l0 l1 t0 k0 k1 hkl hpos a0 a1 x0 x1 hact hP pp r0 r1 q0 q1 d1 g0 g1 hsp; omega))) ?_
        rw [heldL_len]
        repeat walk_at "s"
        rw [decide_eq_true hsp]
        refine cmp_neB ?_
        rw [show (true != true) = false from rfl]
        repeat walk_at "s"
        refine SV1_while (fun m st => st = ⟨LL (some (.list (ns.map .int))) (some (.list (tp.map .int))) (some (.val (.ref a))) (some (.int bits)) (some (.int lg)) (some (.obj 188 d)) (some (.val (.ref h'))) (some (.list (ks.map .bytes))) (some (.int i)) (some (.int act)) (some (.int x)) o4 (some (.int off)) (some (.int (off / p))) (some (.bool true)) none none none none none,
          (a, .list [.int (kk + 1 + 1)]) :: (BHh b d kb o f bits lg held false ++ [(h', .list (heldL held))])⟩) 0 rfl ?_
        rintro m _ rfl
        unfold BHh BH
        simp only [List.cons_append, List.nil_append]
        repeat walk_at "s"
        refine CallE_v (len_tlist (by walk_at "has") (by rw [heldL_len]; (rename_i zq1; clear hn cl0 zq1 ht ht2 v0 v1 b0 b1 l0 l1 t0 k0 k1 hkl hpos a0 a1 x0 x1 hact hP pp r0 r1 q0 q1 d1 g0 g1 hsp; omega))) ?_
        rw [heldL_len]
        repeat walk_at "s"
        exact ⟨held, ks, kk + 1 + 1, kb, h', some (.int i), some (.int act), some (.int x), o4, some (.int off), some (.int (off / p)), some (.bool true), rfl, I.up (by rename_i zq1; clear hn cl0 zq1 ht ht2 v0 v1 b0 b1 l0 l1 t0 t1 k0 k1 hkl hi hpos Il a0 a1 x0 x1 hact hP pp r0 r1 q0 q1 d1 g0 g1 hsp; omega), by (rename_i zq1; clear hn cl0 zq1 ht ht2 v0 v1 b0 b1 l0 l1 t0 t1 k1 hkl hi hpos Il a0 a1 x0 x1 hact hP pp r0 r1 q0 q1 d1 g0 g1 hsp; omega), by (rename_i zq1; clear hn cl0 zq1 ht ht2 v0 v1 b0 b1 l0 l1 t0 t1 k0 hkl hi hpos Il a0 a1 x0 x1 hact hP pp r0 r1 q0 q1 d1 g0 g1 hsp; omega), hks, by (rename_i zq1; clear hn cl0 zq1 ht ht2 v0 v1 b0 b1 l0 l1 t0 t1 k0 k1 hi hpos Il a0 a1 x0 x1 hact hP pp r0 r1 q0 q1 d1 g0 g1 hsp; omega)⟩
      · obtain ⟨n, hn⟩ : ∃ n, n = (off / p + 1 - (held.length : Int)).toNat := ⟨_, rfl⟩
        have hnn : (held.length : Int) + n = off / p + 1 := by (rename_i zq2 zq1; clear zq2 cl0 zq1 ht ht2 v0 v1 b0 b1 l0 l1 t0 t1 k0 k1 hkl hi hpos Il a0 a1 x0 x1 hact hP pp r0 r1 q0 q1 d1 g0 g1; omega)
        have gl : (grow held n).length = held.length + n := grow_len
        have hg := refused_start (D := D) (b := b) (d := d) (k := kb) (o := o) (f := f) (lg := lg) (bits := bits) (held := held) (offset := off) H l0 (by rw [hP]; (rename_i zq2 zq1; clear zq2 cl0 zq1 ht ht2 v0 v1 b0 b1 l0 l1 t0 t1 k0 k1 hkl hi hpos Il a0 a1 x0 x1 hact hP pp r0 r1 q0 q1 d1 g0 g1 hsp hn gl; omega)) (by rw [hP]; (rename_i zq2 zq1; clear zq2 cl0 zq1 ht ht2 v0 v1 b0 b1 l0 l1 t0 k0 k1 hkl hpos a0 a1 x0 x1 hact hP pp r0 r1 q0 q1 d1 g0 hsp hn hnn gl; omega))
        rw [hP, ← hn] at hg
        unfold BHh BH
        simp only [List.cons_append, List.nil_append]
        repeat walk_at "t"
        refine bin_pow l0 (by rename_i zq2 zq1; clear zq2 cl0 zq1 ht ht2 v0 v1 b0 b1 l0 t0 t1 k0 k1 hkl hi hpos Il a0 a1 x0 x1 hact hP pp r0 r1 q0 q1 d1 g0 g1 hsp hn hnn gl; omega) (by decide) ?_
        rw [hP]
        refine bin_divW pp.1 (by rename_i zq2 zq1; clear zq2 cl0 zq1 ht ht2 v0 v1 b0 b1 l0 l1 t0 t1 k0 k1 hkl hi hpos Il a0 a1 x0 x1 hact hP r0 r1 q0 q1 d1 g0 g1 hsp hn hnn gl; omega) ?_
        repeat walk_at "t"
        refine CallE_c (CallT.part hg [(a, .list [.int (kk + 1 + 1)])] [(h', .list (heldL held))]) ?_
        rintro _ _ ⟨_, rfl, rfl, k', rfl⟩
        unfold BHh BH
        simp only [List.cons_append, List.nil_append]
        repeat walk_at "s"
        refine CallE_v (len_tlist (by walk_at "has") (by rw [heldL_len]; (rename_i zq2 zq1; clear zq2 cl0 zq1 ht ht2 v0 v1 b0 b1 l0 l1 t0 k0 k1 hkl hpos a0 a1 x0 x1 hact hP pp r0 r1 q0 q1 d1 g0 g1 hsp hn hnn gl; omega))) ?_
        rw [heldL_len]
        repeat walk_at "s"
        rw [decide_eq_false hsp]
        refine cmp_neB ?_
        rw [show (false != false) = false from rfl]
        repeat walk_at "s"
        refine SV1_while (fun m st => ∃ (j : Nat) (h2 : Addr), m = n - j ∧ j ≤ n ∧ st = ⟨LL (some (.list (ns.map .int))) (some (.list (tp.map .int))) (some (.val (.ref a))) (some (.int bits)) (some (.int lg)) (some (.obj 188 d)) (some (.val (.ref h2))) (some (.list (ks.map .bytes))) (some (.int i)) (some (.int act)) (some (.int x)) o4 (some (.int off)) (some (.int (off / p))) (some (.bool false)) none none none none none,
          (a, .list [.int (kk + 1 + 1)]) :: (BHh b d k' o f bits lg (grow held n) false ++ [(h2, .list (heldL (grow held j)))])⟩) n ⟨0, h', rfl, Nat.zero_le _, by rw [grow_zero]; rfl⟩ ?_
        rintro m _ ⟨j, h2, rfl, hj, rfl⟩
        have gj : (grow held j).length = held.length + j := grow_len
        unfold BHh BH
        simp only [List.cons_append, List.nil_append]
        repeat walk_at "s"
        refine CallE_v (len_tlist (by walk_at "has") (by rw [heldL_len]; (rename_i zq2 zq1; clear zq2 cl0 zq1 ht ht2 v0 v1 b0 b1 l0 l1 t0 k0 k1 hkl hpos a0 a1 x0 x1 hact hP pp r0 r1 q0 q1 d1 g0 hsp hn gl; omega))) ?_
        rw [heldL_len]
        repeat walk_at "s"
        refine dsplit (fun hlt => ?_) fun hlt => ?_
        · repeat walk_at "s"
          refine EV_List ?_
          repeat walk_at "s"
          refine EV_List ?_
          repeat walk_at "s"
          refine ⟨by decide, ?_⟩
          repeat walk_at "s"
          refine ⟨by decide, ?_⟩
          refine add_turn (by walk_at "has") (by rw [heldL_len]; simp; (rename_i zq2 zq1; clear zq2 cl0 zq1 ht ht2 v0 v1 b0 b1 l0 l1 t0 k0 k1 hkl hpos a0 a1 x0 x1 hact hP pp r0 r1 q0 q1 d1 g0 hsp hn hnn gl hj gj; omega)) fun h3 => ⟨_, by repeat (first | exact Turn.head | apply Turn.tail), ?_⟩
          rw [heldL_snoc, grow_succ]
          repeat walk_at "s"
          exact ⟨_, by (rename_i zq2 zq1; clear zq2 cl0 zq1 ht ht2 v0 v1 b0 b1 l0 l1 t0 t1 k0 k1 hkl hi hpos Il a0 a1 x0 x1 hact hP pp r0 r1 q0 q1 d1 g0 g1 hsp hn gl hj; omega), j + 1, h3, rfl, by (rename_i zq2 zq1; clear zq2 cl0 zq1 ht ht2 v0 v1 b0 b1 l0 l1 t0 t1 k0 k1 hkl hi hpos Il a0 a1 x0 x1 hact hP pp r0 r1 q0 q1 d1 g0 g1 hsp hn gl hj; omega), rfl⟩
        · have ej : j = n := by (rename_i zq2 zq1; clear zq2 cl0 zq1 ht ht2 v0 v1 b0 b1 l0 l1 t0 t1 k0 k1 hkl hi hpos Il a0 a1 x0 x1 hact hP pp r0 r1 q0 q1 d1 g0 g1 hsp hn gl; omega)
          subst ej
          repeat walk_at "s"
          exact ⟨grow held j, ks, kk + 1 + 1, k', h2, some (.int i), some (.int act), some (.int x), o4, some (.int off), some (.int (off / p)), some (.bool false), rfl, I.grow (by rename_i zq2 zq1; clear zq2 cl0 zq1 ht ht2 v0 v1 b0 b1 l0 l1 t0 t1 k0 k1 hkl hi hpos a0 a1 x0 x1 hact hP pp r0 r1 q0 q1 d1 g0 hsp gj hlt hn hj; omega), by (rename_i zq2 zq1; clear zq2 cl0 zq1 ht ht2 v0 v1 b0 b1 l0 l1 t0 t1 k1 hkl hi hpos Il a0 a1 x0 x1 hact hP pp r0 r1 q0 q1 d1 g0 g1 hsp gj hlt hn hnn gl hj; omega), by (rename_i zq2 zq1; clear zq2 cl0 zq1 ht ht2 v0 v1 b0 b1 l0 l1 t0 t1 k0 hkl hi hpos Il a0 a1 x0 x1 hact hP pp r0 r1 q0 q1 d1 g0 g1 hsp gj hlt hn hnn gl hj; omega), hks, by (rename_i zq2 zq1; clear zq2 cl0 zq1 ht ht2 v0 v1 b0 b1 l0 l1 t0 t1 k0 k1 hi hpos Il a0 a1 x0 x1 hact hP pp r0 r1 q0 q1 d1 g0 g1 hsp gj hlt hn hnn gl hj; omega)⟩
  · rintro st2 ⟨held, ks, kk, kb, h', o1, o2, o3, o4, o5, o6, o7, rfl, I, k0, k1, hks, hkl⟩
    rw [rng_len] at I k1 hkl
    have hi6 : (1 + turns).toNat ≤ 6 := by (rename_i zq1; clear hn cl0 zq1 ht ht2 v0 v1 b0 b1 l0 l1 t0 pp k0 k1 hkl; omega)
    generalize (1 + turns).toNat = tn at *
    have H := I.ok hi6 b0 b1
    have hpos := H.pos
    have Il := I.len
    have bl := body_len (held := held) (bits := bits) (lg := lg)
    have fs : (fils bits (spansOf held)).length ≤ 60 * held.length := by
      have q := fils_small b0 b1 (held := held) fun ks hks => by have := (I.keys ks hks).1; (rename_i zq1 _ _; clear hn cl0 zq1 ht ht2 v0 v1 b0 b1 l0 l1 t0 t1 pp k0 k1 hkl hpos Il bl; omega)
      unfold spansOf; split
      · exact Nat.le_trans (fils_drop_le _) q
      · exact q
    have sl : (spansOf held).length ≤ held.length := by unfold spansOf; split; (rw [List.length_dropLast]; (rename_i zq1 _; clear hn cl0 zq1 ht ht2 v0 v1 b0 b1 l0 l1 t0 t1 pp k0 k1 hkl hi6 hpos Il bl fs; omega)); exact Nat.le_refl _
    have key5 : ∀ ks ∈ held, ∀ k ∈ ks, k.length ≤ 5 := fun ks hks => (I.keys ks hks).2
    unfold BHh BH
    simp only [List.cons_append, List.nil_append]
    repeat walk_at "t"
    refine xGetM (fb_getM_finish (by walk_at "has")) (keepOk_ref (by kernel_rfl)) ?_
    repeat walk_at "t"
    refine CallE_c (CallT.part (finish_spec (D := D) (b := b) (d := d) (k := kb) (o := o) (f := f) H l0 (by rename_i zq1; clear hn cl0 zq1 ht ht2 v0 v1 b0 b1 l0 t0 t1 pp k0 k1 hkl hi6 hpos Il bl fs sl; omega)) [(a, .list [.int kk])] [(h', .list (heldL held))]) ?_
    rintro _ _ ⟨_, rfl, rfl, k', r, rfl⟩
    simp only [List.cons_append, List.nil_append]
    walk_at "d"
    refine SV_freeze (.tail (.tail (.tail (drop_of_snoc r)))) rfl (.same (.same (.same (.same (.same (.same (.froze (.same (.same (.same (.same (.same (.same (.same (.same (.same (.same (.same (.same (.same .nil)))))))))))))))))))) ?_
    generalize hB : bodyL held bits lg = body at *
    have hlv : heldV held = .list (heldL held) := rfl
    repeat walk_at "t"
    refine SV1_if ?_
    repeat walk_at "t"
    refine CallE_w (body_spec (held := held) H.keys hpos H.len (by rename_i zq1; clear hn cl0 zq1 ht ht2 v0 v1 b1 l0 l1 t0 t1 pp k0 k1 hkl hi6 hpos Il fs sl bl; omega) (by rename_i zq1; clear hn cl0 zq1 ht ht2 v0 v1 b0 l0 l1 t0 t1 pp k0 k1 hkl hi6 hpos Il fs sl bl; omega) H.sz l0 (by rename_i zq1; clear hn cl0 zq1 ht ht2 v0 v1 b0 b1 l0 t0 t1 pp k0 k1 hkl hi6 hpos Il fs sl bl; omega)) ?_
    rw [hB]
    refine cmp_neBytes ?_
    rw [show (body != body) = false by simp]
    repeat walk_at "t"
    refine SV1_if ?_
    repeat walk_at "t"
    refine BV_plain ?_
    repeat walk_at "t"
    refine CallE_w (refused_addX (b := b) (d := d) (k := k') (o := o) (f := f) (lg := lg) (.tail (.tail .head))) ?_
    repeat walk_at "t"
    refine ifNT ?_
    repeat walk_at "t"
    refine BV_plain ?_
    repeat walk_at "t"
    refine CallE_w (refused_finX (b := b) (d := d) (k := k') (o := o) (f := f) (lg := lg) (.tail (.tail .head))) ?_
    repeat walk_at "t"
    refine ifNT ?_
    repeat walk_at "t"
    refine SV1_if ?_
    repeat walk_at "t"
    refine BV_plain ?_
    repeat walk_at "t"
    refine CallE_v (len_list (by rw [heldL_len]; (rename_i zq1; clear hn cl0 zq1 ht ht2 v0 v1 b0 b1 l0 l1 t0 t1 pp k0 k1 hkl hpos fs sl bl; omega))) ?_
    rw [heldL_len]
    repeat walk_at "t"
    refine bin_pow l0 (by rename_i zq1; clear hn cl0 zq1 ht ht2 v0 v1 b0 b1 l0 t0 t1 pp k0 k1 hkl hi6 hpos Il fs sl bl; omega) (by decide) ?_
    refine bin_mul (.inl (by rename_i zq1; clear hn cl0 zq1 ht ht2 v0 v1 b0 b1 l0 l1 t0 t1 pp k0 k1 hkl hpos fs sl bl; omega)) ?_
    repeat walk_at "t"
    refine CallE_w (refused_startF (b := b) (d := d) (k := k') (o := o) (f := f) (lg := lg) (.tail (.tail .head))) ?_
    repeat walk_at "t"
    refine ifNT ?_
    generalize (b, bloomD bits) :: (d, builderD b lg k' o f true) :: r = rr
    repeat walk_at "t"
    refine CallE_c (bloom_new b0 (by rename_i zq1; clear hn cl0 zq1 ht ht2 v0 v1 b0 l0 l1 t0 t1 pp k0 k1 hkl hi6 hpos Il fs sl bl; omega)) ?_
    rintro _ _ ⟨b2, rfl, rfl⟩
    repeat walk_at "t"
    refine CallE_c (reader_new (by rename_i zq1; clear hn cl0 zq1 ht ht2 v0 v1 b0 b1 l0 l1 t0 t1 pp k0 k1 hkl hpos; omega)) ?_
    rintro _ _ ⟨rd, rfl, rfl⟩
    simp only [List.cons_append, List.append_assoc, List.nil_append]
    repeat walk_at "t"
    have hb2 : ∀ k r, Has ((a, AO.list [.int k]) :: (rr ++ (b2, bloomD bits) :: r)) b2 (bloomD bits) := fun k r => .tail (has_pre .head rr)
    have hrd : ∀ k r, Has ((a, AO.list [.int k]) :: (rr ++ (b2, bloomD bits) :: (rd, readerD b2 body) :: r)) rd (readerD b2 body) := fun k r => .tail (has_pre (.tail .head) rr)
    refine SV1_for ?_
    repeat walk_at "t"
    refine CallE_v (len_list (by rw [heldL_len]; (rename_i zq1; clear hn cl0 zq1 ht ht2 v0 v1 b0 b1 l0 l1 t0 t1 pp k0 k1 hkl hpos fs sl bl; omega))) ?_
    rw [heldL_len]
    repeat walk_at "t"
    refine ⟨_, iter_range (by rename_i zq1; clear hn cl0 zq1 ht ht2 v0 v1 b0 b1 l0 l1 t0 t1 pp k0 k1 hkl hpos fs sl bl; omega) (by rename_i zq1; clear hn cl0 zq1 ht ht2 v0 v1 b0 b1 l0 l1 t0 t1 pp k0 k1 hkl hi6 hpos Il fs sl bl; omega), fun i st => ∃ (p4 p6 : Option AV), st = ⟨LL (some (.list (ns.map .int))) (some (.list (tp.map .int))) (some (.val (.ref a))) (some (.int bits)) (some (.int lg)) (some (.obj 188 d)) (some (.list (heldL held))) (some (.list (ks.map .bytes))) o1 o2 o3 p4 o5 p6 o7 (some (.bytes body)) (some (.obj 139 b2)) (some (.obj 216 rd)) none none,
      (a, .list [.int kk]) :: (rr ++ [(b2, bloomD bits), (rd, readerD b2 body)])⟩, ⟨_, _, rfl⟩, ?_, ?_⟩
    · rintro sp y st2 hy ⟨p4, p6, rfl⟩
      obtain ⟨hsp, rfl⟩ := rng_get hy
      have hsp' : sp < held.length := by (rename_i zq1; clear hn cl0 zq1 ht ht2 v0 v1 b0 b1 l0 l1 t0 t1 pp k0 k1 hkl hi6 hpos Il fs sl bl; omega)
      obtain ⟨hks0, hks1⟩ : ∃ ks0, held[sp]? = some ks0 := ⟨_, List.getElem?_eq_getElem hsp'⟩
      have hget : (heldL held)[((sp : Nat) : Int).toNat]? = some (.list (hks0.map AV.bytes)) := by
        unfold heldL
        rw [Int.toNat_natCast, List.getElem?_map, hks1]; rfl
      have hmem : hks0 ∈ held := by obtain ⟨h1, h2⟩ := List.getElem?_eq_some_iff.mp hks1; exact h2 ▸ List.getElem_mem h1
      repeat walk_at "t"
      refine SV1_for ?_
      repeat walk_at "t"
      refine xSub (sub_list (by rename_i zq1; clear hn cl0 zq1 ht ht2 v0 v1 b0 b1 l0 l1 t0 t1 pp k0 k1 hkl hi6 hpos Il fs sl bl hsp hsp'; omega) (by rename_i zq1; clear hn cl0 zq1 ht ht2 v0 v1 b0 b1 l0 l1 t0 t1 pp k0 k1 hkl hpos fs sl bl hsp; omega) hget) ?_
      refine ⟨_, Iter.list, fun j st => ∃ (p4 : Option AV), st = ⟨LL (some (.list (ns.map .int))) (some (.list (tp.map .int))) (some (.val (.ref a))) (some (.int bits)) (some (.int lg)) (some (.obj 188 d)) (some (.list (heldL held))) (some (.list (ks.map .bytes))) o1 o2 o3 p4 o5 (some (.int sp)) o7 (some (.bytes body)) (some (.obj 139 b2)) (some (.obj 216 rd)) none none,
        (a, .list [.int kk]) :: (rr ++ [(b2, bloomD bits), (rd, readerD b2 body)])⟩, ⟨_, rfl⟩, ?_, ?_⟩
      · rintro j y st2 hy ⟨p4', rfl⟩
        rw [List.getElem?_map] at hy
        obtain ⟨key, hkey, rfl⟩ := Option.map_eq_some_iff.mp hy
        have hkm : key ∈ hks0 := by obtain ⟨h1, h2⟩ := List.getElem?_eq_some_iff.mp hkey; exact h2 ▸ List.getElem_mem h1
        have hk5 := key5 _ hmem _ hkm
        repeat walk_at "t"
        refine SV1_if ?_
        repeat walk_at "t"
        refine BV_plain ?_
        repeat walk_at "t"
        refine xGetM (rd_getM (hrd _ _)) (keepOk_ref (by kernel_rfl)) ?_
        repeat walk_at "t"
        refine bin_pow l0 (by rename_i zq1 _; clear hn cl0 zq1 ht ht2 v0 v1 b0 b1 l0 t0 t1 pp k0 k1 hkl hi6 hpos Il fs sl bl hsp hsp' hk5; omega) (by decide) ?_
        refine bin_mul (.inr (by rename_i zq1 _; clear hn cl0 zq1 ht ht2 v0 v1 b0 b1 l0 l1 t0 t1 k0 k1 hkl hi6 hpos Il fs sl bl hsp hsp' hk5; omega)) ?_
        repeat walk_at "t"
        have off0 : 0 ≤ (sp : Int) * 2 ^ lg.toNat := Int.mul_nonneg (by rename_i zq1 _; clear hn cl0 zq1 ht ht2 v0 v1 b0 b1 l0 l1 t0 t1 pp k0 k1 hkl hi6 hpos Il fs sl bl hsp hsp' hk5; omega) (by rename_i zq1 _; clear hn cl0 zq1 ht ht2 v0 v1 b0 b1 l0 l1 t0 t1 k0 k1 hkl hi6 hpos Il fs sl bl hsp hsp' hk5; omega)
        refine CallE_w (rdmay_spec (hrd _ _) (hb2 _ _) (by rename_i zq1 _; clear hn cl0 zq1 ht ht2 v0 v1 b0 b1 l0 l1 t0 t1 pp k0 k1 hkl hpos hsp hsp' hk5 off0; omega) (by rename_i zq1 _; clear hn cl0 zq1 ht ht2 v0 v1 b0 b1 l0 l1 t0 t1 pp k0 k1 hkl hi6 hpos Il fs sl bl hsp hsp' off0; omega) (by rename_i zq1 _; clear hn cl0 zq1 ht ht2 v0 v1 b0 b1 l0 l1 t0 t1 pp k0 k1 hkl hi6 hpos Il fs sl bl hsp hsp' hk5; omega)) ?_
        by_cases hlt : (key.length : Int) < 2 ^ lg.toNat
        · have := body_true H l0 (by rename_i zq1 _; clear hn cl0 zq1 ht ht2 v0 v1 b0 b1 l0 t0 t1 pp k0 k1 hkl hi6 hpos Il fs sl bl hsp hsp' hk5 off0 hlt; omega) hks1 hkm hlt
          rw [hB] at this
          rw [this]
          repeat walk_at "t"
          refine ifNT ?_
          repeat walk_at "s"
          exact ⟨_, rfl⟩
        · cases ansB body ((sp : Int) * 2 ^ lg.toNat + (key.length : Int)) key with
          | true =>
            repeat walk_at "t"
            refine ifNT ?_
            repeat walk_at "s"
            exact ⟨_, rfl⟩
          | false =>
            repeat walk_at "t"
            refine ifNF ?_
            repeat walk_at "t"
            refine bin_pow l0 (by rename_i zq1 _; clear hn cl0 zq1 ht ht2 v0 v1 b0 b1 l0 t0 t1 pp k0 k1 hkl hi6 hpos Il fs sl bl hsp hsp' hk5 off0 hlt; omega) (by decide) ?_
            repeat walk_at "s"
            exact ⟨_, rfl⟩
      · rintro st2 ⟨p4', rfl⟩
        refine SV_nil ?_
        exact ⟨_, _, rfl⟩
    · rintro st2 ⟨p4, p6, rfl⟩
      repeat walk_at "t"
      refine CallE_c (altered_spec (hpf := fun k => (a, .list [.int k]) :: (rr ++ [(b2, bloomD bits), (rd, readerD b2 body)])) ⟨fun _ => .head, fun _ _ => .head⟩ k0 (by rename_i zq1; clear hn cl0 zq1 ht ht2 v0 v1 b0 b1 l0 l1 t0 t1 pp k0 hkl hpos Il fs sl bl; omega) ht ht2 (by rename_i zq1; clear hn cl0 zq1 ht ht2 v0 v1 b0 b1 l0 l1 t0 t1 pp k0 k1 hkl hi6 hpos Il fs sl; omega) (by rename_i zq1; clear hn cl0 zq1 ht ht2 v0 v1 b0 b1 l0 l1 t0 t1 pp k0 k1 hkl hpos; omega)) ?_
      rintro _ _ ⟨data, kk2, rfl, dl, kk3, kk4, rfl⟩
      repeat walk_at "t"
      refine CallE_c (reader_new dl) ?_
      rintro _ _ ⟨rd2, rfl, rfl⟩
      simp only [List.cons_append, List.append_assoc, List.nil_append]
      have hrd2 : ∀ k, Has ((a, AO.list [.int k]) :: (rr ++ [(b2, bloomD bits), (rd, readerD b2 body), (rd2, readerD b2 data)])) rd2 (readerD b2 data) := fun k => .tail (has_pre (.tail (.tail .head)) rr)
      repeat walk_at "t"
      refine SV1_for ?_
      repeat walk_at "t"
      refine ⟨_, iter_range (by decide) (by decide), fun i st => ∃ (kk : Int) (p1 p3 p4 p5 q : Option AV), st = ⟨LL (some (.list (ns.map .int))) (some (.list (tp.map .int))) (some (.val (.ref a))) (some (.int bits)) (some (.int lg)) (some (.obj 188 d)) (some (.list (heldL held))) (some (.list (ks.map .bytes))) p1 o2 p3 p4 p5 p6 o7 (some (.bytes body)) (some (.obj 139 b2)) (some (.obj 216 rd2)) (some (.bytes data)) q,
        (a, .list [.int kk]) :: (rr ++ [(b2, bloomD bits), (rd, readerD b2 body), (rd2, readerD b2 data)])⟩ ∧ 0 ≤ kk ∧ kk ≤ 200 + (i : Int), ⟨kk2, _, _, _, _, _, rfl, by (rename_i zq1; clear hn cl0 zq1 ht ht2 v0 v1 b0 b1 l0 l1 t0 t1 pp k1 hkl hi6 hpos Il fs sl bl dl kk4; omega), by (rename_i zq1; clear hn cl0 zq1 ht ht2 v0 v1 b0 b1 l0 l1 t0 t1 pp k0 hkl hpos Il fs sl bl dl kk3; omega)⟩, ?_, ?_⟩
      · rintro i y st2 hy ⟨kk, p1, p3, p4, p5, q, rfl, k0, k1⟩
        obtain ⟨hi, rfl⟩ := rng_get hy
        have hi4 : i < 4 := hi
        repeat walk_at "t"
        refine CallE_t (take_hd (by with_reducible assumption) (by rename_i zq3 _ zq2 zq1 _; clear hn cl0 zq3 ht ht2 v0 v1 b0 b1 l0 l1 t0 t1 pp zq2 zq1 hkl hi6 hpos Il fs sl bl dl kk3 kk4 k0 hi4; omega) (by decide) ht ht2) fun x x0 x1 => ?_
        repeat walk_at "t"
        refine CallE_b (word_spec (Int.emod_nonneg _ (by decide)) (Int.emod_lt_of_pos _ (by decide))) fun key kl => ?_
        repeat walk_at "t"
        refine SV1_mid (fun st => ∃ key : List UInt8, st = ⟨LL (some (.list (ns.map .int))) (some (.list (tp.map .int))) (some (.val (.ref a))) (some (.int bits)) (some (.int lg)) (some (.obj 188 d)) (some (.list (heldL held))) (some (.list (ks.map .bytes))) (some (.int i)) o2 (some (.int x)) (some (.bytes key)) p5 p6 o7 (some (.bytes body)) (some (.obj 139 b2)) (some (.obj 216 rd2)) (some (.bytes data)) q,
          (a, .list [.int (kk + 1)]) :: (rr ++ [(b2, bloomD bits), (rd, readerD b2 body), (rd2, readerD b2 data)])⟩ ∧ key.length ≤ 5) ?_ ?_
        · repeat walk_at "s"
          refine dsplit (fun hz => ?_) fun hz => ?_
          · repeat walk_at "s"
            refine CallE_v (len_list (by rw [List.length_map]; (rename_i zq3 _ zq2 zq1 _; clear hn cl0 zq3 ht ht2 v0 v1 b0 b1 l0 l1 t0 t1 pp zq2 zq1 hpos Il fs sl bl dl kk3 kk4 k0 k1 hi hi4 x0 x1 kl hz; omega))) ?_
            rw [List.length_map]
            repeat walk_at "s"
            refine dsplit (fun hk => ?_) fun hk => ?_
            · have m0 := Int.emod_nonneg x (b := (ks.length : Int)) (by rename_i zq3 _ zq2 zq1 _; clear hn cl0 zq3 ht ht2 v0 v1 b0 b1 l0 l1 t0 t1 pp zq2 zq1 hkl hi6 hpos Il fs sl bl dl kk3 kk4 k0 k1 hi hi4 x0 x1 kl hz; omega)
              have m1 := Int.emod_lt_of_pos x (b := (ks.length : Int)) (by with_reducible assumption)
              obtain ⟨key2, hkey2⟩ : ∃ key2, ks[(x % (ks.length : Int)).toNat]? = some key2 := ⟨_, List.getElem?_eq_getElem (by rename_i zq3 _ zq2 zq1 _; clear hn cl0 zq3 ht ht2 v0 v1 b0 b1 l0 l1 t0 t1 pp zq2 zq1 hkl hi6 hpos Il fs sl bl dl kk3 kk4 k0 k1 hi hi4 x0 x1 kl hz hk; omega)⟩
              have hkm : key2 ∈ ks := by obtain ⟨h1, h2⟩ := List.getElem?_eq_some_iff.mp hkey2; exact h2 ▸ List.getElem_mem h1
              repeat walk_at "s"
              refine CallE_v (len_list (by rw [List.length_map]; (rename_i zq3 _ zq2 zq1 _; clear hn cl0 zq3 ht ht2 v0 v1 b0 b1 l0 l1 t0 t1 pp zq2 zq1 hpos Il fs sl bl dl kk3 kk4 k0 k1 hi hi4 x0 x1 kl hz hk m0 m1; omega))) ?_
              rw [List.length_map]
              repeat walk_at "s"
              refine xSub (sub_list (z := .bytes key2) m0 (by rename_i zq3 _ zq2 zq1 _; clear hn cl0 zq3 ht ht2 v0 v1 b0 b1 l0 l1 t0 t1 pp zq2 zq1 hpos Il fs sl bl dl kk3 kk4 k0 k1 hi hi4 x0 x1 kl hz hk m0; omega) (by rw [List.getElem?_map, hkey2]; rfl)) ?_
              repeat walk_at "s"
              exact ⟨rfl, key2, rfl, hks _ hkm⟩
            · repeat walk_at "s"
              exact ⟨rfl, key, rfl, kl⟩
          · repeat walk_at "s"
            exact ⟨rfl, key, rfl, kl⟩
        rintro _ ⟨key, rfl, kl⟩
        repeat walk_at "t"
        refine CallE_v (len_list (by rw [heldL_len]; (rename_i zq4 _ zq3 zq2 _ _ zq1; clear hn cl0 zq4 ht ht2 v0 v1 b0 b1 l0 l1 t0 t1 pp zq3 zq2 hkl hpos fs sl bl dl kk3 kk4 k0 k1 hi hi4 x0 x1 zq1 kl; omega))) ?_
        rw [heldL_len]
        repeat walk_at "t"
        refine bin_pow l0 (by rename_i zq4 _ zq3 zq2 _ _ zq1; clear hn cl0 zq4 ht ht2 v0 v1 b0 b1 l0 t0 t1 pp zq3 zq2 hkl hi6 hpos Il fs sl bl dl kk3 kk4 k0 k1 hi hi4 x0 x1 zq1 kl; omega) (by decide) ?_
        refine bin_mul (.inl (by rename_i zq4 _ zq3 zq2 _ _ zq1; clear hn cl0 zq4 ht ht2 v0 v1 b0 b1 l0 l1 t0 t1 pp zq3 zq2 hkl hpos fs sl bl dl kk3 kk4 k0 k1 hi hi4 x0 x1 zq1 kl; omega)) ?_
        have pm : 0 < ((held.length : Int) + 2) * 2 ^ lg.toNat := Int.mul_pos (by rename_i zq4 _ zq3 zq2 _ _ zq1; clear hn cl0 zq4 ht ht2 v0 v1 b0 b1 l0 l1 t0 t1 pp zq3 zq2 hkl hi6 hpos Il fs sl bl dl kk3 kk4 k0 k1 hi hi4 x0 x1 zq1 kl; omega) (by rename_i zq4 _ zq3 zq2 _ _ zq1; clear hn cl0 zq4 ht ht2 v0 v1 b0 b1 l0 l1 t0 t1 zq3 zq2 hkl hi6 hpos Il fs sl bl dl kk3 kk4 k0 k1 hi hi4 x0 x1 zq1 kl; omega)
        refine bin_mod pm ?_
        have f0 := Int.emod_nonneg (x / 7) (b := ((held.length : Int) + 2) * 2 ^ lg.toNat) (by rename_i zq4 _ zq3 zq2 _ _ zq1; clear hn cl0 zq4 ht ht2 v0 v1 b0 b1 l0 l1 t0 t1 pp zq3 zq2 hkl hi6 hpos Il fs sl bl dl kk3 kk4 k0 k1 hi hi4 x0 x1 zq1 kl; omega)
        generalize x / 7 % (((held.length : Int) + 2) * 2 ^ lg.toNat) = off at *
        repeat walk_at "t"
        refine SV1_if ?_
        repeat walk_at "t"
        refine xGetM (rd_getM (hrd2 _)) (keepOk_ref (by kernel_rfl)) ?_
        repeat walk_at "t"
        refine CallE_w (rdmay_spec (hrd2 _) (hb2 _ _) dl (by rename_i zq4 _ zq3 zq2 _ _ zq1; clear hn cl0 zq4 ht ht2 v0 v1 b0 b1 l0 l1 t0 t1 pp zq3 zq2 hkl hi6 hpos Il fs sl bl dl kk3 kk4 k0 k1 hi hi4 x0 x1 zq1 pm f0; omega) f0) ?_
        repeat walk_at "t"
        refine CallE_w (says_spec dl (by rename_i zq4 _ zq3 zq2 _ _ zq1; clear hn cl0 zq4 ht ht2 v0 v1 b0 b1 l0 l1 t0 t1 pp zq3 zq2 hkl hi6 hpos Il fs sl bl dl kk3 kk4 k0 k1 hi hi4 x0 x1 zq1 pm f0; omega) f0) ?_
        refine cmp_neB ?_
        rw [show (ansB data off key != ansB data off key) = false by simp]
        repeat walk_at "t"
        have pr0 := Int.emod_nonneg (x / 5) (b := (data.length : Int) + 1) (by rename_i zq4 _ zq3 zq2 _ _ zq1; clear hn cl0 zq4 ht ht2 v0 v1 b0 b1 l0 l1 t0 t1 pp zq3 zq2 hkl hi6 hpos Il fs sl bl dl kk3 kk4 k0 k1 hi hi4 x0 x1 zq1 kl pm f0; omega)
        refine xSl (sl_bytes (by rename_i zq4 _ zq3 zq2 _ _ zq1; clear hn cl0 zq4 ht ht2 v0 v1 b0 b1 l0 l1 t0 t1 pp zq3 zq2 hkl hi6 hpos Il fs sl bl kk3 kk4 k0 k1 hi hi4 x0 x1 zq1 kl pm f0 pr0; omega)) ?_
        have cl := cut_len data none (some (x / 5 % ((data.length : Int) + 1)))
        generalize cut data none (some (x / 5 % ((data.length : Int) + 1))) = part at *
        repeat walk_at "t"
        refine SV1_if ?_
        repeat walk_at "t"
        refine xGetM (bloom_getM2 (hb2 _ _)) (keepOk_ref (by kernel_rfl)) ?_
        repeat walk_at "t"
        refine CallE_w (may_spec (by rename_i zq4 _ zq3 zq2 _ _ zq1; clear hn cl0 zq4 ht ht2 v0 v1 b0 b1 l0 l1 t0 t1 pp zq3 zq2 hkl hi6 hpos Il fs sl bl kk3 kk4 k0 k1 hi hi4 x0 x1 zq1 kl pm f0 pr0; omega) (by rename_i zq4 _ zq3 zq2 _ _ zq1; clear hn cl0 zq4 ht ht2 v0 v1 b0 b1 l0 l1 t0 t1 pp zq3 zq2 hkl hi6 hpos Il fs sl bl dl kk3 kk4 k0 k1 hi hi4 x0 x1 zq1 pm f0 pr0 cl; omega)) ?_
        repeat walk_at "t"
        refine CallE_w (lit_spec (by rename_i zq4 _ zq3 zq2 _ _ zq1; clear hn cl0 zq4 ht ht2 v0 v1 b0 b1 l0 l1 t0 t1 pp zq3 zq2 hkl hi6 hpos Il fs sl bl kk3 kk4 k0 k1 hi hi4 x0 x1 zq1 kl pm f0 pr0; omega) (by rename_i zq4 _ zq3 zq2 _ _ zq1; clear hn cl0 zq4 ht ht2 v0 v1 b0 b1 l0 l1 t0 t1 pp zq3 zq2 hkl hi6 hpos Il fs sl bl dl kk3 kk4 k0 k1 hi hi4 x0 x1 zq1 pm f0 pr0 cl; omega)) ?_
        refine cmp_neB ?_
        rw [show (litB part key != litB part key) = false by simp]
        repeat walk_at "t"
        exact ⟨kk + 1, _, _, _, _, _, rfl, by (rename_i zq4 _ zq3 zq2 _ _ zq1; clear hn cl0 zq4 ht ht2 v0 v1 b0 b1 l0 l1 t0 t1 pp zq3 zq2 hkl hi6 hpos Il fs sl bl dl kk3 kk4 k1 hi hi4 x0 x1 zq1 kl pm f0 pr0 cl; omega), by (rename_i zq4 _ zq3 zq2 _ _ zq1; clear hn cl0 zq4 ht ht2 v0 v1 b0 b1 l0 l1 t0 t1 pp zq3 zq2 hkl hi6 hpos Il fs sl bl dl kk3 kk4 k0 hi hi4 x0 x1 zq1 kl pm f0 pr0 cl; omega)⟩
      · rintro st2 ⟨kk, p1, p3, p4, p5, q, rfl, k0, k1⟩
        have k1' : kk ≤ 204 := k1
        repeat walk_at "t"
        refine CallE_t (take_hd (by with_reducible assumption) (by rename_i zq3 _ zq2 zq1 _; clear hn cl0 zq3 ht ht2 v0 v1 b0 b1 l0 l1 t0 t1 pp zq2 zq1 hkl hi6 hpos Il fs sl bl dl kk3 kk4 k0 k1; omega) (by decide) ht ht2) fun w w0 w1 => ?_
        repeat walk_at "t"
        refine ⟨by decide, ?_⟩
        repeat walk_at "t"
        refine CallE_t (take_hd (by rename_i zq3 _ zq2 zq1 _; clear hn cl0 zq3 ht ht2 v0 v1 b0 b1 l0 l1 t0 t1 pp zq2 zq1 hkl hi6 hpos Il fs sl bl dl kk3 kk4 k1 k1' w0 w1; omega) (by rename_i zq3 _ zq2 zq1 _; clear hn cl0 zq3 ht ht2 v0 v1 b0 b1 l0 l1 t0 t1 pp zq2 zq1 hkl hi6 hpos Il fs sl bl dl kk3 kk4 k0 k1 w0 w1; omega) (by decide) ht ht2) fun u u0 u1 => ?_
        obtain ⟨bad, hbad, hb⟩ := pick_bad u0 u1
        refine xSub (sub_tup u0 (by rename_i zq3 _ zq2 zq1 _; clear hn cl0 zq3 ht ht2 v0 v1 b0 b1 l0 l1 t0 t1 pp zq2 zq1 hkl hi6 hpos Il fs sl bl dl kk3 kk4 k0 k1 k1' w0 w1 u0 hb; omega) hbad) ?_
        repeat walk_at "t"
        refine CallE_c (bad_spec (by rename_i zq3 _ zq2 zq1 _; clear hn cl0 zq3 ht ht2 v0 v1 b0 b1 l0 l1 t0 t1 pp zq2 zq1 hkl hi6 hpos Il fs sl bl dl kk3 kk4 k0 k1 k1' w1 u0 u1 hb; omega) hb) ?_
        rintro _ _ ⟨rfl, _⟩
        rfl


theorem ints_reps {Z : Addr → Prop} {h : Heap} : ∀ {vs : List Value} {ns : List Int}, IntsAre vs ns → reps Z h (ns.map .int) vs
  | _, _, .nil => rfl
  | _, _, .cons n t r => ⟨_, _, rfl, ⟨t, rfl⟩, ints_reps r⟩
theorem top_call {w : World} {s₁ : Shared} {mg mb : Str → Option Value} {fa a : Addr} {ns : List Int} {vs : List Value} {Q E : Value → Shared → Prop} (KX : (KF w.params).In s₁.heap) (g : s₁.heap.Ns mainGlobals mg) (b : s₁.heap.Ns builtinsNs mb) (nl : s₁.heap.NoLimit)
    (bl : ∀ x : Str, x ≠ "__name__" → mb x = bootBuiltins x) (hmg : mg "law" = some (.ref fa)) (hn : ns.length ≤ 63) (hL : s₁.heap.IsList a vs.toArray) (hI : IntsAre vs ns)
    (k : ∀ h' tk, (∀ b o, s₁.heap.get? b = some o → h'.get? b = some o) → Q (.bool true) { s₁ with heap := h', toks := tk }) :
    wpAny (model _root_.PySem.Challenge.rw_no0400_01.row.prog w) ⟨callerA, true⟩ (call (.ref fa) [.ref a]) Q E s₁ := by
  let D : Wd (KF w.params) := ⟨_root_.PySem.Challenge.rw_no0400_01.row.prog, w, s₁.heap, mg, mb, KX, g, b, nl, bl⟩
  have e : mg "law" = some (.ref 297) := mg_of KX g (by kernel_rfl)
  rw [e] at hmg
  cases hmg
  have G : Good D true true 8 ⟨callerA, true⟩ [] s₁.heap := by
    refine ⟨fun _ => rfl, fun _ => rfl, rfl, ?_, ?_, [], rfl, trivial, (fun _ h => nomatch h)⟩
    · decide +kernel
    · decide +kernel
  have H : HR D (fun x => x = a) [] [] s₁.heap := by
    obtain ⟨o, ho, _⟩ := hL
    exact ⟨fun _ _ e => e, (fun _ h => nomatch h), List.nodup_nil, (fun _ h => nomatch h), (fun _ _ h => nomatch h), (fun x e => ⟨o, by rw [show x = a from e]; exact ho⟩), (fun _ h => nomatch h)⟩
  refine law_spec (D := D) hn ⟨callerA, true⟩ [] (fun x => x = a) s₁ [.ref a] G H ⟨_, _, rfl, ⟨a, vs.toArray, rfl, rfl, hL, by rw [List.toList_toArray]; exact ints_reps hI⟩, rfl⟩ Q E ?_
  rintro v x Z' hp' s' rfl C r
  cases r
  obtain ⟨h', tk, rfl⟩ := C.sh
  exact k h' tk fun b o e => C.tr.keep b o (fun h => nomatch h) (fun h => nomatch h) e
theorem top_holds : _root_.PySem.Challenge.rw_no0400_01.Holds := by
  refine head fun dd kwd hdef => ?_
  have hdn := defOf_name hdef
  intro w s₀ s₁ mg mb G Y fa o pm cd doc dV kV ho hd' hcd hD hmg hg args vals as hpre hlay hrd hwl hlo
  have KX := kIn_of Y
  refine Ground.open G ?_
  intro T B D' TE TW
  rw [hdn] at hmg
  clear hd' hcd hD hdn hdef
  wrow_args hpre hlay hrd hwl hlo
  rename_i ns _ _ a vs _ hL _ _ _ hI _ hlen _
  refine top_call KX T.g T.b T.nolimit T.builtins hmg (by walk_at "o") hL hI fun h' tk keep => ?_
  refine GoodW.toG ⟨.inl ⟨_, .bool true, [], rfl, fun _ => rfl, .bool true, by first | rfl | kernel_rfl | decide +kernel, fun _ => ⟨List.nodup_nil, (fun _ h => nomatch h)⟩⟩, keep, rfl, hg⟩

end Mine

theorem PySem.Challenge.cw_no0400_01_holds : PySem.Challenge.rw_no0400_01.Holds :=
  Mine.top_holds
